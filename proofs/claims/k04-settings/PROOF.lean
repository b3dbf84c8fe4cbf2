import PyProof.Rows.All
import Wide.All
import OpenK.AllK
import Wide.FinOn
import HandS.ForMost
import HandS.Exc
import HandS.ExcOwn
import HandS.TupAny
import HandS.TupMul
import HandS.Style
import HandS.Text
import PyProof.StrBlock2
import HandS.CallSlots
import HandS.Defaults
import HandS.Ends
import HandS.Zip
import HandS.Comp
import HandS.Iter
import HandS.Strs
import PyProof.ReprRoads
import HandS.IsInst
import HandS.ExcIs
import HandS.SortInts
import HandS.Small
import HandS.ExcValue
import HandS.More
import KE.KDictPairs
import KE.KStateDown
import HandS.Head0
import HandS.Head1
import HandS.Head2
import HandS.HeadEnd
import HandS.HeadHook1
import HandS.HeadHook2
import HandS.HeadHook3
import KE.KRevSl
import PySem.Challenge.RW_readyhall_k04_settings
section
set_option Elab.async false
set_option linter.all false
set_option maxRecDepth 100000
set_option maxHeartbeats 1000000
/-! PMSem: a small pure machine. Data are PyData trees; lists and dicts that a slot owns are changed in place; all else is frozen. -/
namespace PM
open PySem

abbrev D := PyData
abbrev Key := L2.Key

inductive Val where
  | d (x : D)
  | ol (vs : List Val)
  | od (kvs : List (Key × Val))
  | ex (c : Str) (fs : List (Str × D))
  | pk (i : Nat)

structure Ex where
  c : Str
  fs : List (Str × D)

abbrev Env := List (Option Val)

inductive Res (α : Type) where
  | ok (a : α) (e : Env)
  | ex (x : Ex) (e : Env)
  | no

def Res.bind {α β : Type} (r : Res α) (f : α → Env → Res β) : Res β := match r with
  | .ok a e => f a e
  | .ex x e => .ex x e
  | .no => .no

inductive CRes where
  | ok (v : Val) (as : List Val)
  | ex (x : Ex) (as : List Val)
  | no

/-! ### looking -/
def isD : Val → Option D
  | .d x => some x
  | _ => none
def allD : List Val → Option (List D)
  | [] => some []
  | v :: vs => match isD v, allD vs with
    | some x, some xs => some (x :: xs)
    | _, _ => none
def keyD : Key → D
  | .inl i => .int i
  | .inr x => .str x
def dKey : D → Option Key
  | .int i => some (.inl i)
  | .str x => some (.inr x)
  | _ => none
def allKD : List (Key × Val) → Option (List (D × D))
  | [] => some []
  | (k, v) :: r => match isD v, allKD r with
    | some x, some xs => some ((keyD k, x) :: xs)
    | _, _ => none
/-- data, if all within is frozen -/
def frD : Val → Option D
  | .d x => some x
  | .ol vs => (allD vs).map .list
  | .od kvs => (allKD kvs).map .dict
  | _ => none
def getK (kvs : List (D × D)) (k : Key) : Option D := (kvs.find? fun p => decide (dKey p.1 = some k)).map (·.2)
def getS (e : Env) (i : Nat) : Option Val := (e[i]?).join
def see (e : Env) : Val → Option D
  | .pk i => (getS e i).bind frD
  | v => frD v
def owned : Val → Bool
  | .ol _ => true
  | .od _ => true
  | _ => false
/-- the value frozen: what a slot owns is owned no more -/
def take (e : Env) : Val → Option (D × Env)
  | .pk i => (getS e i).bind fun v => (frD v).map fun x => (x, e.set i (some (.d x)))
  | v => (frD v).map fun x => (x, e)
def takes (e : Env) : List Val → Option (List D × Env)
  | [] => some ([], e)
  | v :: vs => (take e v).bind fun p => (takes p.2 vs).map fun q => (p.1 :: q.1, q.2)

/-! ### operators -/
def lineN : Nat := sizeLine
def okMul (i j : Int) : Bool := (decide (-(2 ^ 64) < i) && decide (i < 2 ^ 64)) || (decide (-(2 ^ 64) < j) && decide (j < 2 ^ 64))
def repD {α : Type} (xs : List α) (k : Int) : List α := (List.replicate k.toNat xs).flatten
def binD (op : Operator) (a b : D) : Option Val := match op, a, b with
  | .Add, .int i, .int j => some (.d (.int (i + j)))
  | .Add, .str x, .str y => if x.length + y.length ≤ lineN then some (.d (.str (x ++ y))) else none
  | .Add, .tuple xs, .tuple ys => if xs.length + ys.length ≤ lineN then some (.d (.tuple (xs ++ ys))) else none
  | .Add, .list xs, .list ys => if xs.length + ys.length ≤ lineN then some (.ol ((xs ++ ys).map .d)) else none
  | .Sub, .int i, .int j => some (.d (.int (i - j)))
  | .Mult, .int i, .int j => if okMul i j then some (.d (.int (i * j))) else none
  | .Mult, .list xs, .int k => if -(2 ^ 63) ≤ k ∧ k < 2 ^ 63 ∧ xs.length * k.toNat ≤ lineN then some (.ol ((repD xs k).map .d)) else none
  | .Mult, .tuple xs, .int k => if xs ≠ [] ∧ 2 ≤ k ∧ k < 2 ^ 62 ∧ xs.length * k.toNat ≤ lineN then some (.d (.tuple (repD xs k))) else none
  | .Mult, .str x, .int k => if 0 ≤ k ∧ k < 2 ^ 62 ∧ x.length * k.toNat ≤ lineN then some (.d (.str ⟨(repD x.cps.toList k).toArray⟩)) else none
  | .FloorDiv, .int i, .int j => if 0 < j ∧ j < 1073741824 then some (.d (.int (i / j))) else none
  | .Mod, .int i, .int j => if 0 < j then some (.d (.int (i % j))) else none
  | .Pow, .int i, .int j => if 0 ≤ j ∧ j ≤ 1000000 ∧ i.natAbs < 2 ^ 64 then some (.d (.int (i ^ j.toNat))) else none
  | _, _, _ => none
def okEq (a b : D) : Bool := a.canLay0 && b.canLay0 && decide (min a.depth b.depth ≤ 64)
def scalD : D → D → Bool
  | .none, .none => true
  | .int _, .int _ => true
  | .bool _, .bool _ => true
  | .str _, .str _ => true
  | _, _ => false
/-- one of both is empty -/
def empD : D → D → Bool
  | .tuple xs, .tuple ys => xs.isEmpty || ys.isEmpty
  | .list xs, .list ys => xs.isEmpty || ys.isEmpty
  | _, _ => false
def eqD (a b : D) : Option Bool := if scalD a b || okEq a b || empD a b then some (PyData.eqv a b) else none
def inD (a b : D) : Option Bool := match b with
  | .list ys => if okEq a b then some (ys.any fun y => PyData.eqv y a) else none
  | .tuple ys => if okEq a b then some (ys.any fun y => PyData.eqv y a) else none
  | .dict kvs => match dKey a with
    | some k => some (getK kvs k).isSome
    | none => none
  | .str z => match a with
    | .str c => match c.cps.toList with
      | [n] => some (decide (n ∈ z.cps.toList))
      | _ => none
    | _ => none
  | _ => none
def ltS (x y : Str) : Bool := decide (x.cps.toList < y.cps.toList)
def cmpD (op : CmpOp) (a b : D) : Option Bool := match op with
  | .Eq => eqD a b
  | .NotEq => (eqD a b).map (!·)
  | .In => inD a b
  | .NotIn => (inD a b).map (!·)
  | .Lt => match a, b with
    | .int i, .int j => some (decide (i < j))
    | .str x, .str y => some (ltS x y)
    | _, _ => none
  | .LtE => match a, b with
    | .int i, .int j => some (decide (i ≤ j))
    | .str x, .str y => some (!ltS y x)
    | _, _ => none
  | .Gt => match a, b with
    | .int i, .int j => some (decide (j < i))
    | .str x, .str y => some (ltS y x)
    | _, _ => none
  | .GtE => match a, b with
    | .int i, .int j => some (decide (j ≤ i))
    | .str x, .str y => some (!ltS x y)
    | _, _ => none
  | _ => none
/-- is it None -/
def nonV (e : Env) : Val → Option Bool
  | .d .none => some true
  | .pk i => match getS e i with
    | some (.ol _) => some false
    | some (.od _) => some false
    | _ => none
  | _ => some false
/-- is it that truth -/
def truV : Val → Option Bool
  | .d (.bool x) => some x
  | _ => none
def truD : D → Option Bool
  | .none => some false
  | .bool b => some b
  | .int i => some (i != 0)
  | .str x => if x.length ≤ lineN then some ((x.length : Int) != 0) else none
  | .list xs => some (!xs.isEmpty)
  | .tuple xs => some (!xs.isEmpty)
  | .dict _ => none

/-! ### subscripts -/
def idxD (a i : D) : Option D := match a, i with
  | .list xs, .int k => L2.atI xs k
  | .tuple xs, .int k => L2.atI xs k
  | .str z, .int k => if z.length ≤ lineN then (L2.atI z.cps.toList k).map fun c => .str ⟨#[c]⟩ else none
  | .dict kvs, k => match dKey k with
    | some k => getK kvs k
    | none => none
  | _, _ => none
def cut {α : Type} (xs : List α) (lo hi : Option Int) : List α := (xs.drop (HT.sIx xs.length 0 lo)).take (HT.sIx xs.length xs.length hi - HT.sIx xs.length 0 lo)
def sliD (a : D) (lo hi : Option Int) : Option Val := match a with
  | .list xs => some (.ol ((cut xs lo hi).map .d))
  | .tuple xs => some (.d (.tuple (cut xs lo hi)))
  | .str z => if z.length ≤ lineN then some (.d (.str ⟨(cut z.cps.toList lo hi).toArray⟩)) else none
  | _ => none
/-- the items at a slice's places -/
def picks {α : Type} (xs : List α) (lo hi st : Option Int) : List α := (sliceRange (sliceBounds lo hi st xs.length).1 (sliceBounds lo hi st xs.length).2.1 (sliceBounds lo hi st xs.length).2.2).filterMap (xs[·]?)
/-- a list's slice with a step -/
def slisD (a : D) (lo hi : Option Int) (st : Int) : Option Val := match a with
  | .list xs => if st ≠ 0 ∧ (picks xs lo hi (some st)).length ≤ lineN then some (.ol ((picks xs lo hi (some st)).map .d)) else none
  | _ => none
def partD : D → Option Int
  | .int i => some i
  | _ => none

/-! ### built-in functions and methods, by data -/
inductive Bi where
  | len | all | any | sum | max | min | sorted | list | tuple | int | str | dict | repr | lenset | sortset | abs
  deriving DecidableEq, Repr
def intsD : List D → Option (List Int)
  | [] => some []
  | .int i :: r => (intsD r).map (i :: ·)
  | _ => none
def strsD : List D → Option (List Str)
  | [] => some []
  | .str i :: r => (strsD r).map (i :: ·)
  | _ => none
def boolsD : List D → Option (List Bool)
  | [] => some []
  | .bool i :: r => (boolsD r).map (i :: ·)
  | _ => none
def items : D → Option (List D)
  | .list xs => some xs
  | .tuple xs => some xs
  | _ => none
def insI (x : Int) : List Int → List Int
  | [] => [x]
  | y :: r => if x ≤ y then x :: y :: r else y :: insI x r
def sortI (xs : List Int) : List Int := xs.foldr insI []
def leS (x y : Str) : Bool := !ltS y x
def insS (x : Str) : List Str → List Str
  | [] => [x]
  | y :: r => if leS x y then x :: y :: r else y :: insS x r
def sortS (xs : List Str) : List Str := xs.foldr insS []
def maxL : List Int → Option Int
  | [] => none
  | x :: r => some (r.foldl (fun a b => if a < b then b else a) x)
def minL : List Int → Option Int
  | [] => none
  | x :: r => some (r.foldl (fun a b => if b < a then b else a) x)
def addS (acc : List Str) (x : Str) : List Str := if x ∈ acc then acc else acc ++ [x]
/-- each text once -/
def dedS (xs : List Str) : List Str := xs.foldl addS []
def olI (xs : List Int) : Val := .ol (xs.map fun i => .d (.int i))
def olS (xs : List Str) : Val := .ol (xs.map fun i => .d (.str i))
def pairK : D → Option (Key × D)
  | .tuple [k, v] => (dKey k).map fun k => (k, v)
  | _ => none
def pairsK : List D → Option (List (Key × D))
  | [] => some []
  | x :: r => (pairK x).bind fun p => (pairsK r).map (p :: ·)
def putK {α : Type} (kvs : List (Key × α)) (k : Key) (v : α) : List (Key × α) :=
  if (kvs.any fun kv => decide (kv.1 = k)) = true then kvs.map (fun kv => if kv.1 = k then (kv.1, v) else kv) else kvs ++ [(k, v)]
/-- key, value, key, value, .. -/
def twosK : List D → Option (List (Key × D))
  | [] => some []
  | [_] => none
  | k :: v :: r => (dKey k).bind fun k => (twosK r).map ((k, v) :: ·)
def mergeD (kvs more : List (Key × D)) : List (Key × D) := more.foldl (fun acc kv => putK acc kv.1 kv.2) kvs
def liftK (kvs : List (Key × D)) : List (Key × Val) := kvs.map fun p => (p.1, .d p.2)
/-- repr(x) of a list or a tuple -/
def reprV (x : D) : Option Val := if (x.canLay0 && x.showable && decide (x.depth ≤ 64) && decide (x.shown.length ≤ lineN)) = true then some (.d (.str x.shown)) else none
def biD (b : Bi) (as : List D) : Option Val := match b, as with
  | .repr, [.list xs] => reprV (.list xs)
  | .repr, [.tuple xs] => reprV (.tuple xs)
  | .len, [.str z] => if z.length ≤ lineN then some (.d (.int z.length)) else none
  | .len, [.dict kvs] => some (.d (.int kvs.length))
  | .len, [a] => (items a).map fun xs => .d (.int xs.length)
  | .all, [.list xs] => (boolsD xs).map fun bs => .d (.bool (bs.all id))
  | .any, [.list xs] => (boolsD xs).map fun bs => .d (.bool (bs.any id))
  | .sum, [.list xs] => (intsD xs).map fun ns => .d (.int ns.sum)
  | .max, [.list xs] => (intsD xs).bind fun ns => (maxL ns).map fun m => .d (.int m)
  | .min, [.list xs] => (intsD xs).bind fun ns => (minL ns).map fun m => .d (.int m)
  | .max, [.int i, .int j] => some (.d (.int (if j > i then j else i)))
  | .min, [.int i, .int j] => some (.d (.int (if j < i then j else i)))
  | .sorted, [.list xs] => match intsD xs with
    | some ns => some (olI (sortI ns))
    | none => match strsD xs with
      | some ss => if ss.length < 64 then some (olS (sortS ss)) else none
      | none => none
  | .list, [a] => (items a).map fun xs => .ol (xs.map .d)
  | .tuple, [a] => (items a).map fun xs => .d (.tuple xs)
  | .int, [.int i] => some (.d (.int i))
  | .int, [.bool i] => some (.d (.int (if i then 1 else 0)))
  | .str, [.int i] => if i.natAbs.log2 < 1920 then some (.d (.str (toString i : String))) else none
  | .lenset, [a] => (items a).bind fun xs => (strsD xs).bind fun ss => if ss.length < 1000 then some (.d (.int (dedS ss).length)) else none
  | .sortset, [.list xs] => (strsD xs).bind fun ss => if ss.length < 64 then some (olS (sortS (dedS ss))) else none
  | .dict, [.list ps] => (pairsK ps).map fun more => .od (liftK (mergeD [] more))
  | .abs, [.int i] => some (.d (.int (if i < 0 then -i else i)))
  | _, _ => none
/-- a written dict of the module -/
inductive TOp where
  | get | get2 | idx
  deriving DecidableEq, Repr
def tabD (op : TOp) (kvs : List (Str × D)) (as : List D) : Option D := match op, as with
  | .get, [.str k] => some ((kvs.lookup k).getD .none)
  | .get2, [.str k, z] => some ((kvs.lookup k).getD z)
  | .idx, [.str k] => kvs.lookup k
  | _, _ => none
def isDicD : D → Bool
  | .dict _ => true
  | _ => false
/-- d.get(k), d.get(k, z) -/
def getD2 (o k z : D) : Option D := match o with
  | .dict kvs => (dKey k).map fun k => (getK kvs k).getD z
  | _ => none
/-- d.update(pairs) -/
def unK : List (Key × Val) → Option (List (Key × D))
  | [] => some []
  | (k, v) :: r => match isD v, unK r with
    | some x, some xs => some ((k, x) :: xs)
    | _, _ => none
def updV (o : Val) (a : D) : Option Val := match o, a with
  | .od kvs, .list ps => (unK kvs).bind fun k0 => (pairsK ps).bind fun more => if k0.length + more.length ≤ lineN then some (.od (liftK (mergeD k0 more))) else none
  | _, _ => none
inductive Mt where
  | join | upper | count | index | get | get2
  deriving DecidableEq, Repr
def mtD (m : Mt) (o : D) (as : List D) : Option Val := match m, o, as with
  | .join, .str a, [x] => (items x).bind fun xs => (strsD xs).bind fun ss => if (ss.map (·.length)).sum + ss.length * a.length ≤ 16777216 then some (.d (.str (Txt.join a ss))) else none
  | .upper, .str a, [] => if a.length ≤ 5592405 then some (.d (.str (Txt.upper a))) else none
  | .get, .dict kvs, [k] => (dKey k).map fun k => .d ((getK kvs k).getD .none)
  | .get2, .dict kvs, [k, z] => (dKey k).map fun k => .d ((getK kvs k).getD z)
  | _, _, _ => none
/-- methods that change what their receiver's slot owns -/
inductive Mu where
  | append | extend | pop | clear | update
  deriving DecidableEq, Repr
def mergeV (kvs : List (Key × Val)) : List (Key × D) → List (Key × Val)
  | [] => kvs
  | (k, v) :: r => mergeV (putK kvs k (.d v)) r
def muV (m : Mu) (o : Val) (as : List D) : Option (Val × Val) := match m, o, as with
  | .append, .ol vs, [x] => if vs.length < lineN then some (.d .none, .ol (vs ++ [.d x])) else none
  | .extend, .ol vs, [.list xs] => if vs.length + xs.length ≤ lineN then some (.d .none, .ol (vs ++ xs.map .d)) else none
  | .extend, .ol vs, [.tuple xs] => if vs.length + xs.length ≤ lineN then some (.d .none, .ol (vs ++ xs.map .d)) else none
  | .pop, .ol vs, [] => (allD vs).bind fun ds => match ds.getLast? with
    | some x => some (.d x, .ol (ds.dropLast.map .d))
    | none => none
  | .clear, .ol vs, [] => (allD vs).map fun _ => (.d .none, .ol [])
  | _, _, _ => none

/-! ### the text -/
inductive Ty where
  | bt (n : String)
  | cl (c : Str)
  deriving DecidableEq, Repr
inductive Tgt where
  | nm (i : Nat)
  | tup (ts : List Tgt)
mutual
inductive ME where
  | c (x : D)
  | v (i : Nat)
  | bin (op : Operator) (a b : ME)
  | neg (a : ME)
  | cmp (op : CmpOp) (a b : ME)
  | isN (neg : Bool) (a : ME)
  | isB (neg : Bool) (a : ME) (k : Bool)
  | chain (op op' : CmpOp) (a b c : ME)
  | and (a b : ME)
  | or (a b : ME)
  | not (a : ME)
  | ite (c a b : ME)
  | tup (es : List ME)
  | lst (es : List ME)
  | dic (es : List ME)
  | idx (a i : ME)
  | sli (a : ME) (lo hi : Option ME)
  | slis (a : ME) (lo hi st : Option ME)
  | call (f : Nat) (es : List ME)
  | bi (b : Bi) (es : List ME)
  | mt (m : Mt) (o : ME) (es : List ME)
  | mu (m : Mu) (i : Nat) (es : List ME)
  | tab (op : TOp) (kvs : List (Str × D)) (es : List ME)
  | dget (o k : ME)
  | dget2 (o k z : ME)
  | upd (i : Nat) (a : ME)
  | isi (a : ME) (ts : List Ty)
  | fld (a : ME) (f : Str)
  | lc (elt : ME) (t : Tgt) (it : MI) (cs : List ME) (own : List Nat)
inductive MI where
  | seq (a : ME)
  | rng1 (a : ME)
  | rng2 (a b : ME)
  | enum (a : ME)
  | zip (a b : ME)
end
inductive MS where
  | expr (a : ME)
  | ret (a : ME)
  | retN
  | set (t : Tgt) (a : ME)
  | par (is : List Nat) (es : List ME)
  | aug (i : Nat) (op : Operator) (a : ME)
  | setix (i : Nat) (k a : ME)
  | ite (c : ME) (a b : List MS)
  | for_ (t : Tgt) (it : MI) (body : List MS)
  | while (c : ME) (body : List MS)
  | raise (c : Str) (es : List ME)
  | tryset (body : List MS) (c : Str) (n y : Nat)
  | pass
  | brk
  | cont

/-! ### running -/
structure Ctx where
  call : Nat → List Val → CRes
  sub : Str → Str → Bool
  flds : Str → List Str
  /-- slots that hold what is lent: they are not rebound -/
  pr : List Bool

def setSl (c : Ctx) (e : Env) (i : Nat) (v : Val) : Option Env := if c.pr[i]? = some true ∨ e.length ≤ i then none else some (e.set i (some v))
/-- a value that is stored: what another slot owns is frozen -/
def stow (e : Env) : Val → Option (Val × Env)
  | .pk i => (take e (.pk i)).map fun p => (.d p.1, p.2)
  | v => some (v, e)
mutual
def asg (c : Ctx) : Tgt → Val → Env → Option Env
  | .nm i, v, e => setSl c e i v
  | .tup ts, .d (.tuple ds), e => asgs c ts ds e
  | _, _, _ => none
def asgs (c : Ctx) : List Tgt → List D → Env → Option Env
  | [], [], e => some e
  | t :: ts, x :: xs, e => (asg c t (.d x) e).bind fun e1 => asgs c ts xs e1
  | _, _, _ => none
end
def isiD : D → String → Bool
  | .none, t => t == "NoneType" || t == "object"
  | .bool _, t => t == "bool" || t == "int" || t == "object"
  | .int _, t => t == "int" || t == "object"
  | .str _, t => t == "str" || t == "object"
  | .list _, t => t == "list" || t == "object"
  | .tuple _, t => t == "tuple" || t == "object"
  | .dict _, t => t == "dict" || t == "object"
def tyD : Ty → D → Bool
  | .bt n, x => isiD x n
  | .cl _, _ => false
def excBases : List String := ["ValueError", "Exception", "BaseException", "object"]
def tyE (sub : Str → Str → Bool) (x : Str) : Ty → Bool
  | .bt n => excBases.contains n
  | .cl c => sub x c
def isiV (c : Ctx) (e : Env) (v : Val) (ts : List Ty) : Option Bool := match v with
  | .ex x [] => some (ts.any fun t => tyE c.sub x t)
  | .ex _ _ => none
  | v => (see e v).map fun x => ts.any fun t => tyD t x
def pks : List Val → List Nat
  | [] => []
  | .pk i :: r => i :: pks r
  | _ :: r => pks r
def lend (e : Env) : List Val → Option (List Val)
  | [] => some []
  | .pk i :: r => (getS e i).bind fun v => (lend e r).map (v :: ·)
  | v :: r => (lend e r).map (v :: ·)
def back (e : Env) : List Val → List Val → Env
  | .pk i :: r, a :: as => back (e.set i (some a)) r as
  | _ :: r, _ :: as => back e r as
  | _, _ => e
def runCall (c : Ctx) (f : Nat) (vs : List Val) (e : Env) : Res Val := if (pks vs).Nodup then match lend e vs with
    | some as => match c.call f as with
      | .ok v as' => .ok v (back e vs as')
      | .ex x as' => .ex x (back e vs as')
      | .no => .no
    | none => .no
  else .no
def opt {α : Type} (o : Option α) (e : Env) : Res α := match o with
  | some a => .ok a e
  | none => .no
def sees (e : Env) : List Val → Option (List D)
  | [] => some []
  | v :: vs => match see e v, sees e vs with
    | some x, some xs => some (x :: xs)
    | _, _ => none
def wipeE (e : Env) : List Nat → Env
  | [] => e
  | i :: r => (wipeE e r).set i none
def backE (e0 e : Env) : List Nat → Env
  | [] => e
  | i :: r => (backE e0 e r).set i ((e0[i]?).join)
def lcLoop (f : D → Env → Res (Option D)) : List D → List D → Env → Res (List D)
  | [], acc, e => .ok acc e
  | x :: xs, acc, e => (f x e).bind fun o e1 => match o with
    | some y => if acc.length < lineN then lcLoop f xs (acc ++ [y]) e1 else .no
    | none => lcLoop f xs acc e1
/-- a block's own names: nothing that is owned is hidden -/
def lcFree (c : Ctx) (e : Env) (i : Nat) : Bool := !decide (c.pr[i]? = some true) && match getS e i with
  | some v => !owned v
  | none => true
def isOd : Option Val → Bool
  | some (.od _) => true
  | _ => false
def isOl : Option Val → Bool
  | some (.ol _) => true
  | _ => false
def noEx {α : Type} : Res α → Res α
  | .ok a e => .ok a e
  | _ => .no
def enumV (k : Nat) : List D → List D
  | [] => []
  | x :: r => .tuple [.int k, x] :: enumV (k + 1) r
def zipV : List D → List D → List D
  | x :: xs, y :: ys => .tuple [x, y] :: zipV xs ys
  | _, _ => []
def rangeV (lo : Int) : Nat → List D
  | 0 => []
  | n + 1 => .int lo :: rangeV (lo + 1) n
def signsD (z : Str) : List D := z.cps.toList.map fun c => .str ⟨#[c]⟩
/-- what is walked; a slot's own list is frozen for good -/
def walkV (e : Env) (v : Val) : Option (List D × Env) := (take e v).bind fun p => match p.1 with
  | .list xs => some (xs, p.2)
  | .tuple xs => some (xs, p.2)
  | .str z => if z.length ≤ lineN then some (signsD z, p.2) else none
  | _ => none
def walkL (e : Env) (v : Val) : Option (List D × Env) := (take e v).bind fun p => match p.1 with
  | .list xs => some (xs, p.2)
  | _ => none
def excOf (c : Ctx) (x : Str) (ds : List D) : Ex := ⟨x, (c.flds x).zip ds⟩
mutual
def ev (c : Ctx) : ME → Env → Res Val
  | .c x, e => .ok (.d x) e
  | .v i, e => match getS e i with
    | some (.ol _) => .ok (.pk i) e
    | some (.od _) => .ok (.pk i) e
    | some (.pk _) => .no
    | some v => .ok v e
    | none => .no
  | .bin op a b, e => (ev c a e).bind fun va e1 => (ev c b e1).bind fun vb e2 => match see e2 va, see e2 vb with
    | some x, some y => opt (binD op x y) e2
    | _, _ => .no
  | .neg a, e => (ev c a e).bind fun va e1 => match va with
    | .d (.int i) => .ok (.d (.int (-i))) e1
    | _ => .no
  | .cmp op a b, e => (ev c a e).bind fun va e1 => (ev c b e1).bind fun vb e2 => match see e2 va, see e2 vb with
    | some x, some y => opt ((cmpD op x y).map fun k => .d (.bool k)) e2
    | _, _ => .no
  | .isN neg a, e => (ev c a e).bind fun va e1 => opt ((nonV e1 va).map fun k => .d (.bool (if neg then !k else k))) e1
  | .isB neg a k, e => (ev c a e).bind fun va e1 => opt ((truV va).map fun x => .d (.bool (if neg then !decide (x = k) else decide (x = k)))) e1
  | .chain op op' a b d, e => (ev c a e).bind fun va e1 => (ev c b e1).bind fun vb e2 => match see e2 va, see e2 vb with
    | some x, some y => match cmpD op x y with
      | some true => (ev c d e2).bind fun vd e3 => match see e3 vb, see e3 vd with
        | some y', some z => opt ((cmpD op' y' z).map fun k => .d (.bool k)) e3
        | _, _ => .no
      | some false => .ok (.d (.bool false)) e2
      | none => .no
    | _, _ => .no
  | .and a b, e => (ev c a e).bind fun va e1 => match va with
    | .d (.bool true) => ev c b e1
    | .d (.bool false) => .ok (.d (.bool false)) e1
    | _ => .no
  | .or a b, e => (ev c a e).bind fun va e1 => match va with
    | .d (.bool false) => ev c b e1
    | .d (.bool true) => .ok (.d (.bool true)) e1
    | _ => .no
  | .not a, e => (ev c a e).bind fun va e1 => match va with
    | .d (.bool k) => .ok (.d (.bool (!k))) e1
    | _ => .no
  | .ite t a b, e => (ev c t e).bind fun vt e1 => match (see e1 vt).bind truD with
    | some true => ev c a e1
    | some false => ev c b e1
    | none => .no
  | .tup es, e => (evs c es e).bind fun vs e1 => match takes e1 vs with
    | some (ds, e2) => if ds.length ≤ lineN then .ok (.d (.tuple ds)) e2 else .no
    | none => .no
  | .lst es, e => (evs c es e).bind fun vs e1 => match takes e1 vs with
    | some (ds, e2) => if ds.length ≤ lineN then .ok (.ol (ds.map .d)) e2 else .no
    | none => .no
  | .dic es, e => (evs c es e).bind fun vs e1 => match takes e1 vs with
    | some (ds, e2) => match twosK ds with
      | some kvs => if kvs.length ≤ 15 then .ok (.od (liftK (mergeD [] kvs))) e2 else .no
      | none => .no
    | none => .no
  | .idx a i, e => (ev c a e).bind fun va e1 => (ev c i e1).bind fun vi e2 => match see e2 va, see e2 vi with
    | some x, some k => opt ((idxD x k).map .d) e2
    | _, _ => .no
  | .slis a lo hi st, e => (ev c a e).bind fun va e1 => (evo c lo e1).bind fun l e2 => (evo c hi e2).bind fun h e3 => (evo c st e3).bind fun k e4 => match see e4 va, k with
    | some x, some k => opt (slisD x l h k) e4
    | _, _ => .no
  | .sli a lo hi, e => (ev c a e).bind fun va e1 => (evo c lo e1).bind fun l e2 => (evo c hi e2).bind fun h e3 => match see e3 va with
    | some x => opt (sliD x l h) e3
    | none => .no
  | .call f es, e => (evs c es e).bind fun vs e1 => runCall c f vs e1
  | .bi b es, e => (evs c es e).bind fun vs e1 => match sees e1 vs with
    | some ds => opt (biD b ds) e1
    | none => .no
  | .mt m o es, e => (ev c o e).bind fun vo e1 => match vo with
    | .d (.str t) => (evs c es e1).bind fun vs e2 => match sees e2 vs with
      | some ds => opt (mtD m (.str t) ds) e2
      | none => .no
    | _ => .no
  | .mu m i es, e => if isOl (getS e i) = true then (evs c es e).bind fun vs e1 => match takes e1 vs with
    | some (ds, e2) => match getS e2 i with
      | some o => match muV m o ds with
        | some (r, o') => .ok r (e2.set i (some o'))
        | none => .no
      | none => .no
    | none => .no
    else .no
  | .tab op kvs es, e => (evs c es e).bind fun vs e1 => match takes e1 vs with
    | some (ds, e2) => opt ((tabD op kvs ds).map .d) e2
    | none => .no
  | .dget o k, e => (ev c o e).bind fun vo e1 => if ((see e1 vo).map isDicD) = some true then (ev c k e1).bind fun vk e2 => match see e2 vo, see e2 vk with
      | some x, some y => opt ((getD2 x y .none).map .d) e2
      | _, _ => .no
    else .no
  | .dget2 o k z, e => (ev c o e).bind fun vo e1 => if ((see e1 vo).map isDicD) = some true then (ev c k e1).bind fun vk e2 => (ev c z e2).bind fun vz e3 => match take e3 vz with
      | some (d, e4) => match see e4 vo, see e4 vk with
        | some x, some y => opt ((getD2 x y d).map .d) e4
        | _, _ => .no
      | none => .no
    else .no
  | .upd i a, e => if isOd (getS e i) = true then (ev c a e).bind fun v e1 => match take e1 v with
      | some (x, e2) => match getS e2 i with
        | some o => match updV o x with
          | some o' => .ok (.d .none) (e2.set i (some o'))
          | none => .no
        | none => .no
      | none => .no
    else .no
  | .isi a ts, e => (ev c a e).bind fun va e1 => opt ((isiV c e1 va ts).map fun k => .d (.bool k)) e1
  | .fld a f, e => (ev c a e).bind fun va e1 => match va with
    | .ex _ fs => opt ((fs.lookup f).map .d) e1
    | _ => .no
  | .lc elt t it cs own, e => (evi c it e).bind fun xs e1 => if own.all (lcFree c e1) = true then
      (noEx (lcLoop (fun x e2 => match asg c t (.d x) e2 with
        | some e3 => (evt c cs e3).bind fun k e4 => if k = true then (ev c elt e4).bind fun v e5 => match take e5 v with
            | some (y, e6) => .ok (some y) (wipeE e6 own)
            | none => .no
          else .ok none (wipeE e4 own)
        | none => .no) xs [] (wipeE e1 own))).bind fun ys e2 => .ok (.ol (ys.map .d)) (backE e1 e2 own)
    else .no
def evs (c : Ctx) : List ME → Env → Res (List Val)
  | [], e => .ok [] e
  | a :: r, e => (ev c a e).bind fun v e1 => (evs c r e1).bind fun vs e2 => .ok (v :: vs) e2
def evo (c : Ctx) : Option ME → Env → Res (Option Int)
  | none, e => .ok none e
  | some a, e => (ev c a e).bind fun v e1 => match v with
    | .d (.int i) => .ok (some i) e1
    | _ => .no
/-- the tests of a comprehension -/
def evt (c : Ctx) : List ME → Env → Res Bool
  | [], e => .ok true e
  | a :: r, e => (ev c a e).bind fun v e1 => match (see e1 v).bind truD with
    | some true => evt c r e1
    | some false => .ok false e1
    | none => .no
def evi (c : Ctx) : MI → Env → Res (List D)
  | .seq a, e => (ev c a e).bind fun v e1 => match walkV e1 v with
    | some (xs, e2) => .ok xs e2
    | none => .no
  | .rng1 a, e => (ev c a e).bind fun v e1 => match v with
    | .d (.int j) => if -(2 ^ 62) ≤ j ∧ j < 2 ^ 62 then .ok (rangeV 0 j.toNat) e1 else .no
    | _ => .no
  | .rng2 a b, e => (ev c a e).bind fun v e1 => (ev c b e1).bind fun u e2 => match v, u with
    | .d (.int i), .d (.int j) => if -(2 ^ 62) ≤ i ∧ i < 2 ^ 62 ∧ -(2 ^ 62) ≤ j ∧ j < 2 ^ 62 then .ok (rangeV i (j - i).toNat) e2 else .no
    | _, _ => .no
  | .enum a, e => (ev c a e).bind fun v e1 => match walkL e1 v with
    | some (xs, e2) => .ok (enumV 0 xs) e2
    | none => .no
  | .zip a b, e => (ev c a e).bind fun v e1 => (ev c b e1).bind fun u e2 => match takes e2 [v, u] with
    | some ([.list xs, .list ys], e3) => .ok (zipV xs ys) e3
    | some ([.tuple xs, .tuple ys], e3) => .ok (zipV xs ys) e3
    | _ => .no
end

inductive Flow where
  | nx | bk | ct
  | ret (v : Val)
def forL (f : D → Env → Res Flow) : List D → Env → Res Flow
  | [], e => .ok .nx e
  | x :: xs, e => (f x e).bind fun fl e1 => match fl with
    | .nx => forL f xs e1
    | .ct => forL f xs e1
    | .bk => .ok .nx e1
    | .ret v => .ok (.ret v) e1
def whileL (t : Env → Res Bool) (f : Env → Res Flow) : Nat → Env → Res Flow
  | 0, _ => .no
  | n + 1, e => (t e).bind fun k e1 => if k then (f e1).bind fun fl e2 => match fl with
      | .nx => whileL t f n e2
      | .ct => whileL t f n e2
      | .bk => .ok .nx e2
      | .ret v => .ok (.ret v) e2
    else .ok .nx e1
def whileFuel : Nat := 2 ^ 40
/-- what is handed back: a slot's own list goes with it, but what is lent is frozen -/
def handOut (c : Ctx) (e : Env) : Val → Option (Val × Env)
  | .pk i => if c.pr[i]? = some true then stow e (.pk i) else (getS e i).map fun v => (v, e.set i none)
  | v => some (v, e)
def setAll (c : Ctx) : List Nat → List Val → Env → Option Env
  | [], [], e => some e
  | i :: is, v :: vs, e => (setSl c e i v).bind fun e1 => setAll c is vs e1
  | _, _, _ => none
def stowAll (e : Env) : List Val → Option (List Val × Env)
  | [] => some ([], e)
  | v :: vs => (stow e v).bind fun p => (stowAll p.2 vs).map fun q => (p.1 :: q.1, q.2)
def setIx (o : Val) (k : D) (x : D) : Option Val := match o with
  | .ol vs => (allD vs).bind fun ds => match k with
    | .int i => (L2.ixN ds.length i).map fun j => .ol ((ds.set j x).map .d)
    | _ => none
  | _ => none
def augD (op : Operator) (x y : D) : Option D := match op, x, y with
  | .Add, .int i, .int j => some (.int (i + j))
  | .Sub, .int i, .int j => some (.int (i - j))
  | _, _, _ => none
mutual
def ex (c : Ctx) : MS → Env → Res Flow
  | .expr a, e => (ev c a e).bind fun _ e1 => .ok .nx e1
  | .ret a, e => (ev c a e).bind fun v e1 => match handOut c e1 v with
    | some (v', e2) => .ok (.ret v') e2
    | none => .no
  | .retN, e => .ok (.ret (.d .none)) e
  | .set t a, e => (ev c a e).bind fun v e1 => match stow e1 v with
    | some (v', e2) => match asg c t v' e2 with
      | some e3 => .ok .nx e3
      | none => .no
    | none => .no
  | .par is es, e => (evs c es e).bind fun vs e1 => match stowAll e1 vs with
    | some (vs', e2) => match setAll c is vs' e2 with
      | some e3 => .ok .nx e3
      | none => .no
    | none => .no
  | .aug i op a, e => match getS e i with
    | some (.d x) => (ev c a e).bind fun v e1 => match see e1 v with
      | some y => match augD op x y with
        | some z => match setSl c e1 i (.d z) with
          | some e2 => .ok .nx e2
          | none => .no
        | none => .no
      | none => .no
    | _ => .no
  | .setix i k a, e => (ev c a e).bind fun v e1 => match take e1 v with
    | some (x, e2) => if isOl (getS e2 i) = true then (ev c k e2).bind fun vk e3 => match see e3 vk, getS e3 i with
      | some kd, some o => match setIx o kd x with
        | some o' => .ok .nx (e3.set i (some o'))
        | none => .no
      | _, _ => .no
      else .no
    | none => .no
  | .ite t a b, e => (ev c t e).bind fun v e1 => match (see e1 v).bind truD with
    | some true => exs c a e1
    | some false => exs c b e1
    | none => .no
  | .for_ t it body, e => (evi c it e).bind fun xs e1 => forL (fun x e2 => match asg c t (.d x) e2 with
    | some e3 => exs c body e3
    | none => .no) xs e1
  | .while t body, e => whileL (fun e1 => (ev c t e1).bind fun v e2 => opt ((see e2 v).bind truD) e2) (fun e1 => exs c body e1) whileFuel e
  | .raise x es, e => (evs c es e).bind fun vs e1 => match takes e1 vs with
    | some (ds, e2) => if ds.length ≤ lineN then .ex (excOf c x ds) e2 else .no
    | none => .no
  | .tryset body x n y, e => match exs c body e with
    | .ex z e1 => if c.sub z.c x then match setSl c e1 y (.ex z.c z.fs) with
        | some e2 => match setSl c e2 n (.ex z.c z.fs) with
          | some e3 => .ok .nx (e3.set n none)
          | none => .no
        | none => .no
      else .ex z e1
    | r => r
  | .pass, e => .ok .nx e
  | .brk, e => .ok .bk e
  | .cont, e => .ok .ct e
def exs (c : Ctx) : List MS → Env → Res Flow
  | [], e => .ok .nx e
  | a :: r, e => (ex c a e).bind fun fl e1 => match fl with
    | .nx => exs c r e1
    | fl => .ok fl e1
end

structure FD where
  name : Str
  np : Nat
  n : Nat
  mb : List MS
structure Prog where
  funs : List FD
  sub : Str → Str → Bool
  flds : Str → List Str
/-- what the lent slots came to -/
def parts (e : Env) : Nat → List Val → Option (List Val)
  | _, [] => some []
  | i, a :: r => if owned a = true then (getS e i).bind fun v => (parts e (i + 1) r).map (v :: ·) else (parts e (i + 1) r).map (a :: ·)
def endM (as : List Val) : Res Flow → CRes
  | .ok .nx e => match parts e 0 as with
    | some ps => .ok (.d .none) ps
    | none => .no
  | .ok (.ret v) e => match parts e 0 as with
    | some ps => .ok v ps
    | none => .no
  | .ex x e => match parts e 0 as with
    | some ps => .ex x ps
    | none => .no
  | _ => .no
def callM (G : Prog) : Nat → Nat → List Val → CRes
  | 0, _, _ => .no
  | k + 1, f, as => match G.funs[f]? with
    | some fd => if as.length = fd.np ∧ fd.np ≤ fd.n then
        endM as (exs ⟨callM G k, G.sub, G.flds, as.map owned⟩ fd.mb (as.map some ++ List.replicate (fd.n - fd.np) none))
      else .no
    | none => .no
end PM
end

section
set_option Elab.async false
set_option linter.all false
set_option maxRecDepth 100000
set_option maxHeartbeats 1000000
/-! PMRel: how the pure machine's values stand in HandS' abstract heap. -/
namespace PM
open PySem PySem.Spec PyProof.Rows L2

abbrev Fs := Addr → Prop

/-- a list that is never changed any more -/
def FzL (H : Hp) (F : Fs) (a : Addr) (us : List V) : Prop :=
  (H a = some (.lst us) ∧ F a) ∨ (∃ o, H a = some (.frz o (.lst us)))
def FzD (H : Hp) (F : Fs) (a : Addr) (ks : List (Key × V)) : Prop :=
  (H a = some (.dK ks) ∧ F a) ∨ (∃ o, H a = some (.frz o (.dK ks)))
mutual
inductive Den (K : PySem.W.Frag) (H : Hp) (F : Fs) : V → D → Prop
  | non : Den K H F .non .none
  | bl (b : Bool) : Den K H F (.bl b) (.bool b)
  | int (i : Int) : Den K H F (.int i) (.int i)
  | str (x : Str) : Den K H F (.str x) (.str x)
  | lst {a : Addr} {us : List V} {ds : List D} : FzL H F a us → Dens K H F us ds → Den K H F (.ref a) (.list ds)
  | tup {a : Addr} {us : List V} {ds : List D} : SqT K H a us → Dens K H F us ds → Den K H F (.ref a) (.tuple ds)
  | dic {a : Addr} {ks : List (Key × V)} {kvs : List (D × D)} : FzD H F a ks → DenKs K H F ks kvs → Den K H F (.ref a) (.dict kvs)
inductive Dens (K : PySem.W.Frag) (H : Hp) (F : Fs) : List V → List D → Prop
  | nil : Dens K H F [] []
  | cons {v : V} {vs : List V} {x : D} {xs : List D} : Den K H F v x → Dens K H F vs xs → Dens K H F (v :: vs) (x :: xs)
inductive DenKs (K : PySem.W.Frag) (H : Hp) (F : Fs) : List (Key × V) → List (D × D) → Prop
  | nil : DenKs K H F [] []
  | cons {k : Key} {v : V} {vs : List (Key × V)} {x : D} {xs : List (D × D)} : Den K H F v x → DenKs K H F vs xs → DenKs K H F ((k, v) :: vs) ((keyD k, x) :: xs)
end

/-- a caught exception's object -/
def exO (cls : Value) (d : Option Addr) (a : Addr) : HO := .ext fun h => ∃ (oe : Obj) (vs : Array Value), h.get? a = some oe ∧ Zc cls d oe ∧ oe.data = .fields vs
def XdR (K : PySem.W.Frag) (H : Hp) (F : Fs) (d : Option Addr) (fs : List (Str × D)) : Prop :=
  (fs = [] ∧ d = none) ∨ fs ≠ [] ∧ ∃ dx vs, d = some dx ∧ H dx = some (.xd vs) ∧ ∀ f x, fs.lookup f = some x → ∃ v, vs.lookup f = some v ∧ Den K H F v x
mutual
inductive VR (K : PySem.W.Frag) (ca : Str → Option Addr) (H : Hp) (F : Fs) : V → Val → List Addr → Prop
  | d {v : V} {x : D} : Den K H F v x → VR K ca H F v (.d x) []
  | ol {a : Addr} {us : List V} {vs : List Val} {fp : List Addr} : H a = some (.lst us) → VRs K ca H F us vs fp → VR K ca H F (.ref a) (.ol vs) (a :: fp)
  | od {a : Addr} {us : List (Key × V)} {vs : List (Key × Val)} {fp : List Addr} : H a = some (.dK us) → VRk K ca H F us vs fp → VR K ca H F (.ref a) (.od vs) (a :: fp)
  | ex {a C : Addr} {c : Str} {fs : List (Str × D)} {d : Option Addr} : ca c = some C → H a = some (exO (.ref C) d a) → XdR K H F d fs → VR K ca H F (.ref a) (.ex c fs) []
inductive VRs (K : PySem.W.Frag) (ca : Str → Option Addr) (H : Hp) (F : Fs) : List V → List Val → List Addr → Prop
  | nil : VRs K ca H F [] [] []
  | cons {u : V} {us : List V} {v : Val} {vs : List Val} {fp gp : List Addr} : VR K ca H F u v fp → VRs K ca H F us vs gp → VRs K ca H F (u :: us) (v :: vs) (fp ++ gp)
inductive VRk (K : PySem.W.Frag) (ca : Str → Option Addr) (H : Hp) (F : Fs) : List (Key × V) → List (Key × Val) → List Addr → Prop
  | nil : VRk K ca H F [] [] []
  | cons {k : Key} {u : V} {us : List (Key × V)} {v : Val} {vs : List (Key × Val)} {fp gp : List Addr} : VR K ca H F u v fp → VRk K ca H F us vs gp → VRk K ca H F ((k, u) :: us) ((k, v) :: vs) (fp ++ gp)
end

/-- what is owned may be written -/
def Mb (H : Hp) (a : Addr) : Prop := (∃ us, H a = some (.lst us)) ∨ ∃ ks, H a = some (.dK ks)
def Wok (H : Hp) (F W : Fs) : Prop := ∀ a, W a → ¬ F a ∧ Mb H a
structure Ext (H : Hp) (F W : Fs) (H' : Hp) (F' W' : Fs) : Prop where
  keep : ∀ a o, H a = some o → ¬ W a → H' a = some o
  live : ∀ a, H' a = none → H a = none
  own : ∀ a, W' a → W a ∨ H a = none
  fr : ∀ a, F a → F' a
  fr' : ∀ a, F' a → F a ∨ W a ∨ H a = none
theorem Ext.refl {H : Hp} {F W : Fs} : Ext H F W H F W := ⟨fun _ _ h _ => h, fun _ h => h, fun _ h => .inl h, fun _ h => h, fun _ h => .inl h⟩
theorem Ext.trans {H H1 H2 : Hp} {F F1 F2 W W1 W2 : Fs} (a : Ext H F W H1 F1 W1) (b : Ext H1 F1 W1 H2 F2 W2) : Ext H F W H2 F2 W2 where
  keep := fun x o h w => b.keep x o (a.keep x o h w) fun w1 => (a.own x w1).elim w fun n => by rw [n] at h; cases h
  live := fun x h => a.live x (b.live x h)
  own := fun x w => (b.own x w).elim (a.own x) fun n => .inr (a.live x n)
  fr := fun x h => b.fr x (a.fr x h)
  fr' := fun x h => (b.fr' x h).elim (a.fr' x) fun h => h.elim (fun w => (a.own x w).elim (fun w => .inr (.inl w)) fun n => .inr (.inr n)) fun n => .inr (.inr (a.live x n))

section
variable {K : PySem.W.Frag} {ca : Str → Option Addr} {H H' : Hp} {F F' W W' : Fs}
theorem SqT.ext (E : Ext H F W H' F' W') (w : Wok H F W) {a : Addr} {us : List V} (h : SqT K H a us) : SqT K H' a us := by
  rcases h with (h | ⟨o, h⟩) | h
  · refine .inl (.inl (E.keep _ _ h fun z => ?_))
    rcases (w a z).2 with ⟨_, q⟩ | ⟨_, q⟩ <;> (rw [h] at q; cases q)
  · refine .inl (.inr ⟨o, E.keep _ _ h fun z => ?_⟩)
    rcases (w a z).2 with ⟨_, q⟩ | ⟨_, q⟩ <;> (rw [h] at q; cases q)
  · exact .inr h
theorem FzL.ext (E : Ext H F W H' F' W') (w : Wok H F W) {a : Addr} {us : List V} (h : FzL H F a us) : FzL H' F' a us := by
  rcases h with ⟨h, f⟩ | ⟨o, h⟩
  · exact .inl ⟨E.keep _ _ h fun z => (w a z).1 f, E.fr _ f⟩
  · refine .inr ⟨o, E.keep _ _ h fun z => ?_⟩
    rcases (w a z).2 with ⟨_, q⟩ | ⟨_, q⟩ <;> (rw [h] at q; cases q)
theorem FzD.ext (E : Ext H F W H' F' W') (w : Wok H F W) {a : Addr} {us : List (Key × V)} (h : FzD H F a us) : FzD H' F' a us := by
  rcases h with ⟨h, f⟩ | ⟨o, h⟩
  · exact .inl ⟨E.keep _ _ h fun z => (w a z).1 f, E.fr _ f⟩
  · refine .inr ⟨o, E.keep _ _ h fun z => ?_⟩
    rcases (w a z).2 with ⟨_, q⟩ | ⟨_, q⟩ <;> (rw [h] at q; cases q)
mutual
theorem Den.ext (E : Ext H F W H' F' W') (w : Wok H F W) {v : V} {x : D} : Den K H F v x → Den K H' F' v x
  | .non => .non
  | .bl b => .bl b
  | .int i => .int i
  | .str z => .str z
  | .lst h r => .lst (FzL.ext E w h) (Dens.ext E w r)
  | .tup h r => .tup (SqT.ext E w h) (Dens.ext E w r)
  | .dic h r => .dic (FzD.ext E w h) (DenKs.ext E w r)
theorem Dens.ext (E : Ext H F W H' F' W') (w : Wok H F W) {vs : List V} {xs : List D} : Dens K H F vs xs → Dens K H' F' vs xs
  | .nil => .nil
  | .cons h r => .cons (Den.ext E w h) (Dens.ext E w r)
theorem DenKs.ext (E : Ext H F W H' F' W') (w : Wok H F W) {vs : List (Key × V)} {xs : List (D × D)} : DenKs K H F vs xs → DenKs K H' F' vs xs
  | .nil => .nil
  | .cons h r => .cons (Den.ext E w h) (DenKs.ext E w r)
end
theorem XdR.ext (E : Ext H F W H' F' W') (w : Wok H F W) {d : Option Addr} {fs : List (Str × D)} (h : XdR K H F d fs) : XdR K H' F' d fs := by
  rcases h with h | ⟨ne, dx, vs, e, h, r⟩
  · exact .inl h
  · refine .inr ⟨ne, dx, vs, e, E.keep _ _ h fun z => ?_, fun f x l => ?_⟩
    · rcases (w dx z).2 with ⟨_, q⟩ | ⟨_, q⟩ <;> (rw [h] at q; cases q)
    · obtain ⟨v, l', q⟩ := r f x l
      exact ⟨v, l', q.ext E w⟩
mutual
theorem VR.ext (E : Ext H F W H' F' W') (w : Wok H F W) {u : V} {v : Val} {fp : List Addr} : VR K ca H F u v fp → (∀ a ∈ fp, ¬ W a) → VR K ca H' F' u v fp
  | .d h, _ => .d (h.ext E w)
  | .ol h r, n => .ol (E.keep _ _ h (n _ List.mem_cons_self)) (VRs.ext E w r fun a m => n a (List.mem_cons_of_mem _ m))
  | .od h r, n => .od (E.keep _ _ h (n _ List.mem_cons_self)) (VRk.ext E w r fun a m => n a (List.mem_cons_of_mem _ m))
  | .ex c h r, _ => .ex c (E.keep _ _ h fun z => by rcases (w _ z).2 with ⟨_, q⟩ | ⟨_, q⟩ <;> (rw [h] at q; cases q)) (r.ext E w)
theorem VRs.ext (E : Ext H F W H' F' W') (w : Wok H F W) {us : List V} {vs : List Val} {fp : List Addr} : VRs K ca H F us vs fp → (∀ a ∈ fp, ¬ W a) → VRs K ca H' F' us vs fp
  | .nil, _ => .nil
  | .cons h r, n => .cons (VR.ext E w h fun a m => n a (List.mem_append_left _ m)) (VRs.ext E w r fun a m => n a (List.mem_append_right _ m))
theorem VRk.ext (E : Ext H F W H' F' W') (w : Wok H F W) {us : List (Key × V)} {vs : List (Key × Val)} {fp : List Addr} : VRk K ca H F us vs fp → (∀ a ∈ fp, ¬ W a) → VRk K ca H' F' us vs fp
  | .nil, _ => .nil
  | .cons h r, n => .cons (VR.ext E w h fun a m => n a (List.mem_append_left _ m)) (VRk.ext E w r fun a m => n a (List.mem_append_right _ m))
end
mutual
theorem VR.mb {u : V} {v : Val} {fp : List Addr} : VR K ca H F u v fp → ∀ a ∈ fp, Mb H a
  | .d _, a, m => by cases m
  | .ol h r, a, m => by
    rcases List.mem_cons.mp m with e | m
    · subst e; exact .inl ⟨_, h⟩
    · exact VRs.mb r a m
  | .od h r, a, m => by
    rcases List.mem_cons.mp m with e | m
    · subst e; exact .inr ⟨_, h⟩
    · exact VRk.mb r a m
  | .ex _ _ _, a, m => by cases m
theorem VRs.mb {us : List V} {vs : List Val} {fp : List Addr} : VRs K ca H F us vs fp → ∀ a ∈ fp, Mb H a
  | .nil, a, m => by cases m
  | .cons h r, a, m => (List.mem_append.mp m).elim (VR.mb h a) (VRs.mb r a)
theorem VRk.mb {us : List (Key × V)} {vs : List (Key × Val)} {fp : List Addr} : VRk K ca H F us vs fp → ∀ a ∈ fp, Mb H a
  | .nil, a, m => by cases m
  | .cons h r, a, m => (List.mem_append.mp m).elim (VR.mb h a) (VRk.mb r a)
end
theorem Mb.some {a : Addr} (h : Mb H a) : H a ≠ none := by
  rcases h with ⟨_, h⟩ | ⟨_, h⟩ <;> (rw [h]; exact fun z => nomatch z)

/-- a frame's slots -/
structure Rel (K : PySem.W.Frag) (ca : Str → Option Addr) (σ : L2.St) (H : Hp) (e : Env) (F : Fs) (own : Nat → List Addr) : Prop where
  len : e.length = σ.length
  slot : ∀ i v, getS e i = some v → ∃ u, σ[i]? = some (some u) ∧ VR K ca H F u v (own i)
  non : ∀ i, getS e i = none → own i = []
  nd : ∀ i, (own i).Nodup
  dj : ∀ i j a, a ∈ own i → a ∈ own j → i = j
  nf : ∀ i a, a ∈ own i → ¬ F a
  al : ∀ a, F a → H a ≠ none
def Ow (own : Nat → List Addr) : Fs := fun a => ∃ i, a ∈ own i
theorem Rel.wok {σ : L2.St} {e : Env} {own : Nat → List Addr} (R : Rel K ca σ H e F own) : Wok H F (Ow own) := fun a ⟨i, m⟩ => by
  refine ⟨R.nf i a m, ?_⟩
  cases h : getS e i with
  | none => rw [R.non i h] at m; cases m
  | some v =>
    obtain ⟨u, _, r⟩ := R.slot i v h
    exact r.mb a m
/-- an expression's value: what a slot owns, or a value of its own -/
inductive RV (K : PySem.W.Frag) (ca : Str → Option Addr) (σ : L2.St) (H : Hp) (F W : Fs) : V → Val → List Addr → Prop
  | pk {i : Nat} {u : V} : σ[i]? = some (some u) → RV K ca σ H F W u (.pk i) []
  | val {u : V} {v : Val} {fp : List Addr} : VR K ca H F u v fp → fp.Nodup → (∀ a ∈ fp, ¬ F a ∧ ¬ W a) → RV K ca σ H F W u v fp
inductive RVs (K : PySem.W.Frag) (ca : Str → Option Addr) (σ : L2.St) (H : Hp) (F W : Fs) : List V → List Val → List Addr → Prop
  | nil : RVs K ca σ H F W [] [] []
  | cons {u : V} {us : List V} {v : Val} {vs : List Val} {fp gp : List Addr} : RV K ca σ H F W u v fp → RVs K ca σ H F W us vs gp → (∀ a ∈ fp, a ∉ gp) → RVs K ca σ H F W (u :: us) (v :: vs) (fp ++ gp)
theorem VR.fresh (E : Ext H F W H' F' W') {u : V} {v : Val} {fp : List Addr} (h : VR K ca H F u v fp) (n : ∀ a ∈ fp, ¬ F a ∧ ¬ W a) : ∀ a ∈ fp, ¬ F' a ∧ ¬ W' a := fun a m => by
  have s := (h.mb a m).some
  refine ⟨fun f => ?_, fun w => ?_⟩
  · rcases E.fr' a f with f | w | z
    · exact (n a m).1 f
    · exact (n a m).2 w
    · exact s z
  · rcases E.own a w with w | z
    · exact (n a m).2 w
    · exact s z
theorem RV.ext {σ : L2.St} (E : Ext H F W H' F' W') (w : Wok H F W) {u : V} {v : Val} {fp : List Addr} : RV K ca σ H F W u v fp → RV K ca σ H' F' W' u v fp
  | .pk h => .pk h
  | .val h n f => .val (h.ext E w fun a m => (f a m).2) n (h.fresh E f)
theorem RVs.ext {σ : L2.St} (E : Ext H F W H' F' W') (w : Wok H F W) {us : List V} {vs : List Val} {fp : List Addr} : RVs K ca σ H F W us vs fp → RVs K ca σ H' F' W' us vs fp
  | .nil => .nil
  | .cons h r d => .cons (h.ext E w) (RVs.ext E w r) d
theorem RV.mb {σ : L2.St} {u : V} {v : Val} {fp : List Addr} : RV K ca σ H F W u v fp → ∀ a ∈ fp, Mb H a ∧ ¬ W a
  | .pk h, a, m => by cases m
  | .val h _ f, a, m => ⟨h.mb a m, (f a m).2⟩
theorem RVs.mb {σ : L2.St} {us : List V} {vs : List Val} {fp : List Addr} : RVs K ca σ H F W us vs fp → ∀ a ∈ fp, Mb H a ∧ ¬ W a
  | .nil, a, m => by cases m
  | .cons h r d, a, m => (List.mem_append.mp m).elim (h.mb a) (RVs.mb r a)

/-! ### what a run is to reach -/
def PR {α : Type} (r : Res α) (k : α → Env → Prop) (kx : Ex → Env → Prop) : Prop := match r with
  | .ok a e => k a e
  | .ex x e => kx x e
  | .no => False
theorem PR.bind {α β : Type} {r : Res α} {f : α → Env → Res β} {k : β → Env → Prop} {kx : Ex → Env → Prop} (h : PR (r.bind f) k kx) : PR r (fun a e => PR (f a e) k kx) kx := by
  cases r <;> exact h
theorem PR.mono {α : Type} {r : Res α} {k k' : α → Env → Prop} {kx kx' : Ex → Env → Prop} (h : PR r k kx) (a : ∀ x e, k x e → k' x e) (b : ∀ x e, kx x e → kx' x e) : PR r k' kx' := by
  cases r with
  | ok x e => exact a x e h
  | ex x e => exact b x e h
  | no => exact h
theorem PR.opt {α : Type} {o : Option α} {e : Env} {k : α → Env → Prop} {kx : Ex → Env → Prop} (h : PR (PM.opt o e) k kx) : ∃ a, o = some a ∧ k a e := by
  cases o with
  | none => exact h.elim
  | some a => exact ⟨a, rfl, h⟩

/-- an exception as it leaves -/
def ExR (K : PySem.W.Frag) (ca : Str → Option Addr) (H : Hp) (F : Fs) (x : Ex) (cls : Value) (d : Option Addr) : Prop :=
  ∃ C, ca x.c = some C ∧ cls = .ref C ∧ XdR K H F d x.fs
abbrev Wish := Value → Option Addr → L2.St → Hp → Prop
def QX (K : PySem.W.Frag) (ca : Str → Option Addr) (Wx : Wish) (σ : L2.St) (H : Hp) (F W : Fs) : Ex → Env → Prop := fun x e => ∀ cls d H' F' own, Rel K ca σ H' e F' own → ExR K ca H' F' x cls d → Ext H F W H' F' (Ow own) → Wx cls d σ H'
def QV (K : PySem.W.Frag) (ca : Str → Option Addr) (σ : L2.St) (H : Hp) (F W : Fs) (Q : VK) : Val → Env → Prop := fun v e => ∀ u H' F' own fp, Rel K ca σ H' e F' own → RV K ca σ H' F' (Ow own) u v fp → (∀ a ∈ fp, W a ∨ H a = none) → Ext H F W H' F' (Ow own) → Q u H'
def QVs (K : PySem.W.Frag) (ca : Str → Option Addr) (σ : L2.St) (H : Hp) (F W : Fs) (Q : List V → Hp → Prop) : List Val → Env → Prop := fun v e => ∀ u H' F' own fp, Rel K ca σ H' e F' own → RVs K ca σ H' F' (Ow own) u v fp → (∀ a ∈ fp, W a ∨ H a = none) → Ext H F W H' F' (Ow own) → Q u H'
theorem fp_shift {H1 : Hp} {F1 W1 : Fs} (E : Ext H F W H1 F1 W1) {fp : List Addr} (n : ∀ a ∈ fp, W1 a ∨ H1 a = none) : ∀ a ∈ fp, W a ∨ H a = none := fun a m => (n a m).elim (E.own a) fun z => .inr (E.live a z)
theorem QX.shift {Wx : Wish} {σ : L2.St} {H1 : Hp} {F1 W1 : Fs} {x : Ex} {e : Env} (E : Ext H F W H1 F1 W1) (q : QX K ca Wx σ H F W x e) : QX K ca Wx σ H1 F1 W1 x e :=
  fun cls d H' F' own R r E' => q cls d H' F' own R r (E.trans E')
theorem QV.shift {σ : L2.St} {H1 : Hp} {F1 W1 : Fs} {Q : VK} {v : Val} {e : Env} (E : Ext H F W H1 F1 W1) (q : QV K ca σ H F W Q v e) : QV K ca σ H1 F1 W1 Q v e :=
  fun u H' F' own fp R r n E' => q u H' F' own fp R r (fp_shift E n) (E.trans E')
theorem QVs.shift {σ : L2.St} {H1 : Hp} {F1 W1 : Fs} {Q : List V → Hp → Prop} {v : List Val} {e : Env} (E : Ext H F W H1 F1 W1) (q : QVs K ca σ H F W Q v e) : QVs K ca σ H1 F1 W1 Q v e :=
  fun u H' F' own fp R r n E' => q u H' F' own fp R r (fp_shift E n) (E.trans E')
/-- the readings of the machine's expressions -/
def tI (K : PySem.W.Frag) (ca : Str → Option Addr) (Wx : Wish) (c : Ctx) (m : ME) : TE := fun σ H Q => ∃ e F own, Rel K ca σ H e F own ∧ PR (ev c m e) (QV K ca σ H F (Ow own) Q) (QX K ca Wx σ H F (Ow own))
def tIs (K : PySem.W.Frag) (ca : Str → Option Addr) (Wx : Wish) (c : Ctx) (ms : List ME) : TA := fun σ H Q => ∃ e F own, Rel K ca σ H e F own ∧ PR (evs c ms e) (QVs K ca σ H F (Ow own) Q) (QX K ca Wx σ H F (Ow own))

/-! ### seeing -/
abbrev See (K : PySem.W.Frag) (H : Hp) : V → D → Prop := Den K H fun _ => True
abbrev Sees (K : PySem.W.Frag) (H : Hp) : List V → List D → Prop := Dens K H fun _ => True
mutual
theorem Den.more {F F' : Fs} (h : ∀ a, F a → F' a) {v : V} {x : D} : Den K H F v x → Den K H F' v x
  | .non => .non
  | .bl b => .bl b
  | .int i => .int i
  | .str z => .str z
  | .lst z r => .lst (z.elim (fun z => .inl ⟨z.1, h _ z.2⟩) .inr) (Dens.more h r)
  | .tup z r => .tup z (Dens.more h r)
  | .dic z r => .dic (z.elim (fun z => .inl ⟨z.1, h _ z.2⟩) .inr) (DenKs.more h r)
theorem Dens.more {F F' : Fs} (h : ∀ a, F a → F' a) {v : List V} {x : List D} : Dens K H F v x → Dens K H F' v x
  | .nil => .nil
  | .cons a r => .cons (Den.more h a) (Dens.more h r)
theorem DenKs.more {F F' : Fs} (h : ∀ a, F a → F' a) {v : List (Key × V)} {x : List (D × D)} : DenKs K H F v x → DenKs K H F' v x
  | .nil => .nil
  | .cons a r => .cons (Den.more h a) (DenKs.more h r)
end
theorem Den.see {v : V} {x : D} (h : Den K H F v x) : See K H v x := h.more fun _ _ => trivial
/-- frozen items of an owned list -/
theorem VRs.dens : ∀ {vs : List Val} {us : List V} {ds : List D} {fp : List Addr}, VRs K ca H F us vs fp → allD vs = some ds → Dens K H F us ds ∧ fp = []
  | [], us, ds, fp, h, e => by
    cases h
    cases e
    exact ⟨.nil, rfl⟩
  | v :: vs, us, ds, fp, h, e => by
    cases h with
    | cons h r =>
      unfold allD at e
      cases h1 : isD v with
      | none => rw [h1] at e; cases e
      | some x =>
        cases h2 : allD vs with
        | none => rw [h1, h2] at e; cases e
        | some xs =>
          rw [h1, h2] at e
          cases e
          obtain ⟨q, rfl⟩ := VRs.dens r h2
          cases v with
          | d y =>
            cases h1
            cases h with
            | d h => exact ⟨.cons h q, rfl⟩
          | _ => cases h1
theorem VRk.dens : ∀ {vs : List (Key × Val)} {us : List (Key × V)} {ds : List (D × D)} {fp : List Addr}, VRk K ca H F us vs fp → allKD vs = some ds → DenKs K H F us ds ∧ fp = []
  | [], us, ds, fp, h, e => by
    cases h
    cases e
    exact ⟨.nil, rfl⟩
  | (k, v) :: vs, us, ds, fp, h, e => by
    cases h with
    | cons h r =>
      unfold allKD at e
      cases h1 : isD v with
      | none => rw [h1] at e; cases e
      | some x =>
        cases h2 : allKD vs with
        | none => rw [h1, h2] at e; cases e
        | some xs =>
          rw [h1, h2] at e
          cases e
          obtain ⟨q, rfl⟩ := VRk.dens r h2
          cases v with
          | d y =>
            cases h1
            cases h with
            | d h => exact ⟨.cons h q, rfl⟩
          | _ => cases h1
theorem VR.see {u : V} {v : Val} {fp : List Addr} {x : D} (h : VR K ca H F u v fp) (e : frD v = some x) : See K H u x := by
  cases h with
  | d h => cases e; exact h.see
  | @ol a us vs fp hl r =>
    change Option.map PyData.list (allD vs) = some x at e
    cases h2 : allD vs with
    | none => rw [h2] at e; cases e
    | some ds =>
      rw [h2] at e
      cases e
      exact .lst (.inl ⟨hl, trivial⟩) ((r.dens h2).1.more fun _ _ => trivial)
  | @od a us vs fp hl r =>
    change Option.map PyData.dict (allKD vs) = some x at e
    cases h2 : allKD vs with
    | none => rw [h2] at e; cases e
    | some ds =>
      rw [h2] at e
      cases e
      exact .dic (.inl ⟨hl, trivial⟩) ((r.dens h2).1.more fun _ _ => trivial)
  | ex _ _ _ => cases e
theorem RV.see {σ : L2.St} {e : Env} {own : Nat → List Addr} {u : V} {v : Val} {fp : List Addr} {x : D} (R : Rel K ca σ H e F own) (h : RV K ca σ H F W u v fp) (s : see e v = some x) : See K H u x := by
  cases h with
  | @pk i u hs =>
    have s : (getS e i).bind frD = some x := s
    cases h1 : getS e i with
    | none => rw [h1] at s; cases s
    | some w =>
      rw [h1] at s
      obtain ⟨u', hs', r⟩ := R.slot i w h1
      rw [hs] at hs'
      cases hs'
      exact r.see s
  | val h _ _ =>
    cases h with
    | d h => cases s; exact h.see
    | ol h r => exact (VR.ol h r).see s
    | od h r => exact (VR.od h r).see s
    | ex a b c => cases s
theorem RVs.sees {σ : L2.St} {e : Env} {own : Nat → List Addr} (R : Rel K ca σ H e F own) : ∀ {vs : List Val} {us : List V} {fp : List Addr} {xs : List D}, RVs K ca σ H F W us vs fp → sees e vs = some xs → Sees K H us xs
  | [], us, fp, xs, h, s => by
    cases h
    cases s
    exact .nil
  | v :: vs, us, fp, xs, h, s => by
    cases h with
    | cons h r d =>
      unfold PM.sees at s
      cases h1 : see e v with
      | none => rw [h1] at s; cases s
      | some x =>
        cases h2 : PM.sees e vs with
        | none => rw [h1, h2] at s; cases s
        | some ys =>
          rw [h1, h2] at s
          cases s
          exact .cons (h.see R h1) (RVs.sees R r h2)
end
end PM
end

section
set_option Elab.async false
set_option linter.all false
set_option maxRecDepth 100000
set_option maxHeartbeats 1000000
/-! PMStep: steps of the relation: a slot stored, a value frozen, a new object, a list changed. -/
namespace PM
open PySem PySem.Spec PyProof.Rows L2
section
variable {K : PySem.W.Frag} {ca : Str → Option Addr} {σ : L2.St} {e : Env} {H H' : Hp} {F F' W W' U U' : Fs} {own : Nat → List Addr}

theorem Ext.widen (E : Ext H F W H' F' W') (h : ∀ a, W a → U a) (h' : ∀ a, U' a → U a ∨ H a = none) : Ext H F U H' F' U' :=
  ⟨fun a o q n => E.keep a o q fun w => n (h a w), E.live, h', E.fr, fun a f => (E.fr' a f).elim .inl fun z => .inr (z.imp (h a) id)⟩
theorem Ext.addT {H0 : Hp} {F0 W0 : Fs} {fp : List Addr} (E : Ext H0 F0 W0 H F W) (n : ∀ a ∈ fp, W0 a ∨ H0 a = none) : Ext H0 F0 W0 H F (fun a => W a ∨ a ∈ fp) :=
  ⟨E.keep, E.live, fun a w => w.elim (E.own a) (n a), E.fr, E.fr'⟩
/-- a new object -/
theorem Ext.alloc {p : Addr} {o : HO} (hp : H p = none) : Ext H F W (upd H p o) F W where
  keep := fun a u h _ => by rw [upd_ne (ne_of_none h hp)]; exact h
  live := fun a h => by
    by_cases q : a = p
    · subst q; exact hp
    · rw [upd_ne q] at h; exact h
  own := fun _ w => .inl w
  fr := fun _ h => h
  fr' := fun _ h => .inl h
/-- an owned object changed -/
theorem Ext.upd {p : Addr} {o : HO} (hp : W p) : Ext H F W (upd H p o) F W where
  keep := fun a u h n => by rw [upd_ne (fun z => n (by rw [z]; exact hp))]; exact h
  live := fun a h => by
    by_cases q : a = p
    · subst q; rw [upd_same] at h; cases h
    · rw [upd_ne q] at h; exact h
  own := fun _ w => .inl w
  fr := fun _ h => h
  fr' := fun _ h => .inl h
/-- what is given up is frozen -/
theorem Ext.freeze {T : Fs} (h : ∀ a, T a → W a) (h' : ∀ a, W' a → W a) : Ext H F W H (fun a => F a ∨ T a) W' :=
  ⟨fun _ _ q _ => q, fun _ q => q, fun a w => .inl (h' a w), fun _ f => .inl f, fun a f => f.elim .inl fun t => .inr (.inl (h a t))⟩
theorem Ext.same (h' : ∀ a, W' a → W a ∨ H a = none) : Ext H F W H F W' := ⟨fun _ _ q _ => q, fun _ q => q, h', fun _ f => f, fun a f => .inl f⟩

theorem getS_set {e : Env} {i j : Nat} {o : Option Val} : getS (e.set i o) j = if i = j ∧ i < e.length then o else getS e j := by
  unfold getS
  rw [List.getElem?_set]
  by_cases h : i = j
  · subst h
    by_cases q : i < e.length
    · simp [q]
    · simp [q, List.getElem?_eq_none (Nat.le_of_not_lt q)]
  · simp [h]
theorem getS_lt {e : Env} {i : Nat} {v : Val} (h : getS e i = some v) : i < e.length := by
  unfold getS at h
  cases q : e[i]? with
  | none => rw [q] at h; cases h
  | some o => exact (List.getElem?_eq_some_iff.mp q).1

/-- all slots stay -/
theorem Rel.ext (R : Rel K ca σ H e F own) (E : Ext H F W H' F' W') (hw : Wok H F W) (hW : ∀ j a, a ∈ own j → ¬ W a) (al : ∀ a, F' a → H' a ≠ none) : Rel K ca σ H' e F' own where
  len := R.len
  slot := fun i v h => by
    obtain ⟨u, hu, r⟩ := R.slot i v h
    exact ⟨u, hu, r.ext E hw (hW i)⟩
  non := R.non
  nd := R.nd
  dj := R.dj
  nf := fun i a m f => by
    have s := (R.wok a ⟨i, m⟩).2.some
    rcases E.fr' a f with f | w | z
    · exact R.nf i a m f
    · exact hW i a m w
    · exact s z
  al := al
/-- slot i is stored -/
theorem Rel.put {i : Nat} {u : V} {v : Val} {fp : List Addr} (R : Rel K ca σ H e F own) (hi : i < σ.length) (E : Ext H F W H' F' W') (hw : Wok H F W) (hW : ∀ j a, j ≠ i → a ∈ own j → ¬ W a)
    (r : VR K ca H' F' u v fp) (nd : fp.Nodup) (hfp : ∀ a ∈ fp, ¬ F' a ∧ (W a ∨ H a = none)) (al : ∀ a, F' a → H' a ≠ none) :
    Rel K ca (σ.set i (some u)) H' (e.set i (some v)) F' (fun j => if j = i then fp else own j) where
  len := by rw [List.length_set, List.length_set]; exact R.len
  slot := fun j w h => by
    rw [getS_set] at h
    by_cases q : i = j
    · subst q
      rw [if_pos ⟨rfl, by rw [R.len]; exact hi⟩] at h
      cases h
      refine ⟨u, by rw [List.getElem?_set_self hi], ?_⟩
      rw [if_pos rfl]
      exact r
    · rw [if_neg (fun z => q z.1)] at h
      obtain ⟨u', hu, r'⟩ := R.slot j w h
      refine ⟨u', by rw [List.getElem?_set_ne q]; exact hu, ?_⟩
      rw [if_neg (Ne.symm q)]
      exact r'.ext E hw (hW j · (Ne.symm q))
  non := fun j h => by
    rw [getS_set] at h
    by_cases q : i = j
    · subst q
      rw [if_pos ⟨rfl, by rw [R.len]; exact hi⟩] at h
      cases h
    · rw [if_neg (fun z => q z.1)] at h
      show (if j = i then fp else own j) = []
      rw [if_neg (Ne.symm q)]
      exact R.non j h
  nd := fun j => by
    by_cases q : j = i
    · show (if j = i then fp else own j).Nodup
      rw [if_pos q]; exact nd
    · show (if j = i then fp else own j).Nodup
      rw [if_neg q]; exact R.nd j
  dj := fun j k a h1 h2 => by
    have h1 : a ∈ (if j = i then fp else own j) := h1
    have h2 : a ∈ (if k = i then fp else own k) := h2
    by_cases q : j = i
    · by_cases q' : k = i
      · rw [q, q']
      · rw [if_pos q] at h1; rw [if_neg q'] at h2
        exact ((hfp a h1).2.elim (fun w => hW k a q' h2 w) fun z => (R.wok a ⟨k, h2⟩).2.some z).elim
    · by_cases q' : k = i
      · rw [if_neg q] at h1; rw [if_pos q'] at h2
        exact ((hfp a h2).2.elim (fun w => hW j a q h1 w) fun z => (R.wok a ⟨j, h1⟩).2.some z).elim
      · rw [if_neg q] at h1; rw [if_neg q'] at h2
        exact R.dj j k a h1 h2
  nf := fun j a m f => by
    have m : a ∈ (if j = i then fp else own j) := m
    by_cases q : j = i
    · rw [if_pos q] at m; exact (hfp a m).1 f
    · rw [if_neg q] at m
      rcases E.fr' a f with f | w | z
      · exact R.nf j a m f
      · exact hW j a q m w
      · exact (R.wok a ⟨j, m⟩).2.some z
  al := al
/-- slot i forgotten -/
theorem Rel.unset {i : Nat} {o : Option V} (R : Rel K ca σ H e F own) : Rel K ca (σ.set i o) H (e.set i none) F (fun j => if j = i then [] else own j) where
  len := by rw [List.length_set, List.length_set]; exact R.len
  slot := fun j w h => by
    rw [getS_set] at h
    by_cases q : i = j
    · subst q
      by_cases l : i < e.length
      · rw [if_pos ⟨rfl, l⟩] at h; cases h
      · rw [if_neg (fun z => l z.2)] at h
        exact absurd (getS_lt h) l
    · rw [if_neg (fun z => q z.1)] at h
      obtain ⟨u', hu, r'⟩ := R.slot j w h
      refine ⟨u', by rw [List.getElem?_set_ne q]; exact hu, ?_⟩
      rw [if_neg (Ne.symm q)]
      exact r'
  non := fun j h => by
    show (if j = i then [] else own j) = []
    by_cases q : j = i
    · rw [if_pos q]
    · rw [if_neg q]
      rw [getS_set, if_neg (fun z => q z.1.symm)] at h
      exact R.non j h
  nd := fun j => by
    show (if j = i then [] else own j).Nodup
    by_cases q : j = i
    · rw [if_pos q]; exact .nil
    · rw [if_neg q]; exact R.nd j
  dj := fun j k a h1 h2 => by
    have h1 : a ∈ (if j = i then [] else own j) := h1
    have h2 : a ∈ (if k = i then [] else own k) := h2
    by_cases q : j = i
    · rw [if_pos q] at h1; cases h1
    · by_cases q' : k = i
      · rw [if_pos q'] at h2; cases h2
      · rw [if_neg q] at h1; rw [if_neg q'] at h2
        exact R.dj j k a h1 h2
  nf := fun j a m f => by
    have m : a ∈ (if j = i then [] else own j) := m
    by_cases q : j = i
    · rw [if_pos q] at m; cases m
    · rw [if_neg q] at m; exact R.nf j a m f
  al := R.al

/-- what a value owns, frozen -/
theorem VR.freeze {u : V} {v : Val} {fp : List Addr} {x : D} (h : VR K ca H F u v fp) (e : frD v = some x) : Den K H (fun a => F a ∨ a ∈ fp) u x := by
  cases h with
  | d h => cases e; exact h.more fun _ z => .inl z
  | @ol a us vs fp hl r =>
    change Option.map PyData.list (allD vs) = some x at e
    cases h2 : allD vs with
    | none => rw [h2] at e; cases e
    | some ds =>
      rw [h2] at e
      cases e
      exact .lst (.inl ⟨hl, .inr List.mem_cons_self⟩) ((r.dens h2).1.more fun _ z => .inl z)
  | @od a us vs fp hl r =>
    change Option.map PyData.dict (allKD vs) = some x at e
    cases h2 : allKD vs with
    | none => rw [h2] at e; cases e
    | some ds =>
      rw [h2] at e
      cases e
      exact .dic (.inl ⟨hl, .inr List.mem_cons_self⟩) ((r.dens h2).1.more fun _ z => .inl z)
  | ex _ _ _ => cases e
theorem σset_self {i : Nat} {u : Option V} (h : σ[i]? = some u) : σ.set i u = σ := by
  apply List.ext_getElem?
  intro j
  rw [List.getElem?_set]
  by_cases q : i = j
  · subst q
    have l := (List.getElem?_eq_some_iff.mp h).1
    rw [if_pos rfl, if_pos l, h]
  · rw [if_neg q]
/-- a value taken: frozen -/
theorem RV.take {u : V} {v : Val} {fp : List Addr} {x : D} {e' : Env} (R : Rel K ca σ H e F own) (h : RV K ca σ H F (Ow own) u v fp) (t : PM.take e v = some (x, e')) :
    ∃ F' own', Rel K ca σ H e' F' own' ∧ Den K H F' u x ∧ Ext H F (fun a => Ow own a ∨ a ∈ fp) H F' (Ow own') := by
  have val : ∀ {u : V} {v : Val} {fp : List Addr}, VR K ca H F u v fp → (∀ a ∈ fp, ¬ F a ∧ ¬ Ow own a) → (frD v).map (fun y => (y, e)) = some (x, e') → ∃ F' own', Rel K ca σ H e' F' own' ∧ Den K H F' u x ∧ Ext H F (fun a => Ow own a ∨ a ∈ fp) H F' (Ow own') := fun {u v fp} r f t => by
    cases q : frD v with
    | none => rw [q] at t; cases t
    | some y =>
      rw [q] at t
      cases t
      have E : Ext H F (fun a => a ∈ fp) H (fun a => F a ∨ a ∈ fp) (fun _ => False) := Ext.freeze (fun _ z => z) fun _ z => z.elim
      refine ⟨_, own, R.ext E (fun a m => ⟨(f a m).1, r.mb a m⟩) (fun j a m z => (f a z).2 ⟨j, m⟩) ?_, r.freeze q, Ext.freeze (fun _ z => .inr z) fun _ z => .inl z⟩
      intro a z
      exact z.elim (R.al a) fun m => (r.mb a m).some
  cases h with
  | @pk i u hs =>
    have t : (getS e i).bind (fun v => (frD v).map fun x => (x, e.set i (some (.d x)))) = some (x, e') := t
    cases h1 : getS e i with
    | none => rw [h1] at t; cases t
    | some w =>
      rw [h1] at t
      have t : (frD w).map (fun x => (x, e.set i (some (.d x)))) = some (x, e') := t
      cases q : frD w with
      | none => rw [q] at t; cases t
      | some y =>
        rw [q] at t
        cases t
        obtain ⟨u', hs', r⟩ := R.slot i w h1
        rw [hs] at hs'
        cases hs'
        have fr := r.freeze q
        have E : Ext H F (fun a => a ∈ own i) H (fun a => F a ∨ a ∈ own i) (fun _ => False) := Ext.freeze (fun _ z => z) fun _ z => z.elim
        have al : ∀ a, (F a ∨ a ∈ own i) → H a ≠ none := fun a z => z.elim (R.al a) fun m => (r.mb a m).some
        have R' := R.put (i := i) (u := u) (v := .d x) (fp := []) (List.getElem?_eq_some_iff.mp hs).1 E (fun a m => ⟨R.nf i a m, r.mb a m⟩) (fun j a ne m z => ne (R.dj j i a m z)) (.d fr) .nil (fun a m => by cases m) al
        rw [σset_self hs] at R'
        refine ⟨_, _, R', fr, Ext.freeze (fun a z => .inl ⟨i, z⟩) fun a z => .inl ?_⟩
        obtain ⟨j, m⟩ := z
        have m : a ∈ (if j = i then [] else own j) := m
        by_cases ji : j = i
        · rw [if_pos ji] at m; cases m
        · rw [if_neg ji] at m; exact ⟨j, m⟩
  | val r n f =>
    have t' : (frD v).map (fun y => (y, e)) = some (x, e') := by
      cases r <;> exact t
    exact val r f t'
theorem RV.widen {u : V} {v : Val} {fp gp : List Addr} (h : RV K ca σ H F W u v fp) (d : ∀ a ∈ fp, a ∉ gp) : RV K ca σ H F (fun a => W a ∨ a ∈ gp) u v fp := by
  cases h with
  | pk h => exact .pk h
  | val r n f => exact .val r n fun a m => ⟨(f a m).1, fun z => z.elim (f a m).2 (d a m)⟩
theorem RVs.widen {us : List V} {vs : List Val} {fp gp : List Addr} (h : RVs K ca σ H F W us vs fp) : (∀ a ∈ fp, a ∉ gp) → RVs K ca σ H F (fun a => W a ∨ a ∈ gp) us vs fp := by
  induction h with
  | nil => intro _; exact .nil
  | cons h r d ih => exact fun n => .cons (h.widen fun a m => n a (List.mem_append_left _ m)) (ih fun a m => n a (List.mem_append_right _ m)) d
theorem Wok.addT {fp : List Addr} {u : V} {v : Val} (w : Wok H F W) (h : RV K ca σ H F W u v fp) : Wok H F (fun a => W a ∨ a ∈ fp) := fun a z => z.elim (w a) fun m => by
  cases h with
  | pk h => cases m
  | val r n f => exact ⟨(f a m).1, r.mb a m⟩
theorem Wok.addTs {fp : List Addr} {us : List V} {vs : List Val} (w : Wok H F W) (h : RVs K ca σ H F W us vs fp) : Wok H F (fun a => W a ∨ a ∈ fp) := by
  induction h with
  | nil => exact fun a z => z.elim (w a) fun m => by cases m
  | cons h r d ih => exact fun a z => z.elim (w a) fun m => (List.mem_append.mp m).elim (fun m => w.addT h a (.inr m)) fun m => ih a (.inr m)
theorem RVs.takes : ∀ {vs : List Val} {us : List V} {fp : List Addr} {xs : List D} {e e' : Env} {F : Fs} {own : Nat → List Addr}, Rel K ca σ H e F own → RVs K ca σ H F (Ow own) us vs fp → PM.takes e vs = some (xs, e') →
    ∃ F' own', Rel K ca σ H e' F' own' ∧ Dens K H F' us xs ∧ Ext H F (fun a => Ow own a ∨ a ∈ fp) H F' (Ow own')
  | [], us, fp, xs, e, e', F, own, R, h, t => by
    cases h
    cases t
    exact ⟨F, own, R, .nil, Ext.same fun a z => .inl (.inl z)⟩
  | v :: vs, us, fp, xs, e, e', F, own, R, h, t => by
    cases h with
    | @cons u us v vs fp gp h r d =>
      have t : (take e v).bind (fun p => (PM.takes p.2 vs).map fun q => (p.1 :: q.1, q.2)) = some (xs, e') := t
      cases h1 : take e v with
      | none => rw [h1] at t; cases t
      | some p =>
        obtain ⟨x, e1⟩ := p
        rw [h1] at t
        have t : (PM.takes e1 vs).map (fun q => (x :: q.1, q.2)) = some (xs, e') := t
        cases h2 : PM.takes e1 vs with
        | none => rw [h2] at t; cases t
        | some q =>
          obtain ⟨ys, e2⟩ := q
          rw [h2] at t
          cases t
          obtain ⟨F1, own1, R1, D1, E1⟩ := h.take R h1
          have w1 := R.wok.addT h
          have r1 : RVs K ca σ H F1 (Ow own1) us vs gp := (r.widen (gp := fp) fun a m z => d a z m).ext E1 w1
          obtain ⟨F2, own2, R2, D2, E2⟩ := RVs.takes R1 r1 h2
          have w2 := R1.wok.addTs r1
          have E3 := E2.widen (U := fun a => Ow own1 a ∨ a ∈ gp) (U' := Ow own2) (fun _ z => z) (fun a z => E2.own a z)
          -- put the two together over the whole footprint
          have E1' : Ext H F (fun a => Ow own a ∨ a ∈ fp ++ gp) H F1 (fun a => Ow own1 a ∨ a ∈ gp) := by
            refine E1.widen (fun a z => z.elim .inl fun m => .inr (List.mem_append_left _ m)) fun a z => z.elim (fun z => ?_) fun m => .inl (.inr (List.mem_append_right _ m))
            exact (E1.own a z).imp (fun z => z.elim .inl fun m => .inr (List.mem_append_left _ m)) id
          exact ⟨F2, own2, R2, .cons (D1.ext (E2.widen (U := fun a => Ow own1 a ∨ a ∈ gp) (fun _ z => z) E2.own) w2) D2, E1'.trans E2⟩
end
end PM
end

section
set_option Elab.async false
set_option linter.all false
set_option maxRecDepth 100000
set_option maxHeartbeats 1000000
/-! PMFin: how a reading ends: a value, a new object; two parts in a row. -/
namespace PM
open PySem PySem.Spec PyProof.Rows L2
section
variable {K : PySem.W.Frag} {ca : Str → Option Addr} {Wx : Wish} {c : Ctx} {σ : L2.St} {e e' : Env} {H H' H2 : Hp} {F F' F2 W W' : Fs} {own own2 : Nat → List Addr} {Q : VK}

theorem Dens.vrs : ∀ {us : List V} {ds : List D}, Dens K H F us ds → VRs K ca H F us (ds.map .d) []
  | _, _, .nil => .nil
  | _, _, .cons h r => VRs.cons (fp := []) (gp := []) (.d h) (Dens.vrs r)
theorem QV.scal {u : V} {x : D} (q : QV K ca σ H F W Q (.d x) e) (R : Rel K ca σ H2 e F2 own2) (E : Ext H F W H2 F2 (Ow own2)) (d : Den K H2 F2 u x) : Q u H2 :=
  q u H2 F2 own2 [] R (.val (.d d) .nil fun a m => by cases m) (fun a m => by cases m) E
theorem Rel.alloc {p : Addr} {o : HO} (R : Rel K ca σ H e F own) (hp : H p = none) : Rel K ca σ (upd H p o) e F own :=
  R.ext (W := fun _ => False) (W' := fun _ => False) (Ext.alloc hp) (fun _ z => z.elim) (fun _ _ _ z => z) fun a f => by
    by_cases q : a = p
    · subst q; rw [upd_same]; exact fun z => nomatch z
    · rw [upd_ne q]; exact R.al a f
theorem Rel.free {p : Addr} (R : Rel K ca σ H e F own) (hp : H p = none) : ¬ F p ∧ ¬ Ow own p := ⟨fun f => R.al p f hp, fun w => (R.wok p w).2.some hp⟩
theorem Dens.alloc {p : Addr} {o : HO} {us : List V} {ds : List D} (R : Rel K ca σ H e F own) (d : Dens K H F us ds) (hp : H p = none) : Dens K (upd H p o) F us ds :=
  d.ext (W := fun _ => False) (W' := fun _ => False) (Ext.alloc hp) fun _ z => z.elim
theorem Den.alloc {p : Addr} {o : HO} {us : V} {ds : D} (d : Den K H F us ds) (hp : H p = none) : Den K (upd H p o) F us ds :=
  d.ext (W := fun _ => False) (W' := fun _ => False) (Ext.alloc hp) fun _ z => z.elim
/-- a new list -/
theorem QV.newl {us : List V} {ds : List D} (q : QV K ca σ H F W Q (.ol (ds.map .d)) e) (R : Rel K ca σ H2 e F2 own2) (E : Ext H F W H2 F2 (Ow own2)) (d : Dens K H2 F2 us ds) : ∀ p, H2 p = none → Q (.ref p) (upd H2 p (.lst us)) := fun p hp => by
  refine q (.ref p) _ F2 own2 [p] (R.alloc hp) (.val (.ol upd_same (d.alloc R hp).vrs) (by simp) fun a m => ?_) (fun a m => ?_) (E.trans (Ext.alloc hp))
  · rw [List.mem_singleton.mp m]; exact R.free hp
  · rw [List.mem_singleton.mp m]; exact .inr (E.live p hp)
/-- a new tuple -/
theorem QV.newt {us : List V} {ds : List D} (q : QV K ca σ H F W Q (.d (.tuple ds)) e) (R : Rel K ca σ H2 e F2 own2) (E : Ext H F W H2 F2 (Ow own2)) (d : Dens K H2 F2 us ds) : ∀ p, H2 p = none → Q (.ref p) (upd H2 p (.tup us)) := fun p hp =>
  q.scal (R.alloc hp) (E.trans (Ext.alloc hp)) (.tup (.inl (.inl upd_same)) (d.alloc R hp))
theorem QV.newd {us : List (Key × V)} {ds : List (Key × Val)} (q : QV K ca σ H F W Q (.od ds) e) (R : Rel K ca σ H2 e F2 own2) (E : Ext H F W H2 F2 (Ow own2)) {p : Addr} (hp : H2 p = none) (d : VRk K ca (upd H2 p (.dK us)) F2 us ds []) : Q (.ref p) (upd H2 p (.dK us)) := by
  refine q (.ref p) _ F2 own2 [p] (R.alloc hp) (.val (.od upd_same d) (by simp) fun a m => ?_) (fun a m => ?_) (E.trans (Ext.alloc hp))
  · rw [List.mem_singleton.mp m]; exact R.free hp
  · rw [List.mem_singleton.mp m]; exact .inr (E.live p hp)

/-- one part -/
theorem rd_one {a : ME} {f : Val → Env → Res Val} (R : Rel K ca σ H e F own) (h : PR ((ev c a e).bind f) (QV K ca σ H F (Ow own) Q) (QX K ca Wx σ H F (Ow own))) {r : V → Hp → Prop}
    (fin : ∀ va e2 u H2 F2 own2 fp, Rel K ca σ H2 e2 F2 own2 → RV K ca σ H2 F2 (Ow own2) u va fp → (∀ a ∈ fp, Ow own a ∨ H a = none) → Ext H F (Ow own) H2 F2 (Ow own2) →
      PR (f va e2) (QV K ca σ H F (Ow own) Q) (QX K ca Wx σ H F (Ow own)) → r u H2) : tI K ca Wx c a σ H r :=
  ⟨e, F, own, R, h.bind.mono (fun va e2 P u H2 F2 own2 fp R2 V2 N2 E2 => fin va e2 u H2 F2 own2 fp R2 V2 N2 E2 P) fun _ _ q => q⟩
/-- going on behind a part -/
theorem rd_next {a : ME} {f : Val → Env → Res Val} {e1 : Env} {H1 : Hp} {F1 : Fs} {own1 : Nat → List Addr} (E1 : Ext H F W H1 F1 (Ow own1)) (R : Rel K ca σ H1 e1 F1 own1) (h : PR ((ev c a e1).bind f) (QV K ca σ H F W Q) (QX K ca Wx σ H F W)) {r : V → Hp → Prop}
    (fin : ∀ va e2 u H2 F2 own2 fp, Rel K ca σ H2 e2 F2 own2 → RV K ca σ H2 F2 (Ow own2) u va fp → (∀ a ∈ fp, Ow own1 a ∨ H1 a = none) → Ext H1 F1 (Ow own1) H2 F2 (Ow own2) → Ext H F W H2 F2 (Ow own2) →
      PR (f va e2) (QV K ca σ H F W Q) (QX K ca Wx σ H F W) → r u H2) : tI K ca Wx c a σ H1 r :=
  ⟨e1, F1, own1, R, h.bind.mono (fun va e2 P u H2 F2 own2 fp R2 V2 N2 E2 => fin va e2 u H2 F2 own2 fp R2 V2 N2 E2 (E1.trans E2) P) fun _ _ q => q.shift E1⟩
/-- the last part -/
theorem rd_last {a : ME} {e1 : Env} {H1 : Hp} {F1 : Fs} {own1 : Nat → List Addr} (E1 : Ext H F W H1 F1 (Ow own1)) (R : Rel K ca σ H1 e1 F1 own1) (h : PR (ev c a e1) (QV K ca σ H F W Q) (QX K ca Wx σ H F W)) : tI K ca Wx c a σ H1 Q :=
  ⟨e1, F1, own1, R, h.mono (fun _ _ q => q.shift E1) fun _ _ q => q.shift E1⟩
/-- two parts in a row -/
theorem rd_two {a b : ME} {f : Val → Val → Env → Res Val} (R : Rel K ca σ H e F own) (h : PR ((ev c a e).bind fun va e1 => (ev c b e1).bind fun vb e2 => f va vb e2) (QV K ca σ H F (Ow own) Q) (QX K ca Wx σ H F (Ow own))) {r : V → V → Hp → Prop}
    (fin : ∀ va vb e2 u1 u2 H2 F2 own2 fp1 fp2, Rel K ca σ H2 e2 F2 own2 → RV K ca σ H2 F2 (Ow own2) u1 va fp1 → RV K ca σ H2 F2 (Ow own2) u2 vb fp2 → (∀ a ∈ fp1, a ∉ fp2) → (∀ a ∈ fp1, Ow own a ∨ H a = none) → (∀ a ∈ fp2, Ow own a ∨ H a = none) → Ext H F (Ow own) H2 F2 (Ow own2) →
      PR (f va vb e2) (QV K ca σ H F (Ow own) Q) (QX K ca Wx σ H F (Ow own)) → r u1 u2 H2) : tI K ca Wx c a σ H (fun x H1 => tI K ca Wx c b σ H1 fun y H2 => r x y H2) := by
  refine rd_one R h fun va e1 u1 H1 F1 own1 fp1 R1 V1 N1 E1 P1 => ?_
  refine rd_next E1 R1 P1 fun vb e2 u2 H2 F2 own2 fp2 R2 V2 N2 E2 E12 P2 => ?_
  refine fin va vb e2 u1 u2 H2 F2 own2 fp1 fp2 R2 (V1.ext E2 R1.wok) V2 (fun a m z => ?_) N1 (fp_shift E1 N2) E12 P2
  obtain ⟨mb, nw⟩ := V1.mb a m
  exact (N2 a z).elim nw mb.some
/-- an argument list -/
theorem rd_list {es : List ME} {f : List Val → Env → Res Val} {e1 : Env} {H1 : Hp} {F1 : Fs} {own1 : Nat → List Addr} (E1 : Ext H F W H1 F1 (Ow own1)) (R : Rel K ca σ H1 e1 F1 own1) (h : PR ((evs c es e1).bind f) (QV K ca σ H F W Q) (QX K ca Wx σ H F W)) {r : List V → Hp → Prop}
    (fin : ∀ va e2 u H2 F2 own2 fp, Rel K ca σ H2 e2 F2 own2 → RVs K ca σ H2 F2 (Ow own2) u va fp → (∀ a ∈ fp, Ow own1 a ∨ H1 a = none) → Ext H1 F1 (Ow own1) H2 F2 (Ow own2) → Ext H F W H2 F2 (Ow own2) →
      PR (f va e2) (QV K ca σ H F W Q) (QX K ca Wx σ H F W) → r u H2) : tIs K ca Wx c es σ H1 r :=
  ⟨e1, F1, own1, R, h.bind.mono (fun va e2 P u H2 F2 own2 fp R2 V2 N2 E2 => fin va e2 u H2 F2 own2 fp R2 V2 N2 E2 (E1.trans E2) P) fun _ _ q => q.shift E1⟩
end

/-! ### names, constants, argument lists -/
theorem _root_.L2.PE.weak {X : Cx} {x : Expr} {t t' : TE} (h : PE X x t) (w : ∀ σ H Q, t' σ H Q → t σ H Q) : PE X x t' := ⟨fun pins s σ H Q I q => h.run pins s σ H Q I (w σ H Q q)⟩
theorem _root_.L2.PT.weak {X : Cx} {x : Expr} {t t' : TT} (h : PT X x t) (w : ∀ σ H Q, t' σ H Q → t σ H Q) : PT X x t' := ⟨fun pins s σ H Q I q => h.run pins s σ H Q I (w σ H Q q)⟩
theorem _root_.L2.PW.weak {X : Cx} {x : Expr} {t t' : TT} (h : PW X x t) (w : ∀ σ H Q, t' σ H Q → t σ H Q) : PW X x t' := ⟨fun wh pins s σ H Q I q => h.run wh pins s σ H Q I (w σ H Q q)⟩
theorem _root_.L2.PA.weak {X : Cx} {x : List Expr} {t t' : TA} (h : PA X x t) (w : ∀ σ H Q, t' σ H Q → t σ H Q) : PA X x t' := ⟨fun pos pins s σ H Q I q => h.run pos pins s σ H Q I (w σ H Q q)⟩
theorem _root_.L2.PS.weak {X : Cx} {x : Stmt} {t t' : TS} (h : PS X x t) (w : ∀ D σ H, t' D σ H → t D σ H) : PS X x t' := ⟨fun pins s σ H D I q => h.run pins s σ H D I (w D σ H q)⟩
theorem _root_.L2.PSs.weak {X : Cx} {x : List Stmt} {t t' : TS} (h : PSs X x t) (w : ∀ D σ H, t' D σ H → t D σ H) : PSs X x t' := ⟨fun pins s σ H D I q => h.run pins s σ H D I (w D σ H q)⟩
section
variable {X : Cx} {ca : Str → Option Addr} {Wx : Wish} {c : Ctx}
/-- what stands for a value whatever the heap -/
def Cst (K : PySem.W.Frag) (v : V) (x : D) : Prop := ∀ H F, Den K H F v x
theorem pm_c {x : Expr} {v : V} {d : D} (h : PE X x (tC v)) (hd : Cst X.K v d) : PE X x (tI X.K ca Wx c (.c d)) := h.weak fun σ H Q ⟨e, F, own, R, P⟩ => QV.scal (show QV X.K ca σ H F (Ow own) Q (.d d) e from P) R Ext.refl (hd _ _)
theorem pm_v {i : Nat} {x : Expr} (h : PE X x (tVar i)) : PE X x (tI X.K ca Wx c (.v i)) := h.weak fun σ H Q ⟨e, F, own, R, P⟩ => by
  have P : PR (match getS e i with
    | some (.ol _) => .ok (.pk i) e
    | some (.od _) => .ok (.pk i) e
    | some (.pk _) => .no
    | some v => .ok v e
    | none => .no : Res Val) _ _ := P
  cases h1 : getS e i with
  | none => rw [h1] at P; exact P.elim
  | some w =>
    rw [h1] at P
    obtain ⟨u, hu, r⟩ := R.slot i w h1
    refine ⟨u, hu, ?_⟩
    have own0 : ∀ {fp : List Addr}, VR X.K ca H F u w fp → (∀ x, w ≠ .ol x) → (∀ x, w ≠ .od x) → VR X.K ca H F u w [] := fun r n1 n2 => by
      cases r with
      | d h => exact .d h
      | ol _ _ => exact absurd rfl (n1 _)
      | od _ _ => exact absurd rfl (n2 _)
      | ex a b d => exact .ex a b d
    cases w with
    | ol x => exact P u H F own [] R (.pk hu) (fun a m => by cases m) Ext.refl
    | od x => exact P u H F own [] R (.pk hu) (fun a m => by cases m) Ext.refl
    | pk i => exact P.elim
    | d x => exact P u H F own [] R (.val (own0 r (fun _ z => nomatch z) fun _ z => nomatch z) .nil fun a m => by cases m) (fun a m => by cases m) Ext.refl
    | ex x y => exact P u H F own [] R (.val (own0 r (fun _ z => nomatch z) fun _ z => nomatch z) .nil fun a m => by cases m) (fun a m => by cases m) Ext.refl
theorem pm_nil : PA X [] (tIs X.K ca Wx c []) := pa_nil.weak fun σ H Q ⟨e, F, own, R, P⟩ => (show QVs X.K ca σ H F (Ow own) Q [] e from P) [] H F own [] R .nil (fun a m => by cases m) Ext.refl
theorem cons_w {K : PySem.W.Frag} {a : ME} {es : List ME} {σ : L2.St} {H : Hp} {Q : List V → Hp → Prop} (h : tIs K ca Wx c (a :: es) σ H Q) : tI K ca Wx c a σ H fun x H1 => tIs K ca Wx c es σ H1 fun xs H2 => Q (x :: xs) H2 := by
    obtain ⟨e, F, own, R, P⟩ := h
    have P : PR ((ev c a e).bind fun v e1 => (evs c es e1).bind fun vs e2 => .ok (v :: vs) e2) (QVs K ca σ H F (Ow own) Q) (QX K ca Wx σ H F (Ow own)) := P
    refine ⟨e, F, own, R, P.bind.mono (fun va e1 P1 u1 H1 F1 own1 fp1 R1 V1 N1 E1 => ?_) fun _ _ q => q⟩
    refine ⟨e1, F1, own1, R1, P1.bind.mono (fun vs e2 P2 us H2 F2 own2 fps R2 V2 N2 E2 => ?_) fun _ _ q => q.shift E1⟩
    have d : ∀ a ∈ fp1, a ∉ fps := fun a m z => by
      obtain ⟨mb, nw⟩ := V1.mb a m
      exact (N2 a z).elim nw mb.some
    exact (show QVs K ca σ H F (Ow own) Q (va :: vs) e2 from P2) (u1 :: us) H2 F2 own2 (fp1 ++ fps) R2 (.cons (V1.ext E2 R1.wok) V2 d) (fun a m => (List.mem_append.mp m).elim (N1 a) (fp_shift E1 N2 a)) (E1.trans E2)
theorem pm_cons {x : Expr} {xs : List Expr} {a : ME} {es : List ME} (h1 : PE X x (tI X.K ca Wx c a)) (h2 : PA X xs (tIs X.K ca Wx c es)) (hs : starEach (x :: xs) X.env = (false, eval x X.env) :: starEach xs X.env) : PA X (x :: xs) (tIs X.K ca Wx c (a :: es)) :=
  (pa_cons h1 h2 hs).weak fun σ H Q h => cons_w h
end
end PM
end

section
set_option Elab.async false
set_option linter.all false
set_option maxRecDepth 100000
set_option maxHeartbeats 2000000
/-! PMOps: operators and comparisons by data. -/
namespace PM
open PySem PySem.Spec PyProof.Rows L2
section
variable {K : PySem.W.Frag} {ca : Str → Option Addr} {H H' : Hp} {F F' W W' : Fs}
/-- as Den, but the outermost list or dict may still be changed -/
inductive SeeF (K : PySem.W.Frag) (H : Hp) (F : Fs) : V → D → Prop
  | den {u : V} {x : D} : Den K H F u x → SeeF K H F u x
  | lst {a : Addr} {us : List V} {ds : List D} : H a = some (.lst us) → Dens K H F us ds → SeeF K H F (.ref a) (.list ds)
  | dic {a : Addr} {us : List (Key × V)} {ds : List (D × D)} : H a = some (.dK us) → DenKs K H F us ds → SeeF K H F (.ref a) (.dict ds)
theorem VR.seeF {u : V} {v : Val} {fp : List Addr} {x : D} (h : VR K ca H F u v fp) (e : frD v = some x) : SeeF K H F u x := by
  cases h with
  | d h => cases e; exact .den h
  | @ol a us vs fp hl r =>
    change Option.map PyData.list (allD vs) = some x at e
    cases h2 : allD vs with
    | none => rw [h2] at e; cases e
    | some ds => rw [h2] at e; cases e; exact .lst hl (r.dens h2).1
  | @od a us vs fp hl r =>
    change Option.map PyData.dict (allKD vs) = some x at e
    cases h2 : allKD vs with
    | none => rw [h2] at e; cases e
    | some ds => rw [h2] at e; cases e; exact .dic hl (r.dens h2).1
  | ex _ _ _ => cases e
theorem RV.seeF {σ : L2.St} {e : Env} {own : Nat → List Addr} {u : V} {v : Val} {fp : List Addr} {x : D} (R : Rel K ca σ H e F own) (h : RV K ca σ H F W u v fp) (s : PM.see e v = some x) : SeeF K H F u x := by
  cases h with
  | @pk i u hs =>
    have s : (getS e i).bind frD = some x := s
    cases h1 : getS e i with
    | none => rw [h1] at s; cases s
    | some w =>
      rw [h1] at s
      obtain ⟨u', hs', r⟩ := R.slot i w h1
      rw [hs] at hs'
      cases hs'
      exact r.seeF s
  | val h _ _ =>
    cases h with
    | d h => cases s; exact .den h
    | ol h r => exact (VR.ol h r).seeF s
    | od h r => exact (VR.od h r).seeF s
    | ex a b c => cases s
theorem SeeF.see {u : V} {x : D} (h : SeeF K H F u x) : See K H u x := by
  cases h with
  | den h => exact h.see
  | lst h r => exact .lst (.inl ⟨h, trivial⟩) (r.more fun _ _ => trivial)
  | dic h r => exact .dic (.inl ⟨h, trivial⟩) (r.more fun _ _ => trivial)
theorem FzL.rd {a : Addr} {us : List V} (h : FzL H F a us) : Rd H a (.lst us) := by
  rcases h with ⟨h, _⟩ | ⟨o, h⟩
  · exact .inl h
  · exact .inr ⟨o, h⟩
theorem FzL.sq {a : Addr} {us : List V} (h : FzL H F a us) : SqL K H a us := .inl h.rd
theorem SeeF.non {u : V} (h : SeeF K H F u .none) : u = .non := by cases h with | den h => cases h; rfl
theorem SeeF.int {u : V} {i : Int} (h : SeeF K H F u (.int i)) : u = .int i := by cases h with | den h => cases h; rfl
theorem SeeF.bl {u : V} {i : Bool} (h : SeeF K H F u (.bool i)) : u = .bl i := by cases h with | den h => cases h; rfl
theorem SeeF.str {u : V} {i : Str} (h : SeeF K H F u (.str i)) : u = .str i := by cases h with | den h => cases h; rfl
theorem SeeF.list {u : V} {ds : List D} (h : SeeF K H F u (.list ds)) : ∃ a us, u = .ref a ∧ Rd H a (.lst us) ∧ Dens K H F us ds := by
  cases h with
  | den h => cases h with | lst z r => exact ⟨_, _, rfl, z.rd, r⟩
  | lst z r => exact ⟨_, _, rfl, .inl z, r⟩
theorem SeeF.tuple {u : V} {ds : List D} (h : SeeF K H F u (.tuple ds)) : ∃ a us, u = .ref a ∧ SqT K H a us ∧ Dens K H F us ds := by
  cases h with
  | den h => cases h with | tup z r => exact ⟨_, _, rfl, z, r⟩
theorem SeeF.dict {u : V} {ds : List (D × D)} (h : SeeF K H F u (.dict ds)) : ∃ a us, u = .ref a ∧ Rd H a (.dK us) ∧ DenKs K H F us ds := by
  cases h with
  | den h => cases h with | dic z r => exact ⟨_, _, rfl, z.elim (fun z => .inl z.1) .inr, r⟩
  | dic z r => exact ⟨_, _, rfl, .inl z, r⟩
theorem Dens.len : ∀ {us : List V} {ds : List D}, Dens K H F us ds → us.length = ds.length
  | _, _, .nil => rfl
  | _, _, .cons _ r => by rw [List.length_cons, List.length_cons, Dens.len r]
theorem Dens.app : ∀ {us vs : List V} {ds es : List D}, Dens K H F us ds → Dens K H F vs es → Dens K H F (us ++ vs) (ds ++ es)
  | _, _, _, _, .nil, s => s
  | _, _, _, _, .cons h r, s => .cons h (Dens.app r s)
theorem Dens.get : ∀ {us : List V} {ds : List D} {i : Nat} {x : D}, Dens K H F us ds → ds[i]? = some x → ∃ u, us[i]? = some u ∧ Den K H F u x
  | _, _, _, _, .nil, e => by simp at e
  | _, _, 0, _, .cons h _, e => by simp at e; subst e; exact ⟨_, rfl, h⟩
  | _, _, i + 1, x, .cons _ r, e => by
    obtain ⟨u, a, b⟩ := Dens.get (i := i) (x := x) r (by simpa using e)
    exact ⟨u, by simpa using a, b⟩
theorem Dens.take : ∀ {us : List V} {ds : List D} (n : Nat), Dens K H F us ds → Dens K H F (us.take n) (ds.take n)
  | _, _, 0, _ => by simp; exact .nil
  | _, _, _ + 1, .nil => by simp; exact .nil
  | _, _, n + 1, .cons h r => by simp only [List.take_succ_cons]; exact .cons h (Dens.take n r)
theorem Dens.drop : ∀ {us : List V} {ds : List D} (n : Nat), Dens K H F us ds → Dens K H F (us.drop n) (ds.drop n)
  | _, _, 0, r => r
  | _, _, _ + 1, .nil => .nil
  | _, _, n + 1, .cons _ r => by simp only [List.drop_succ_cons]; exact Dens.drop n r
theorem Dens.rep {us : List V} {ds : List D} (h : Dens K H F us ds) : ∀ k : Nat, Dens K H F (List.replicate k us).flatten (List.replicate k ds).flatten
  | 0 => .nil
  | k + 1 => by simp only [List.replicate_succ, List.flatten_cons]; exact h.app (Dens.rep h k)
theorem Dens.ints : ∀ {us : List V} {ds : List D} {ns : List Int}, Dens K H F us ds → intsD ds = some ns → us = ns.map V.int
  | _, _, _, .nil, e => by cases e; rfl
  | _, x :: xs, ns, .cons h r, e => by
    cases x with
    | int i =>
      have e : (intsD xs).map (i :: ·) = some ns := e
      cases q : intsD xs with
      | none => rw [q] at e; cases e
      | some ms =>
        rw [q] at e
        cases e
        cases h
        rw [Dens.ints r q]
        rfl
    | _ => cases e
theorem Dens.strs : ∀ {us : List V} {ds : List D} {ns : List Str}, Dens K H F us ds → strsD ds = some ns → us = ns.map V.str
  | _, _, _, .nil, e => by cases e; rfl
  | _, x :: xs, ns, .cons h r, e => by
    cases x with
    | str i =>
      have e : (strsD xs).map (i :: ·) = some ns := e
      cases q : strsD xs with
      | none => rw [q] at e; cases e
      | some ms =>
        rw [q] at e
        cases e
        cases h
        rw [Dens.strs r q]
        rfl
    | _ => cases e
theorem Dens.bools : ∀ {us : List V} {ds : List D} {ns : List Bool}, Dens K H F us ds → boolsD ds = some ns → us = ns.map V.bl
  | _, _, _, .nil, e => by cases e; rfl
  | _, x :: xs, ns, .cons h r, e => by
    cases x with
    | bool i =>
      have e : (boolsD xs).map (i :: ·) = some ns := e
      cases q : boolsD xs with
      | none => rw [q] at e; cases e
      | some ms =>
        rw [q] at e
        cases e
        cases h
        rw [Dens.bools r q]
        rfl
    | _ => cases e
theorem Dens.ofInts : ∀ (ns : List Int), Dens K H F (ns.map V.int) (ns.map .int)
  | [] => .nil
  | i :: r => .cons (.int i) (Dens.ofInts r)
theorem Dens.ofStrs : ∀ (ns : List Str), Dens K H F (ns.map V.str) (ns.map .str)
  | [] => .nil
  | i :: r => .cons (.str i) (Dens.ofStrs r)
mutual
theorem Den.dp : ∀ {u : V} {x : D}, See K H u x → x.canLay0 = true → Dp K H u x
  | _, _, .non, _ => .non
  | _, _, .bl b, _ => .bl b
  | _, _, .int i, _ => .int i
  | _, _, .str z, _ => .str z
  | _, _, .lst z r, c => .lst z.sq (Dens.dp r (by simpa [PyData.canLay0] using c))
  | _, _, .tup z r, c => .tup z (Dens.dp r (by simpa [PyData.canLay0] using c))
  | _, _, .dic z r, c => by simp [PyData.canLay0] at c
theorem Dens.dp : ∀ {u : List V} {x : List D}, Sees K H u x → PyData.canLayAll0 x = true → DpAll K H u x
  | _, _, .nil, _ => .nil
  | _, _, .cons h r, c => by
    have c := (Bool.and_eq_true_iff.mp (by simpa only [PyData.canLayAll0] using c))
    exact .cons (Den.dp h c.1) (Dens.dp r c.2)
end

/-- a dict's items by data, the keys the same -/
inductive DKs (K : PySem.W.Frag) (H : Hp) (F : Fs) : List (Key × V) → List (Key × D) → Prop
  | nil : DKs K H F [] []
  | cons {k : Key} {u : V} {us : List (Key × V)} {x : D} {xs : List (Key × D)} : Den K H F u x → DKs K H F us xs → DKs K H F ((k, u) :: us) ((k, x) :: xs)
theorem DKs.vrk {us : List (Key × V)} {xs : List (Key × D)} (h : DKs K H F us xs) : VRk K ca H F us (liftK xs) [] := by
  induction h with
  | nil => exact .nil
  | cons d _ ih => exact VRk.cons (fp := []) (gp := []) (.d d) ih
theorem DKs.alloc {p : Addr} {o : HO} {us : List (Key × V)} {xs : List (Key × D)} (h : DKs K H F us xs) (hp : H p = none) : DKs K (upd H p o) F us xs := by
  induction h with
  | nil => exact .nil
  | cons d _ ih => exact .cons (d.alloc hp) ih
/-- what an operation hands back -/
inductive Made (K : PySem.W.Frag) (H : Hp) (F : Fs) : Val → V → Hp → Prop
  | here {x : D} {u : V} : Den K H F u x → Made K H F (.d x) u H
  | tup {ds : List D} {us : List V} {p : Addr} : H p = none → Dens K H F us ds → Made K H F (.d (.tuple ds)) (.ref p) (upd H p (.tup us))
  | lst {ds : List D} {us : List V} {p : Addr} : H p = none → Dens K H F us ds → Made K H F (.ol (ds.map .d)) (.ref p) (upd H p (.lst us))
  | dic {ds : List (Key × D)} {us : List (Key × V)} {p : Addr} : H p = none → DKs K H F us ds → Made K H F (.od (liftK ds)) (.ref p) (upd H p (.dK us))
theorem QV.made {σ : L2.St} {e : Env} {H2 : Hp} {F2 : Fs} {own2 : Nat → List Addr} {Q : VK} {v : Val} (q : QV K ca σ H F W Q v e) (R : Rel K ca σ H2 e F2 own2) (E : Ext H F W H2 F2 (Ow own2)) : ∀ u H', Made K H2 F2 v u H' → Q u H' := fun u H' m => by
  cases m with
  | here d => exact q.scal R E d
  | tup hp d => exact q.newt R E d _ hp
  | lst hp d => exact q.newl R E d _ hp
  | dic hp d => exact q.newd R E hp (d.alloc hp).vrk
end

section
variable {X : Cx}
abbrev rD (K : PySem.W.Frag) (f : D → D → Option Val) : R2 := fun u1 u2 H Q => ∃ F x y v, SeeF K H F u1 x ∧ SeeF K H F u2 y ∧ f x y = some v ∧ ∀ u H', Made K H F v u H' → Q u H'
theorem op_catL {pins : List (Addr × Obj)} {s : Shared} {σ : L2.St} {H : Hp} {l b : Addr} {xs zs : List V} {Q : VK} (I : Inv X pins σ H s) (hH : Rd H l (.lst xs)) (hB : Rd H b (.lst zs)) (hz : xs.length + zs.length ≤ sizeLine)
    (q : ∀ p, H p = none → Q (.ref p) (upd H p (.lst (xs ++ zs)))) : wpAny (model X.prog X.w) X.A (binaryOp .Add (.ref l) (.ref b)) (EP X pins σ Q) X.xe s := by
  obtain ⟨z, its, n, r, e⟩ := hH.ok I.hok
  obtain ⟨z2, its2, n2, r2, e2⟩ := hB.ok I.hok
  refine PySem.P.add_list e e2 ?_ (by rw [List.size_toArray, List.size_toArray, ← r.length, ← r2.length]; omega)
  have ea : its.toArray ++ its2.toArray = (its ++ its2).toArray := by simp
  rw [ea]
  exact ⟨.ref _, _, I.lnew (t' := s.toks) (r.append r2) (by rw [List.length_append]; omega), rfl, q _ I.fresh⟩
theorem opD_add : OpR X (binaryOp .Add) (rD X.K (binD .Add)) := by
  intro pins s σ H x y v u Q I rx ry ⟨F, a, b, w, ha, hb, e, q⟩
  cases a with
  | int i =>
    cases b with
    | int j =>
      cases e
      obtain rfl := ha.int
      obtain rfl := hb.int
      exact op_add pins s σ H _ _ v u Q I rx ry ⟨i, j, rfl, rfl, q _ _ (.here (.int _))⟩
    | _ => cases e
  | str i =>
    cases b with
    | str j =>
      have e : (if i.length + j.length ≤ lineN then some (Val.d (.str (i ++ j))) else none) = some w := e
      split at e
      · rename_i hl
        cases e
        obtain rfl := ha.str
        obtain rfl := hb.str
        exact op_add_str pins s σ H _ _ v u Q I rx ry ⟨i, j, rfl, rfl, hl, q _ _ (.here (.str _))⟩
      · cases e
    | _ => cases e
  | tuple xs =>
    cases b with
    | tuple ys =>
      have e : (if xs.length + ys.length ≤ lineN then some (Val.d (.tuple (xs ++ ys))) else none) = some w := e
      split at e
      · rename_i hl
        cases e
        obtain ⟨p, us, rfl, hp, dx⟩ := ha.tuple
        obtain ⟨p', us', rfl, hp', dy⟩ := hb.tuple
        refine op_catA pins s σ H _ _ v u Q I rx ry ⟨p, p', us, us', rfl, rfl, hp, hp', by rw [dx.len, dy.len]; exact hl, fun z => ?_, fun z1 z2 => ?_, fun z1 z2 p hp => ?_⟩
        · subst z
          cases dx
          exact q _ _ (.here (.tup hp' dy))
        · subst z2
          cases dy
          rw [List.append_nil] at q
          exact q _ _ (.here (.tup hp dx))
        · exact q _ _ (.tup hp (dx.app dy))
      · cases e
    | _ => cases e
  | list xs =>
    cases b with
    | list ys =>
      have e : (if xs.length + ys.length ≤ lineN then some (Val.ol ((xs ++ ys).map .d)) else none) = some w := e
      split at e
      · rename_i hl
        cases e
        obtain ⟨p, us, rfl, hp, dx⟩ := ha.list
        obtain ⟨p', us', rfl, hp', dy⟩ := hb.list
        cases rx
        cases ry
        exact op_catL I hp hp' (by rw [dx.len, dy.len]; exact hl) fun p hp => q _ _ (.lst hp (dx.app dy))
      · cases e
    | _ => cases e
  | _ => cases b <;> cases e
theorem opD_sub : OpR X (binaryOp .Sub) (rD X.K (binD .Sub)) := by
  intro pins s σ H x y v u Q I rx ry ⟨F, a, b, w, ha, hb, e, q⟩
  cases a with
  | int i =>
    cases b with
    | int j =>
      cases e
      obtain rfl := ha.int
      obtain rfl := hb.int
      exact op_sub pins s σ H _ _ v u Q I rx ry ⟨i, j, rfl, rfl, q _ _ (.here (.int _))⟩
    | _ => cases e
  | _ => cases b <;> cases e
theorem opD_fdiv : OpR X (binaryOp .FloorDiv) (rD X.K (binD .FloorDiv)) := by
  intro pins s σ H x y v u Q I rx ry ⟨F, a, b, w, ha, hb, e, q⟩
  cases a with
  | int i =>
    cases b with
    | int j =>
      have e : (if 0 < j ∧ j < 1073741824 then some (Val.d (.int (i / j))) else none) = some w := e
      split at e
      · rename_i hl
        cases e
        obtain rfl := ha.int
        obtain rfl := hb.int
        exact op_fdiv pins s σ H _ _ v u Q I rx ry ⟨i, j, rfl, rfl, hl, q _ _ (.here (.int _))⟩
      · cases e
    | _ => cases e
  | _ => cases b <;> cases e
theorem opD_mod : OpR X (binaryOp .Mod) (rD X.K (binD .Mod)) := by
  intro pins s σ H x y v u Q I rx ry ⟨F, a, b, w, ha, hb, e, q⟩
  cases a with
  | int i =>
    cases b with
    | int j =>
      have e : (if 0 < j then some (Val.d (.int (i % j))) else none) = some w := e
      split at e
      · rename_i hl
        cases e
        obtain rfl := ha.int
        obtain rfl := hb.int
        exact op_mod pins s σ H _ _ v u Q I rx ry ⟨i, j, rfl, rfl, hl, q _ _ (.here (.int _))⟩
      · cases e
    | _ => cases e
  | _ => cases b <;> cases e
theorem opD_pow : OpR X (binaryOp .Pow) (rD X.K (binD .Pow)) := by
  intro pins s σ H x y v u Q I rx ry ⟨F, a, b, w, ha, hb, e, q⟩
  cases a with
  | int i =>
    cases b with
    | int j =>
      have e : (if 0 ≤ j ∧ j ≤ 1000000 ∧ i.natAbs < 2 ^ 64 then some (Val.d (.int (i ^ j.toNat))) else none) = some w := e
      split at e
      · rename_i hl
        cases e
        obtain rfl := ha.int
        obtain rfl := hb.int
        exact op_pow pins s σ H _ _ v u Q I rx ry ⟨i, j, rfl, rfl, hl, q _ _ (.here (.int _))⟩
      · cases e
    | _ => cases e
  | _ => cases b <;> cases e
theorem op_repLF {pins : List (Addr × Obj)} {s : Shared} {σ : L2.St} {H : Hp} {l : Addr} {k : Int} {t : Tok} {xs : List V} {Q : VK} (I : Inv X pins σ H s) (hH : Rd H l (.lst xs)) (h1 : -(2 ^ 63) ≤ k) (h2 : k < 2 ^ 63) (hz : xs.length * k.toNat ≤ sizeLine)
    (q : ∀ p, H p = none → Q (.ref p) (upd H p (.lst (List.replicate k.toNat xs).flatten))) : wpAny (model X.prog X.w) X.A (binaryOp .Mult (.ref l) (.int k t)) (EP X pins σ Q) X.xe s := by
  obtain ⟨z, its, n, r, e⟩ := hH.ok I.hok
  have hl := r.length
  have hlen : its.toArray.size * k.toNat ≤ sizeLine := by rw [List.size_toArray, ← hl]; exact hz
  have hcap : ¬ its.toArray.size * k.toNat > (2 ^ 63 - 1) / 8 := by
    have : (sizeLine : Nat) ≤ (2 ^ 63 - 1) / 8 := by decide
    omega
  have hfit : ¬ (!Builtin.List.listFitsIndex k) = true := by
    rw [fitsIndex_both h1 h2]
    exact Bool.false_ne_true
  have hlong : ¬ Builtin.List.listTooLong (its.toArray.size * k.toNat) = true := by
    rw [notLongL hlen]
    exact Bool.false_ne_true
  have hnew : List.foldl (fun x1 x2 => x1 ++ x2) #[] (List.replicate (if its.toArray.isEmpty = true then 0 else k.toNat) its.toArray) = (List.replicate k.toNat its).flatten.toArray := by
    have f0 : ∀ m : Nat, List.foldl (fun x1 x2 => x1 ++ x2) #[] (List.replicate m its.toArray) = (List.replicate m its).flatten.toArray := fun m => by
      have := foldl_rep its m []
      rw [List.nil_append] at this
      exact this
    rw [f0]
    cases its with
    | nil => simp
    | cons a r' => rw [if_neg (by simp)]
  refine wpAny_binaryOp_repeat_ref (T := "list") (U := "int") (by decide) ⟨_, e, rfl⟩ (fun s' => typeIs_int s' k t) noFill_list_mul F.fills_int_mul F.slot_int_rmul repeat_list F.slot_int_index.lookup
    (call_meets F.slot_int_rmul (typeIs_int s k t) F.entry_int_rmul (F.args_int_rmul_2 _ _) (int___rmul___int_list k t l its.toArray n)
      ⟨e, rfl, ⟨_, e, rfl⟩, call_meets F.slot_list_mul ⟨_, e, rfl⟩ F.entry_list_mul (F.args_list_mul_2 _ _) (AutoListH.list___mul___list_int_3 l its.toArray n k t hfit hcap hlong) ⟨e, ?_⟩⟩)
  rw [hnew]
  exact ⟨.ref _, _, I.lnew (t' := s.toks) (r.rep k.toNat) (by rw [PyProof.Rows.lm_len_rep_flat, Nat.mul_comm]; exact hz), rfl, q _ I.fresh⟩
end
end PM
end

section
set_option Elab.async false
set_option linter.all false
set_option maxRecDepth 100000
set_option maxHeartbeats 2000000
/-! PMOps2: products, comparisons, memberships by data. -/
namespace PM
open PySem PySem.Spec PyProof.Rows L2
section
variable {K : PySem.W.Frag} {ca : Str → Option Addr} {H H' : Hp} {F F' W W' : Fs}
theorem kV_of {a : D} {k : Key} {u : V} (h : SeeF K H F u a) (e : dKey a = some k) : u = kV k := by
  cases a with
  | int i => cases e; exact h.int
  | str i => cases e; exact h.str
  | _ => cases e
theorem dKey_keyD (k : Key) : dKey (keyD k) = some k := by cases k <;> rfl
theorem getK_cons (k k' : Key) (x : D) (xs : List (D × D)) : getK ((keyD k', x) :: xs) k = if k' = k then some x else getK xs k := by
  unfold getK
  rw [List.find?_cons, dKey_keyD]
  by_cases q : k' = k
  · subst q; simp
  · rw [if_neg q]
    have : decide (some k' = some k) = false := decide_eq_false fun z => q (Option.some.inj z)
    rw [this]
theorem valV_cons' (k k' : Key) (v : V) (vs : List (Key × V)) : valV ((k', v) :: vs) k = if k' = k then some v else valV vs k := by
  unfold valV
  rw [List.find?_cons]
  by_cases q : k' = k
  · subst q; simp
  · rw [if_neg q]
    have : decide ((k', v).1 = k) = false := decide_eq_false q
    rw [this]
theorem DenKs.find (k : Key) : ∀ {us : List (Key × V)} {kvs : List (D × D)}, DenKs K H F us kvs →
    (∀ x, getK kvs k = some x → ∃ v, valV us k = some v ∧ Den K H F v x) ∧ (getK kvs k = none → valV us k = none)
  | _, _, .nil => ⟨fun x e => (by cases e), fun _ => rfl⟩
  | _, _, .cons (k := k') (v := v) (vs := vs) (x := x) (xs := xs) h r => by
    obtain ⟨i1, i2⟩ := DenKs.find k r
    rw [getK_cons, valV_cons']
    by_cases q : k' = k
    · rw [if_pos q, if_pos q]
      exact ⟨fun y e => ⟨v, rfl, Option.some.inj e ▸ h⟩, fun e => by cases e⟩
    · rw [if_neg q, if_neg q]
      exact ⟨i1, i2⟩
theorem DenKs.has (k : Key) {us : List (Key × V)} {kvs : List (D × D)} (h : DenKs K H F us kvs) : (getK kvs k).isSome = (valV us k).isSome := by
  obtain ⟨i1, i2⟩ := h.find k
  cases q : getK kvs k with
  | none => rw [i2 q]; rfl
  | some x => obtain ⟨v, e, _⟩ := i1 x q; rw [e]; rfl
theorem DenKs.len : ∀ {us : List (Key × V)} {ds : List (D × D)}, DenKs K H F us ds → us.length = ds.length
  | _, _, .nil => rfl
  | _, _, .cons _ r => by rw [List.length_cons, List.length_cons, DenKs.len r]
end
section
variable {X : Cx}
theorem op_repTF {pins : List (Addr × Obj)} {s : Shared} {σ : L2.St} {H : Hp} {l : Addr} {k : Int} {t : Tok} {xs : List V} {Q : VK} (I : Inv X pins σ H s) (hT : SqT X.K H l xs) (hne : xs ≠ []) (h1 : 2 ≤ k) (h2 : k < 2 ^ 62) (hz : xs.length * k.toNat ≤ sizeLine)
    (q : ∀ p, H p = none → Q (.ref p) (upd H p (.tup (List.replicate k.toNat xs).flatten))) : wpAny (model X.prog X.w) X.A (binaryOp .Mult (.ref l) (.int k t)) (EP X pins σ Q) X.xe s := by
  obtain ⟨its, r, ⟨⟨cls, dd, data, sl⟩, ho, hc, n, hd⟩, hs⟩ := I.tuple hT
  simp only at hc hd
  subst hc hd
  have hle : its.length = xs.length := r.length.symm
  have hn : its ≠ [] := fun e => hne (by
    rw [e] at hle
    exact List.eq_nil_of_length_eq_zero hle.symm)
  have hi : its.toArray.isEmpty = false := by
    cases its with
    | nil => exact absurd rfl hn
    | cons a b => rfl
  have hsz0 : its.toArray.size = xs.length := by rw [List.size_toArray, hle]
  have hsl := sizeLine_eq
  have hm : ((its.toArray.size : Nat) : Int) * k ≤ sizeLine := by
    rw [hsz0]
    have e1 : k = ((k.toNat : Nat) : Int) := by omega
    rw [e1, ← Int.natCast_mul]
    exact Int.ofNat_le.mpr hz
  have flen : (List.replicate k.toNat its).flatten.length ≤ sizeLine := by
    rw [PyProof.Rows.lm_len_rep_flat, hle, Nat.mul_comm]; exact hz
  have c0 : (decide (k < -(2 ^ 63)) || decide (k ≥ 2 ^ 63)) = false := by
    rw [decide_eq_false (by omega), decide_eq_false (by omega)] <;> rfl
  have c1 : (its.toArray.isEmpty || k == 1) = false := by
    rw [hi, Bool.false_or]
    exact beq_eq_false_iff_ne.mpr (by omega)
  have c2 : (decide (k ≤ 0) || its.toArray.isEmpty) = false := by
    rw [hi, Bool.or_false]
    exact decide_eq_false (by omega)
  have c4 : Builtin.Tuple.tupleTooMany (((its.toArray.size : Nat) : Int) * k) = false := by
    unfold Builtin.Tuple.tupleTooMany
    exact decide_eq_false (by omega)
  refine wpAny_binaryOp_repeat_ref (T := "tuple") (U := "int") (by decide) ⟨_, ho, rfl⟩ (fun s' => typeIs_int s' k t) noFill_tuple_mul F.fills_int_mul F.slot_int_rmul repeat_tuple F.slot_int_index.lookup
    (call_meets F.slot_int_rmul (typeIs_int s k t) F.entry_int_rmul (F.args_int_rmul_2 _ _) (int_rmul_tuple k t l its.toArray n dd sl)
      ⟨ho, rfl, ⟨_, ho, rfl⟩, call_meets F.slot_tuple_mul ⟨_, ho, rfl⟩ F.entry_tuple_mul (F.args_tuple_mul_2 _ _) (tuple_mulW l its.toArray n dd sl k t c0 c1 c2 (by rw [hsl] at hm; omega) c4 (by rw [size_rep, List.size_toArray]; exact flen)) ⟨ho, ?_⟩⟩)
  rw [size_rep]
  refine ⟨.ref s.heap.objs.size, _, I.laid (t' := s.toks) (o := .tup (List.replicate k.toNat xs).flatten) (fun b ob q => Heap.get?_push_of_some _ q) (Nat.le_refl _) ?_, rfl, q _ (I.hok.fresh (Nat.le_refl _))⟩
  exact ⟨by rw [PyProof.Rows.lm_len_rep_flat, Nat.mul_comm]; exact hz, _, r.rep k.toNat, IsTup.new _ _⟩
theorem txt_mul (x : Str) (n : Int) (h : 0 ≤ n) : Txt.mul x n = ⟨(repD x.cps.toList n).toArray⟩ := by
  have f0 : ∀ (m : Nat) (acc : Array Nat), List.foldl (· ++ ·) acc (List.replicate m x.cps) = acc ++ ((List.replicate m x.cps.toList).flatten).toArray := fun m => by
    induction m with
    | zero => intro acc; simp
    | succ m ih =>
      intro acc
      rw [List.replicate_succ, List.foldl_cons, ih, List.replicate_succ, List.flatten_cons]
      apply Array.toList_inj.mp
      simp
  unfold Txt.mul repD
  by_cases h1 : n < 1
  · rw [if_pos h1]
    have : n = 0 := by omega
    subst this
    rfl
  · rw [if_neg h1]
    split
    · rename_i h2
      rw [Bool.or_eq_true] at h2
      rcases h2 with h2 | h2
      · have : n = 1 := by simpa using h2
        subst this
        simp
      · have : x.cps.size = 0 := by simpa [Str.length] using h2
        have e : x.cps = #[] := Array.eq_empty_of_size_eq_zero this
        have e2 : ∀ m : Nat, (List.replicate m ([] : List Nat)).flatten = [] := fun m => by
          induction m with
          | zero => rfl
          | succ m ih => rw [List.replicate_succ, List.flatten_cons, ih]; rfl
        apply Str.ext'
        rw [e]
        simp [e2]
    · rw [f0]
      simp
theorem opD_mul : OpR X (binaryOp .Mult) (rD X.K (binD .Mult)) := by
  intro pins s σ H x y v u Q I rx ry ⟨F, a, b, w, ha, hb, e, q⟩
  cases a with
  | int i =>
    cases b with
    | int j =>
      have e : (if okMul i j = true then some (Val.d (.int (i * j))) else none) = some w := e
      split at e
      · rename_i hl
        cases e
        obtain rfl := ha.int
        obtain rfl := hb.int
        have c : CMul i j := by
          unfold okMul at hl
          simp only [Bool.or_eq_true, Bool.and_eq_true, decide_eq_true_eq] at hl
          exact hl
        exact op_mul pins s σ H _ _ v u Q I rx ry ⟨i, j, rfl, rfl, c, q _ _ (.here (.int _))⟩
      · cases e
    | _ => cases e
  | list xs =>
    cases b with
    | int k =>
      have e : (if -(2 ^ 63) ≤ k ∧ k < 2 ^ 63 ∧ xs.length * k.toNat ≤ lineN then some (Val.ol ((repD xs k).map .d)) else none) = some w := e
      split at e
      · rename_i hl
        cases e
        obtain ⟨p, us, rfl, hp, dx⟩ := ha.list
        obtain rfl := hb.int
        cases rx
        obtain ⟨t, rfl⟩ := ry
        exact op_repLF I hp hl.1 hl.2.1 (by rw [dx.len]; exact hl.2.2) fun p hp => q _ _ (.lst hp (dx.rep _))
      · cases e
    | _ => cases e
  | tuple xs =>
    cases b with
    | int k =>
      have e : (if xs ≠ [] ∧ 2 ≤ k ∧ k < 2 ^ 62 ∧ xs.length * k.toNat ≤ lineN then some (Val.d (.tuple (repD xs k))) else none) = some w := e
      split at e
      · rename_i hl
        cases e
        obtain ⟨p, us, rfl, hp, dx⟩ := ha.tuple
        obtain rfl := hb.int
        cases rx
        obtain ⟨t, rfl⟩ := ry
        exact op_repTF I hp (fun z => hl.1 (by subst z; cases dx; rfl)) hl.2.1 hl.2.2.1 (by rw [dx.len]; exact hl.2.2.2) fun p hp => q _ _ (.tup hp (dx.rep _))
      · cases e
    | _ => cases e
  | str z =>
    cases b with
    | int k =>
      have e : (if 0 ≤ k ∧ k < 2 ^ 62 ∧ z.length * k.toNat ≤ lineN then some (Val.d (.str ⟨(repD z.cps.toList k).toArray⟩)) else none) = some w := e
      split at e
      · rename_i hl
        cases e
        obtain rfl := ha.str
        obtain rfl := hb.int
        obtain ⟨t, rfl⟩ := rx
        obtain ⟨t', rfl⟩ := ry
        have hsl : (lineN : Nat) = 16777216 := sizeLine_eq
        have big : ∀ n : Nat, n ≤ lineN → Builtin.Str.tooLong n = false := fun n hn => by
          unfold Builtin.Str.tooLong
          simp only [decide_eq_false_iff_not]
          have : n ≤ sizeLine := hn
          omega
        refine SB.mul ⟨?_, fun h1 h2 => ?_, fun h1 h2 => big _ hl.2.2⟩ fun t' kk => ?_
        · rw [decide_eq_false (by omega), decide_eq_false (by omega)]; rfl
        · have hk : 0 < k := by omega
          have a1 : (z.length : Int) * k ≤ 16777216 := by
            have e1 : k = ((k.toNat : Nat) : Int) := by omega
            rw [e1, ← Int.natCast_mul]
            have := hl.2.2
            omega
          have a2 : (z.length : Int) ≤ (2 ^ 63 - 1) / k := by
            apply (Int.le_ediv_iff_mul_le hk).mpr
            omega
          omega
        · rw [txt_mul z k hl.1]
          exact ⟨.str _, H, I.tok _, ⟨_, rfl⟩, q _ _ (.here (.str _))⟩
      · cases e
    | _ => cases e
  | _ => cases b <;> cases e

/-! ### comparisons -/
abbrev rC (K : PySem.W.Frag) (f : D → D → Option Bool) : R2 := fun u1 u2 H Q => ∃ F x y k, SeeF K H F u1 x ∧ SeeF K H F u2 y ∧ f x y = some k ∧ Q (.bl k) H
/-- compared with what is empty -/
theorem eqvAll_nil (xs : List D) : PyData.eqvAll xs [] = xs.isEmpty := by cases xs <;> rfl
theorem eqvAll_nil' (xs : List D) : PyData.eqvAll [] xs = xs.isEmpty := by cases xs <;> rfl
theorem emp_eqv {xs ys : List D} (h : (xs.isEmpty || ys.isEmpty) = true) : PyData.eqvAll xs ys = (xs.length == ys.length) := by
  rw [Bool.or_eq_true, List.isEmpty_iff, List.isEmpty_iff] at h
  rcases h with rfl | rfl
  · rw [eqvAll_nil']; cases ys <;> rfl
  · rw [eqvAll_nil]; cases xs <;> rfl
theorem emp_ok {pins : List (Addr × Obj)} {s : Shared} {σ : L2.St} {H : Hp} {F : Fs} {x y : V} {v u : Value} {a b : D} (hu : X.A.units + 100 < cLine) (I : Inv X pins σ H s) (rx : RelV x v) (ry : RelV y u) (ha : SeeF X.K H F x a) (hb : SeeF X.K H F y b) (h : empD a b = true) :
    SeqAt.RcAt X.A s v u (PyData.eqv a b) ∧ SeqAt.RcNeAt X.A s v u (!PyData.eqv a b) := by
  have hu' : X.A.units < cLine := by omega
  unfold empD at h
  split at h
  · rename_i xs ys
    obtain ⟨p, us, rfl, hp, d1⟩ := ha.tuple
    obtain ⟨q, ws, rfl, hq, d2⟩ := hb.tuple
    cases rx
    cases ry
    obtain ⟨its, r1, t1, _⟩ := I.tuple hp
    obtain ⟨jts, r2, t2, _⟩ := I.tuple hq
    have l1 := r1.length.symm.trans d1.len
    have l2 := r2.length.symm.trans d2.len
    have e0 : PyData.eqv (.tuple xs) (.tuple ys) = (xs.length == ys.length) := emp_eqv h
    have hz : its.length = 0 ∨ jts.length = 0 := by
      rw [Bool.or_eq_true, List.isEmpty_iff, List.isEmpty_iff] at h
      rcases h with rfl | rfl
      · exact .inl l1
      · exact .inr l2
    have k : ((List.range (min its.toArray.size jts.toArray.size)).all (fun _ => true) && its.toArray.size == jts.toArray.size) = (xs.length == ys.length) := by
      rw [List.size_toArray, List.size_toArray, l1, l2]
      simp
    have he : ∀ j (h1 : j < its.toArray.size) (h2 : j < jts.toArray.size), SeqAt.EqAt X.A.in1 s its.toArray[j] jts.toArray[j] true := fun j h1 h2 => by
      rw [List.size_toArray] at h1 h2
      omega
    refine ⟨?_, ?_⟩
    · have := SeqAt.RcAt.tuples (e := fun _ => true) t1 t2 hu' he
      rw [k] at this
      rw [e0]
      exact this
    · have := SeqAt.RcNeAt.tuples (e := fun _ => true) t1 t2 hu' he
      rw [k] at this
      rw [e0]
      exact this
  · rename_i xs ys
    obtain ⟨p, us, rfl, hp, d1⟩ := ha.list
    obtain ⟨q, ws, rfl, hq, d2⟩ := hb.list
    cases rx
    cases ry
    obtain ⟨its, r1, t1, _⟩ := I.list (.inl hp)
    obtain ⟨jts, r2, t2, _⟩ := I.list (.inl hq)
    have l1 := r1.length.symm.trans d1.len
    have l2 := r2.length.symm.trans d2.len
    have e0 : PyData.eqv (.list xs) (.list ys) = (xs.length == ys.length) := emp_eqv h
    have hz : its.length = 0 ∨ jts.length = 0 := by
      rw [Bool.or_eq_true, List.isEmpty_iff, List.isEmpty_iff] at h
      rcases h with rfl | rfl
      · exact .inl l1
      · exact .inr l2
    have he : ∀ j (h1 : j < its.toArray.size) (h2 : j < jts.toArray.size), SeqAt.EqAt X.A.in1 s its.toArray[j] jts.toArray[j] true := fun j h1 h2 => by
      rw [List.size_toArray] at h1 h2
      omega
    by_cases hl : its.length = jts.length
    · have hsz : its.toArray.size = jts.toArray.size := by rw [List.size_toArray, List.size_toArray, hl]
      have k : (List.range its.toArray.size).all (fun _ => true) = (xs.length == ys.length) := by
        rw [← l1, ← l2, hl]
        simp
      refine ⟨?_, ?_⟩
      · have := SeqAt.RcAt.lists (e := fun _ => true) t1.isList t2.isList hsz hu' he
        rw [k] at this
        rw [e0]
        exact this
      · have := SeqAt.RcNeAt.lists (e := fun _ => true) t1.isList t2.isList hsz hu' he
        rw [k] at this
        rw [e0]
        exact this
    · have hsz : (its.toArray.size != jts.toArray.size) = true := by rw [List.size_toArray, List.size_toArray]; simpa using hl
      have k : (xs.length == ys.length) = false := by rw [← l1, ← l2]; simpa using hl
      rw [e0, k]
      exact ⟨SeqAt.RcAt.lists_lengths t1.isList t2.isList hsz hu', SeqAt.RcNeAt.lists_lengths t1.isList t2.isList hsz hu'⟩
  · cases h
theorem opC_eq (hu : X.A.units + 100 < cLine) : OpR X (compareOp .Eq) (rC X.K eqD) := by
  intro pins s σ H x y v u Q I rx ry ⟨F, a, b, k, ha, hb, e, q⟩
  unfold eqD at e
  split at e
  · rename_i h
    cases e
    rw [Bool.or_eq_true, Bool.or_eq_true] at h
    rcases h with (h | h) | h
    · cases a <;> cases b <;> first | cases h | skip
      · obtain rfl := ha.non
        obtain rfl := hb.non
        exact op_eq pins s σ H _ _ v u Q I rx ry ⟨rfl, by simpa [PyData.eqv] using q⟩
      · rename_i i j
        obtain rfl := ha.bl
        obtain rfl := hb.bl
        exact op_eq pins s σ H _ _ v u Q I rx ry ⟨rfl, by rw [dec_bl]; simpa [PyData.eqv] using q⟩
      · rename_i i j
        obtain rfl := ha.int
        obtain rfl := hb.int
        exact op_eq pins s σ H _ _ v u Q I rx ry ⟨rfl, by rw [dec_int]; simpa [PyData.eqv] using q⟩
      · rename_i i j
        obtain rfl := ha.str
        obtain rfl := hb.str
        exact op_eq pins s σ H _ _ v u Q I rx ry ⟨rfl, by rw [dec_str]; simpa [PyData.eqv] using q⟩
    · unfold okEq at h
      simp only [Bool.and_eq_true, decide_eq_true_eq] at h
      obtain ⟨as, r1⟩ := Dp.reads I a x v (Den.dp ha.see h.1.1) rx
      obtain ⟨bs, r2⟩ := Dp.reads I b y u (Den.dp hb.see h.1.2) ry
      exact SeqAt.compareEq_reads r1 r2 h.1.1 h.1.2 (by omega) ⟨.bl _, H, I, rfl, q⟩
    · exact (emp_ok hu I rx ry ha hb h).1 X.prog X.w _ _ ⟨.bl _, H, I, rfl, q⟩
  · cases e
theorem opC_ne (hu : X.A.units + 100 < cLine) : OpR X (compareOp .NotEq) (rC X.K fun x y => (eqD x y).map (!·)) := by
  intro pins s σ H x y v u Q I rx ry ⟨F, a, b, k, ha, hb, e, q⟩
  have e : (eqD a b).map (!·) = some k := e
  unfold eqD at e
  split at e
  · rename_i h
    cases e
    rw [Bool.or_eq_true, Bool.or_eq_true] at h
    rcases h with (h | h) | h
    · cases a <;> cases b <;> first | cases h | skip
      · obtain rfl := ha.non
        obtain rfl := hb.non
        exact op_ne pins s σ H _ _ v u Q I rx ry ⟨rfl, by simpa [PyData.eqv] using q⟩
      · rename_i i j
        obtain rfl := ha.bl
        obtain rfl := hb.bl
        exact op_ne pins s σ H _ _ v u Q I rx ry ⟨rfl, by rw [dec_bl]; simpa [PyData.eqv] using q⟩
      · rename_i i j
        obtain rfl := ha.int
        obtain rfl := hb.int
        exact op_ne pins s σ H _ _ v u Q I rx ry ⟨rfl, by rw [dec_int]; simpa [PyData.eqv] using q⟩
      · rename_i i j
        obtain rfl := ha.str
        obtain rfl := hb.str
        exact op_ne pins s σ H _ _ v u Q I rx ry ⟨rfl, by rw [dec_str]; simpa [PyData.eqv] using q⟩
    · unfold okEq at h
      simp only [Bool.and_eq_true, decide_eq_true_eq] at h
      obtain ⟨as, r1⟩ := Dp.reads I a x v (Den.dp ha.see h.1.1) rx
      obtain ⟨bs, r2⟩ := Dp.reads I b y u (Den.dp hb.see h.1.2) ry
      exact SeqAt.compareNe_reads r1 r2 h.1.1 h.1.2 (by omega) ⟨.bl _, H, I, rfl, q⟩
    · exact (emp_ok hu I rx ry ha hb h).2 X.prog X.w _ _ ⟨.bl _, H, I, rfl, q⟩
  · cases e
theorem in_ok {neg : Bool} (hu : X.A.units + 100 < cLine) : OpR X (compareOp (if neg then .NotIn else .In)) (rC X.K fun x y => (inD x y).map fun k => if neg then !k else k) := by
  intro pins s σ H x y v u Q I rx ry ⟨F, a, b, k, ha, hb, e0, q⟩
  obtain ⟨k0, e, e1⟩ := Option.map_eq_some_iff.mp (show (inD a b).map (fun k => if neg then !k else k) = some k from e0)
  clear e0
  subst e1
  unfold inD at e
  cases b with
  | list ys =>
    dsimp only at e
    split at e
    · rename_i h
      cases e
      unfold okEq at h
      simp only [Bool.and_eq_true, decide_eq_true_eq] at h
      obtain ⟨⟨c1, c2⟩, hd⟩ := h
      have c2' : PyData.canLayAll0 ys = true := by simpa only [PyData.canLay0] using c2
      obtain ⟨as, r1⟩ := Dp.reads I a x v (Den.dp ha.see c1) rx
      obtain ⟨bs, r2⟩ := Dp.reads I (.list ys) y u (Den.dp hb.see c2) ry
      have hd : min a.depth (PyData.depthAll ys + 1) ≤ 64 := by simpa only [PyData.depth] using hd
      cases neg with
      | false => exact SeqAt.in_list_reads r2 r1 c2' c1 (by omega) ⟨.bl _, H, I, rfl, q⟩
      | true => exact SeqAt.notIn_list_reads r2 r1 c2' c1 (by omega) ⟨.bl _, H, I, rfl, q⟩
    · cases e
  | tuple ys =>
    dsimp only at e
    split at e
    · rename_i h
      cases e
      unfold okEq at h
      simp only [Bool.and_eq_true, decide_eq_true_eq] at h
      obtain ⟨⟨c1, c2⟩, hd⟩ := h
      have c2' : PyData.canLayAll0 ys = true := by simpa only [PyData.canLay0] using c2
      obtain ⟨as, r1⟩ := Dp.reads I a x v (Den.dp ha.see c1) rx
      obtain ⟨bs, r2⟩ := Dp.reads I (.tuple ys) y u (Den.dp hb.see c2) ry
      have hd : min a.depth (PyData.depthAll ys + 1) ≤ 64 := by simpa only [PyData.depth] using hd
      cases neg with
      | false => exact SeqAt.in_tuple_reads r2 r1 c2' c1 (by omega) ⟨.bl _, H, I, rfl, q⟩
      | true => exact SeqAt.notIn_tuple_reads r2 r1 c2' c1 (by omega) ⟨.bl _, H, I, rfl, q⟩
    · cases e
  | dict kvs =>
    dsimp only at e
    cases h : dKey a with
    | none => rw [h] at e; cases e
    | some kk =>
      rw [h] at e
      cases e
      obtain ⟨p, us, rfl, hp, dx⟩ := hb.dict
      obtain rfl := kV_of ha h
      cases ry
      have i3 := dx.has kk
      have g : DGet H p (kV kk) (valV us kk) := .inl ⟨us, kk, hp, rfl, rfl⟩
      have q : Q (.bl (if neg then !(valV us kk).isSome else (valV us kk).isSome)) H := by rw [← i3]; exact q
      cases neg with
      | false => exact d_in (by omega) I g rx fun s' I' => ⟨.bl _, H, I', rfl, q⟩
      | true => exact d_notIn (by omega) I g rx fun s' I' => ⟨.bl _, H, I', rfl, q⟩
  | str z =>
    cases a with
    | str c =>
      obtain ⟨cl, hc⟩ : ∃ l, c.cps.toList = l := ⟨_, rfl⟩
      dsimp only at e
      rw [hc] at e
      cases cl with
      | nil => cases e
      | cons n r =>
        cases r with
        | cons m r => cases e
        | nil =>
          cases e
          obtain rfl := ha.str
          obtain rfl := hb.str
          have ec : c = ⟨#[n]⟩ := Str.ext' (Array.toList_inj.mp (by rw [hc]))
          subst ec
          cases neg with
          | false => exact op_in_sign pins s σ H _ _ v u Q I rx ry ⟨n, z, rfl, rfl, q⟩
          | true => exact op_notIn_sign pins s σ H _ _ v u Q I rx ry ⟨n, z, rfl, rfl, q⟩
    | _ => cases e
  | _ => cases e
theorem opC_in (hu : X.A.units + 100 < cLine) : OpR X (compareOp .In) (rC X.K inD) := fun pins s σ H x y v u Q I rx ry ⟨F, a, b, k, ha, hb, e, q⟩ =>
  in_ok (neg := false) hu pins s σ H x y v u Q I rx ry ⟨F, a, b, k, ha, hb, (by show (inD a b).map _ = _; rw [e]; rfl), q⟩
theorem opC_notin (hu : X.A.units + 100 < cLine) : OpR X (compareOp .NotIn) (rC X.K fun x y => (inD x y).map (!·)) := fun pins s σ H x y v u Q I rx ry ⟨F, a, b, k, ha, hb, e, q⟩ =>
  in_ok (neg := true) hu pins s σ H x y v u Q I rx ry ⟨F, a, b, k, ha, hb, by rw [← e]; rfl, q⟩
theorem opC_lt : OpR X (compareOp .Lt) (rC X.K (cmpD .Lt)) := by
  intro pins s σ H x y v u Q I rx ry ⟨F, a, b, k, ha, hb, e, q⟩
  cases a <;> cases b <;> first | cases e | skip
  · obtain rfl := ha.int
    obtain rfl := hb.int
    exact op_lt pins s σ H _ _ v u Q I rx ry ⟨_, _, rfl, rfl, q⟩
  · obtain rfl := ha.str
    obtain rfl := hb.str
    exact op_lt_str pins s σ H _ _ v u Q I rx ry ⟨_, _, rfl, rfl, q⟩
theorem opC_le : OpR X (compareOp .LtE) (rC X.K (cmpD .LtE)) := by
  intro pins s σ H x y v u Q I rx ry ⟨F, a, b, k, ha, hb, e, q⟩
  cases a <;> cases b <;> first | cases e | skip
  · obtain rfl := ha.int
    obtain rfl := hb.int
    exact op_le pins s σ H _ _ v u Q I rx ry ⟨_, _, rfl, rfl, q⟩
  · obtain rfl := ha.str
    obtain rfl := hb.str
    exact op_le_str pins s σ H _ _ v u Q I rx ry ⟨_, _, rfl, rfl, q⟩
theorem opC_gt : OpR X (compareOp .Gt) (rC X.K (cmpD .Gt)) := by
  intro pins s σ H x y v u Q I rx ry ⟨F, a, b, k, ha, hb, e, q⟩
  cases a <;> cases b <;> first | cases e | skip
  · obtain rfl := ha.int
    obtain rfl := hb.int
    exact op_gt pins s σ H _ _ v u Q I rx ry ⟨_, _, rfl, rfl, q⟩
  · obtain rfl := ha.str
    obtain rfl := hb.str
    exact op_gt_str pins s σ H _ _ v u Q I rx ry ⟨_, _, rfl, rfl, q⟩
theorem opC_ge : OpR X (compareOp .GtE) (rC X.K (cmpD .GtE)) := by
  intro pins s σ H x y v u Q I rx ry ⟨F, a, b, k, ha, hb, e, q⟩
  cases a <;> cases b <;> first | cases e | skip
  · obtain rfl := ha.int
    obtain rfl := hb.int
    exact op_ge pins s σ H _ _ v u Q I rx ry ⟨_, _, rfl, rfl, q⟩
  · obtain rfl := ha.str
    obtain rfl := hb.str
    exact op_ge_str pins s σ H _ _ v u Q I rx ry ⟨_, _, rfl, rfl, q⟩
/-- a comparison that the machine knows -/
def okCmp : CmpOp → Bool
  | .Is => false
  | .IsNot => false
  | _ => true
theorem opC (hu : X.A.units + 100 < cLine) {op : CmpOp} (h : okCmp op = true) : OpR X (compareOp op) (rC X.K (cmpD op)) := by
  cases op with
  | Eq => exact opC_eq hu
  | NotEq => exact opC_ne hu
  | Lt => exact opC_lt
  | LtE => exact opC_le
  | Gt => exact opC_gt
  | GtE => exact opC_ge
  | In => exact opC_in hu
  | NotIn => exact opC_notin hu
  | _ => cases h
def okBin : Operator → Bool
  | .Add | .Sub | .Mult | .FloorDiv | .Mod | .Pow => true
  | _ => false
theorem opD {op : Operator} (h : okBin op = true) : OpR X (binaryOp op) (rD X.K (binD op)) := by
  cases op with
  | Add => exact opD_add
  | Sub => exact opD_sub
  | Mult => exact opD_mul
  | FloorDiv => exact opD_fdiv
  | Mod => exact opD_mod
  | Pow => exact opD_pow
  | _ => cases h
end
end PM
end

section
set_option Elab.async false
set_option linter.all false
set_option maxRecDepth 100000
set_option maxHeartbeats 2000000
/-! PMExpr: the machine's expressions over HandS' judgements: operators, tests, displays, subscripts. -/
namespace PM
open PySem PySem.Spec PyProof.Rows L2
section
variable {X : Cx} {ca : Str → Option Addr} {Wx : Wish} {c : Ctx} {x y z : Expr} {a b d : ME} {pos : Pos}
theorem pm_bin {op : Operator} (h : okBin op = true) (ha : PE X x (tI X.K ca Wx c a)) (hb : PE X y (tI X.K ca Wx c b)) : PE X (.BinOp x op y pos) (tI X.K ca Wx c (.bin op a b)) :=
  (pe_op (opD h) ha hb).weak fun σ H Q ⟨e, F, own, R, P⟩ => rd_two (r := fun x y H2 => rD X.K (binD op) x y H2 Q) R P fun va vb e2 u1 u2 H2 F2 own2 fp1 fp2 R2 V1 V2 d N1 N2 E P => by
    cases h1 : see e2 va with
    | none => rw [h1] at P; exact P.elim
    | some p =>
      cases h2 : see e2 vb with
      | none => rw [h1, h2] at P; exact P.elim
      | some q =>
        rw [h1, h2] at P
        obtain ⟨v, hv, P⟩ := PR.opt P
        exact ⟨F2, p, q, v, V1.seeF R2 h1, V2.seeF R2 h2, hv, QV.made P R2 E⟩
theorem cmp_w {K : PySem.W.Frag} {op : CmpOp} {σ : L2.St} {H : Hp} {Q : VK} (h : tI K ca Wx c (.cmp op a b) σ H Q) : tOp (rC K (cmpD op)) (tI K ca Wx c a) (tI K ca Wx c b) σ H Q := by
  obtain ⟨e, F, own, R, P⟩ := h
  exact rd_two (r := fun x y H2 => rC K (cmpD op) x y H2 Q) R P fun va vb e2 u1 u2 H2 F2 own2 fp1 fp2 R2 V1 V2 d N1 N2 E P => by
    cases h1 : see e2 va with
    | none => rw [h1] at P; exact P.elim
    | some p =>
      cases h2 : see e2 vb with
      | none => rw [h1, h2] at P; exact P.elim
      | some q =>
        rw [h1, h2] at P
        obtain ⟨v, hv, P⟩ := PR.opt P
        obtain ⟨k, hk, rfl⟩ := Option.map_eq_some_iff.mp hv
        exact ⟨F2, p, q, k, V1.seeF R2 h1, V2.seeF R2 h2, hk, QV.scal P R2 E (.bl k)⟩
theorem pm_cmp {op : CmpOp} (hu : X.A.units + 100 < cLine) (h : okCmp op = true) (ha : PE X x (tI X.K ca Wx c a)) (hb : PE X y (tI X.K ca Wx c b)) (hm : behindInMarks op y = false) : PE X (.Compare x [op] [y] pos) (tI X.K ca Wx c (.cmp op a b)) :=
  (pe_cmpR (opC hu h) ha hb hm).weak fun σ H Q h => cmp_w h
theorem neg_un : UnR X (unaryOp .USub) (rU fun i => .int (-i)) := un_neg
theorem pm_neg (ha : PE X x (tI X.K ca Wx c a)) : PE X (.UnaryOp .USub x pos) (tI X.K ca Wx c (.neg a)) :=
  (pe_un un_neg ha).weak fun σ H Q ⟨e, F, own, R, P⟩ => rd_one (r := fun x H1 => rU (fun i => .int (-i)) x H1 Q) R P fun va e2 u H2 F2 own2 fp R2 V1 N1 E P => by
    cases va with
    | d q =>
      cases q with
      | int i =>
        obtain rfl := (V1.seeF R2 (x := .int i) rfl).int
        exact ⟨i, rfl, QV.scal P R2 E (.int _)⟩
      | _ => exact P.elim
    | _ => exact P.elim
theorem pm_not (ha : PE X x (tI X.K ca Wx c a)) : PE X (.UnaryOp .Not x pos) (tI X.K ca Wx c (.not a)) :=
  (pe_not ha).weak fun σ H Q ⟨e, F, own, R, P⟩ => rd_one (r := fun x H1 => ∃ c, x = .bl c ∧ Q (.bl (!c)) H1) R P fun va e2 u H2 F2 own2 fp R2 V1 N1 E P => by
    cases va with
    | d q =>
      cases q with
      | bool i =>
        obtain rfl := (V1.seeF R2 (x := .bool i) rfl).bl
        exact ⟨i, rfl, QV.scal P R2 E (.bl _)⟩
      | _ => exact P.elim
    | _ => exact P.elim
theorem pm_and {rest : List Expr} (ha : PE X x (tI X.K ca Wx c a)) (hb : PE X (.BoolOp .And (y :: rest) pos) (tI X.K ca Wx c b)) : PE X (.BoolOp .And (x :: y :: rest) pos) (tI X.K ca Wx c (.and a b)) :=
  (pe_and ha hb).weak fun σ H Q ⟨e, F, own, R, P⟩ => rd_one (r := fun x H1 => ∃ k, x = .bl k ∧ if k = true then tI X.K ca Wx c b σ H1 Q else Q (.bl false) H1) R P fun va e2 u H2 F2 own2 fp R2 V1 N1 E P => by
    cases va with
    | d q =>
      cases q with
      | bool i =>
        obtain rfl := (V1.seeF R2 (x := .bool i) rfl).bl
        refine ⟨i, rfl, ?_⟩
        cases i with
        | true => exact rd_last E R2 P
        | false => exact QV.scal P R2 E (.bl _)
      | _ => exact P.elim
    | _ => exact P.elim
theorem pm_or {rest : List Expr} (ha : PE X x (tI X.K ca Wx c a)) (hb : PE X (.BoolOp .Or (y :: rest) pos) (tI X.K ca Wx c b)) : PE X (.BoolOp .Or (x :: y :: rest) pos) (tI X.K ca Wx c (.or a b)) :=
  (pe_or ha hb).weak fun σ H Q ⟨e, F, own, R, P⟩ => rd_one (r := fun x H1 => ∃ k, x = .bl k ∧ if k = true then Q (.bl true) H1 else tI X.K ca Wx c b σ H1 Q) R P fun va e2 u H2 F2 own2 fp R2 V1 N1 E P => by
    cases va with
    | d q =>
      cases q with
      | bool i =>
        obtain rfl := (V1.seeF R2 (x := .bool i) rfl).bl
        refine ⟨i, rfl, ?_⟩
        cases i with
        | true => exact QV.scal P R2 E (.bl _)
        | false => exact rd_last E R2 P
      | _ => exact P.elim
    | _ => exact P.elim
/-! ### tests -/
/-- a test's reading -/
def tIt (K : PySem.W.Frag) (ca : Str → Option Addr) (Wx : Wish) (c : Ctx) (m : ME) : TT := fun σ H Q => ∃ e F own, Rel K ca σ H e F own ∧
  PR (ev c m e) (fun v e' => ∃ k, (see e' v).bind truD = some k ∧ ∀ H' F' own', Rel K ca σ H' e' F' own' → Ext H F (Ow own) H' F' (Ow own') → Q k H') (QX K ca Wx σ H F (Ow own))
theorem SeeF.tru {K : PySem.W.Frag} {H : Hp} {F : Fs} {u : V} {x : D} {k : Bool} (h : SeeF K H F u x) (hk : truD x = some k) : TruV K u H k := by
  cases x with
  | none => obtain rfl := h.non; cases hk; rfl
  | bool b => obtain rfl := h.bl; cases hk; rfl
  | int i => obtain rfl := h.int; cases hk; rfl
  | str z =>
    obtain rfl := h.str
    have hk : (if z.length ≤ lineN then some ((z.length : Int) != 0) else none) = some k := hk
    split at hk
    · rename_i hl
      exact ⟨hl, (Option.some.inj hk).symm⟩
    · cases hk
  | list ds =>
    obtain ⟨p, us, rfl, hp, d⟩ := h.list
    cases hk
    have e : ds.isEmpty = us.isEmpty := by
      have := d.len
      cases ds <;> cases us <;> simp at this ⊢
    exact .inl ⟨us, .inl hp, by rw [e]⟩
  | tuple ds =>
    obtain ⟨p, us, rfl, hp, d⟩ := h.tuple
    cases hk
    have e : ds.isEmpty = us.isEmpty := by
      have := d.len
      cases ds <;> cases us <;> simp at this ⊢
    exact .inr (.inl ⟨us, hp, by rw [e]⟩)
  | dict ds => cases hk
/-- an expression of any kind in a test's place -/
theorem pt_any (ha : PE X x (tI X.K ca Wx c a)) (he : ∀ whole, isTrue x X.env whole = (do let v ← whole; standAt x.pos; holding [v] (truthy v))) : PT X x (tIt X.K ca Wx c a) :=
  (pt_truth ha he).weak fun σ H Q ⟨e, F, own, R, P⟩ => ⟨e, F, own, R, P.mono (fun v e' ⟨k, hk, q⟩ u H' F' own' fp R' V' N' E' => by
    cases h : see e' v with
    | none => rw [h] at hk; cases hk
    | some p =>
      rw [h] at hk
      exact ⟨k, (V'.seeF R' h).tru hk, q H' F' own' R' E'⟩) fun _ _ q => q⟩
/-- a comparison, or what else hands back a truth -/
theorem pt_bool (ha : PT X x (tTest (tI X.K ca Wx c a))) (hb : ∀ e, PR (ev c a e) (fun v _ => ∃ k, v = .d (.bool k)) (fun _ _ => True) ∨ ev c a e = .no) : PT X x (tIt X.K ca Wx c a) :=
  ha.weak fun σ H Q ⟨e, F, own, R, P⟩ => ⟨e, F, own, R, by
    rcases hb e with hb | hb
    · cases h : ev c a e with
      | ok v e' =>
        rw [h] at P hb
        obtain ⟨b, rfl⟩ := hb
        obtain ⟨k, hk, q⟩ := P
        cases hk
        intro u H' F' own' fp R' V' N' E'
        exact ⟨b, (V'.seeF R' (x := .bool b) rfl).bl, q H' F' own' R' E'⟩
      | ex y e' => rw [h] at P; exact P
      | no => rw [h] at P; exact P
    · rw [hb] at P; exact P.elim⟩
theorem pm_ite (hc : PT X z (tIt X.K ca Wx c d)) (ha : PE X x (tI X.K ca Wx c a)) (hb : PE X y (tI X.K ca Wx c b)) : PE X (.IfExp z x y pos) (tI X.K ca Wx c (.ite d a b)) :=
  (pe_ifExp hc ha hb).weak fun σ H Q ⟨e, F, own, R, P⟩ => ⟨e, F, own, R, PR.bind P |>.mono (fun v e' P => by
    cases h : (see e' v).bind truD with
    | none => rw [h] at P; exact P.elim
    | some k =>
      rw [h] at P
      refine ⟨k, rfl, fun H' F' own' R' E' => ?_⟩
      cases k with
      | true => exact rd_last E' R' P
      | false => exact rd_last E' R' P) fun _ _ q => q⟩
theorem pt_and {rest : List Expr} (ha : PT X x (tIt X.K ca Wx c a)) (hb : PW X (.BoolOp .And (y :: rest) pos) (tIt X.K ca Wx c b)) (hbool : ∀ e, PR (ev c a e) (fun v _ => True) (fun _ _ => True) → True := by intros; trivial) :
    PW X (.BoolOp .And (x :: y :: rest) pos) (tIt X.K ca Wx c (.and a b)) :=
  (pw_and ha hb).weak fun σ H Q ⟨e, F, own, R, P⟩ => ⟨e, F, own, R, PR.bind P |>.mono (fun v e' P => by
    cases v with
    | d q =>
      cases q with
      | bool i =>
        refine ⟨i, rfl, fun H' F' own' R' E' => ?_⟩
        cases i with
        | true => exact ⟨e', F', own', R', PR.mono P (fun v e2 ⟨k, hk, q⟩ => ⟨k, hk, fun H2 F2 own2 R2 E2 => q H2 F2 own2 R2 (E'.trans E2)⟩) fun _ _ q => q.shift E'⟩
        | false =>
          obtain ⟨k, hk, q⟩ := P
          cases hk
          exact q H' F' own' R' E'
      | _ => exact P.elim
    | _ => exact P.elim) fun _ _ q => q⟩
theorem pt_or {rest : List Expr} (ha : PT X x (tIt X.K ca Wx c a)) (hb : PW X (.BoolOp .Or (y :: rest) pos) (tIt X.K ca Wx c b)) :
    PW X (.BoolOp .Or (x :: y :: rest) pos) (tIt X.K ca Wx c (.or a b)) :=
  (pw_or ha hb).weak fun σ H Q ⟨e, F, own, R, P⟩ => ⟨e, F, own, R, PR.bind P |>.mono (fun v e' P => by
    cases v with
    | d q =>
      cases q with
      | bool i =>
        refine ⟨i, rfl, fun H' F' own' R' E' => ?_⟩
        cases i with
        | false => exact ⟨e', F', own', R', PR.mono P (fun v e2 ⟨k, hk, q⟩ => ⟨k, hk, fun H2 F2 own2 R2 E2 => q H2 F2 own2 R2 (E'.trans E2)⟩) fun _ _ q => q.shift E'⟩
        | true =>
          obtain ⟨k, hk, q⟩ := P
          cases hk
          exact q H' F' own' R' E'
      | _ => exact P.elim
    | _ => exact P.elim) fun _ _ q => q⟩
theorem pt_notT (ha : PT X x (tIt X.K ca Wx c a)) : PT X (.UnaryOp .Not x pos) (tIt X.K ca Wx c (.not a)) :=
  (L2.pt_not ha).weak fun σ H Q ⟨e, F, own, R, P⟩ => ⟨e, F, own, R, PR.bind P |>.mono (fun v e' P => by
    cases v with
    | d q =>
      cases q with
      | bool i =>
        obtain ⟨k, hk, q⟩ := P
        cases hk
        exact ⟨i, rfl, q⟩
      | _ => exact P.elim
    | _ => exact P.elim) fun _ _ q => q⟩
/-! ### chains, identity -/
theorem chain_w {K : PySem.W.Frag} {op op' : CmpOp} {σ : L2.St} {H : Hp} {Q : VK} (h : tI K ca Wx c (.chain op op' a b d) σ H Q) : tChain (rC K (cmpD op)) (rC K (cmpD op')) (tI K ca Wx c a) (tI K ca Wx c b) (tI K ca Wx c d) σ H Q := by
  obtain ⟨e, F, own, R, P⟩ := h
  exact rd_two (r := fun x y H2 => rC K (cmpD op) x y H2 fun w H3 => ∃ k, w = .bl k ∧ (if k = true then tI K ca Wx c d σ H3 (fun w' H4 => rC K (cmpD op') y w' H4 Q) else Q (.bl false) H3)) R P fun va vb e2 u1 u2 H2 F2 own2 fp1 fp2 R2 V1 V2 dj N1 N2 E P => by
    cases h1 : see e2 va with
    | none => rw [h1] at P; exact P.elim
    | some p =>
      cases h2 : see e2 vb with
      | none => rw [h1, h2] at P; exact P.elim
      | some q =>
        rw [h1, h2] at P
        dsimp only at P
        cases h3 : cmpD op p q with
        | none => rw [h3] at P; exact P.elim
        | some k =>
          rw [h3] at P
          refine ⟨F2, p, q, k, V1.seeF R2 h1, V2.seeF R2 h2, h3, k, rfl, ?_⟩
          cases k with
          | false => exact QV.scal P R2 E (.bl _)
          | true =>
            refine rd_next E R2 P fun vd e3 u3 H3 F3 own3 fp3 R3 V3 N3 E3 E4 P => ?_
            cases h4 : see e3 vb with
            | none => rw [h4] at P; exact P.elim
            | some q' =>
              cases h5 : see e3 vd with
              | none => rw [h4, h5] at P; exact P.elim
              | some r =>
                rw [h4, h5] at P
                obtain ⟨v, hv, P⟩ := PR.opt P
                obtain ⟨k, hk, rfl⟩ := Option.map_eq_some_iff.mp hv
                exact ⟨F3, q', r, k, (V2.ext E3 R2.wok).seeF R3 h4, V3.seeF R3 h5, hk, QV.scal P R3 E4 (.bl _)⟩
theorem pm_chain {op op' : CmpOp} (hu : X.A.units + 100 < cLine) (h : okCmp op = true) (h' : okCmp op' = true) (ha : PE X x (tI X.K ca Wx c a)) (hb : PE X y (tI X.K ca Wx c b)) (hd : PE X z (tI X.K ca Wx c d)) (hm : lastMarks [op, op'] [y, z] = false) :
    PE X (.Compare x [op, op'] [y, z] pos) (tI X.K ca Wx c (.chain op op' a b d)) := (pe_chain (opC hu h) (opC hu h') ha hb hd hm).weak fun σ H Q h => chain_w h
theorem RV.nonV {σ : L2.St} {K : PySem.W.Frag} {H : Hp} {F W : Fs} {e : Env} {own : Nat → List Addr} {u : V} {v : Val} {fp : List Addr} {k : Bool} (R : Rel K ca σ H e F own) (h : RV K ca σ H F W u v fp) (s : nonV e v = some k) : k = decide (u = .non) := by
  have ref : ∀ {w : Val} {gp : List Addr}, VR K ca H F u w gp → ((∃ l, w = .ol l) ∨ ∃ l, w = .od l) → decide (u = .non) = false := fun r q => by
    cases r with
    | ol _ _ => rfl
    | od _ _ => rfl
    | d _ => rcases q with ⟨_, q⟩ | ⟨_, q⟩ <;> cases q
    | ex _ _ _ => rfl
  cases h with
  | @pk i u hs =>
    have s : (match getS e i with
      | some (.ol _) => some false
      | some (.od _) => some false
      | _ => none) = some k := s
    cases h1 : getS e i with
    | none => rw [h1] at s; cases s
    | some w =>
      rw [h1] at s
      obtain ⟨u', hs', r⟩ := R.slot i w h1
      rw [hs] at hs'
      cases hs'
      cases w with
      | ol l => cases s; rw [ref r (.inl ⟨_, rfl⟩)]
      | od l => cases s; rw [ref r (.inr ⟨_, rfl⟩)]
      | _ => cases s
  | val r n f =>
    cases r with
    | @d u x dd =>
      cases x with
      | none => cases s; obtain rfl := (SeeF.den dd).non; rfl
      | bool b => cases s; obtain rfl := (SeeF.den dd).bl; rfl
      | int b => cases s; obtain rfl := (SeeF.den dd).int; rfl
      | str b => cases s; obtain rfl := (SeeF.den dd).str; rfl
      | list b => cases s; obtain ⟨_, _, rfl, _⟩ := (SeeF.den dd).list; rfl
      | tuple b => cases s; obtain ⟨_, _, rfl, _⟩ := (SeeF.den dd).tuple; rfl
      | dict b => cases s; obtain ⟨_, _, rfl, _⟩ := (SeeF.den dd).dict; rfl
    | ol _ _ => cases s; rfl
    | od _ _ => cases s; rfl
    | ex _ _ _ => cases s; rfl
theorem isN_w {K : PySem.W.Frag} {neg : Bool} {σ : L2.St} {H : Hp} {Q : VK} (h : tI K ca Wx c (.isN neg a) σ H Q) : tI K ca Wx c a σ H fun x H1 => Q (.bl (if neg then !decide (x = .non) else decide (x = .non))) H1 := by
  obtain ⟨e, F, own, R, P⟩ := h
  exact rd_one (r := fun x H1 => Q (.bl (if neg then !decide (x = .non) else decide (x = .non))) H1) R P fun va e2 u H2 F2 own2 fp R2 V1 N1 E P => by
    obtain ⟨v, hv, P⟩ := PR.opt P
    obtain ⟨k, hk, rfl⟩ := Option.map_eq_some_iff.mp hv
    rw [← V1.nonV R2 hk]
    exact QV.scal P R2 E (.bl _)
theorem pm_isN {neg : Bool} {j : Nat} {pos' : Pos} (ha : PE X x (tI X.K ca Wx c a)) : PE X (.Compare x [if neg then .IsNot else .Is] [.Constant .none j pos'] pos) (tI X.K ca Wx c (.isN neg a)) := by
  cases neg with
  | false => exact (pe_cmp (pc_isN ha)).weak fun σ H Q h => isN_w h
  | true => exact (pe_cmp (pc_notN ha)).weak fun σ H Q h => isN_w h
theorem isB_w {K : PySem.W.Frag} {neg k : Bool} {σ : L2.St} {H : Hp} {Q : VK} (h : tI K ca Wx c (.isB neg a k) σ H Q) : tI K ca Wx c a σ H fun x H1 => ∃ p q : Bool, x = .bl p ∧ V.bl k = .bl q ∧ Q (.bl (if neg then !decide (p = q) else decide (p = q))) H1 := by
  obtain ⟨e, F, own, R, P⟩ := h
  exact rd_one (r := fun x H1 => ∃ p q : Bool, x = .bl p ∧ V.bl k = .bl q ∧ Q (.bl (if neg then !decide (p = q) else decide (p = q))) H1) R P fun va e2 u H2 F2 own2 fp R2 V1 N1 E P => by
    obtain ⟨v, hv, P⟩ := PR.opt P
    obtain ⟨p, hp, rfl⟩ := Option.map_eq_some_iff.mp hv
    cases va with
    | d q =>
      cases q with
      | bool q =>
        cases hp
        obtain rfl := (V1.seeF R2 (x := .bool p) rfl).bl
        exact ⟨p, k, rfl, rfl, QV.scal P R2 E (.bl _)⟩
      | _ => cases hp
    | _ => cases hp
theorem pm_isB {neg k : Bool} {j : Nat} {pos' : Pos} (ha : PE X x (tI X.K ca Wx c a)) : PE X (.Compare x [if neg then .IsNot else .Is] [.Constant (.bool k) j pos'] pos) (tI X.K ca Wx c (.isB neg a k)) := by
  cases neg with
  | false => exact (pe_cmpR op_isBl ha pe_bl (nomark _)).weak fun σ H Q h => isB_w h
  | true => exact (pe_cmpR op_notBl ha pe_bl (nomark _)).weak fun σ H Q h => isB_w h
/-! ### .. as tests -/
theorem tIt_bool {K : PySem.W.Frag} {m : ME} (hb : ∀ e, PR (ev c m e) (fun v _ => ∃ k, v = .d (.bool k)) (fun _ _ => True) ∨ ev c m e = .no) {σ : L2.St} {H : Hp} {Q : Bool → Hp → Prop} (h : tIt K ca Wx c m σ H Q) : tI K ca Wx c m σ H fun x H' => ∃ k, x = .bl k ∧ Q k H' := by
  obtain ⟨e, F, own, R, P⟩ := h
  refine ⟨e, F, own, R, ?_⟩
  rcases hb e with hb | hb
  · cases h : ev c m e with
    | ok v e' =>
      rw [h] at P hb
      obtain ⟨b, rfl⟩ := hb
      obtain ⟨k, hk, q⟩ := P
      cases hk
      intro u H' F' own' fp R' V' N' E'
      exact ⟨b, (V'.seeF R' (x := .bool b) rfl).bl, q H' F' own' R' E'⟩
    | ex y e' => rw [h] at P; exact P
    | no => rw [h] at P; exact P
  · rw [hb] at P; exact P.elim
/-- a run that tells a truth, or none -/
def Tru (r : Res Val) : Prop := PR r (fun v _ => ∃ k, v = .d (.bool k)) (fun _ _ => True) ∨ r = .no
theorem Tru.bind {α : Type} {r : Res α} {f : α → Env → Res Val} (h : ∀ a e, Tru (f a e)) : Tru (r.bind f) := by
  cases r with
  | ok a e => exact h a e
  | ex x e => exact .inl trivial
  | no => exact .inr rfl
theorem Tru.opt {o : Option Bool} {e : Env} {f : Bool → Bool} : Tru (PM.opt (o.map fun k => Val.d (.bool (f k))) e) := by
  cases o with
  | none => exact .inr rfl
  | some k => exact .inl ⟨_, rfl⟩
theorem tru_cmp {op : CmpOp} (e : Env) : Tru (ev c (.cmp op a b) e) := Tru.bind fun va e1 => Tru.bind fun vb e2 => by
  cases see e2 va with
  | none => exact .inr rfl
  | some x =>
    cases see e2 vb with
    | none => exact .inr rfl
    | some y => exact Tru.opt (f := fun k => k)
theorem tru_isN {neg : Bool} (e : Env) : Tru (ev c (.isN neg a) e) := Tru.bind fun va e1 => Tru.opt
theorem tru_isB {neg k : Bool} (e : Env) : Tru (ev c (.isB neg a k) e) := Tru.bind fun va e1 => Tru.opt
theorem tru_chain {op op' : CmpOp} (e : Env) : Tru (ev c (.chain op op' a b d) e) := Tru.bind fun va e1 => Tru.bind fun vb e2 => by
  cases see e2 va with
  | none => exact .inr rfl
  | some x =>
    cases see e2 vb with
    | none => exact .inr rfl
    | some y =>
      dsimp only
      cases cmpD op x y with
      | none => exact .inr rfl
      | some k =>
        cases k with
        | false => exact .inl ⟨_, rfl⟩
        | true =>
          refine Tru.bind fun vd e3 => ?_
          cases see e3 vb with
          | none => exact .inr rfl
          | some x =>
            cases see e3 vd with
            | none => exact .inr rfl
            | some y => exact Tru.opt (f := fun k => k)
theorem pt_cmpM {op : CmpOp} (hu : X.A.units + 100 < cLine) (h : okCmp op = true) (ha : PE X x (tI X.K ca Wx c a)) (hb : PE X y (tI X.K ca Wx c b)) (hm : behindInMarks op y = false) : PT X (.Compare x [op] [y] pos) (tIt X.K ca Wx c (.cmp op a b)) :=
  (pt_cmpR (opC hu h) ha hb hm).weak fun σ H Q h => cmp_w (tIt_bool tru_cmp h)
theorem pt_isN {neg : Bool} {j : Nat} {pos' : Pos} (ha : PE X x (tI X.K ca Wx c a)) : PT X (.Compare x [if neg then .IsNot else .Is] [.Constant .none j pos'] pos) (tIt X.K ca Wx c (.isN neg a)) := by
  cases neg with
  | false => exact (pt_cmp (pc_isN ha)).weak fun σ H Q h => isN_w (tIt_bool tru_isN h)
  | true => exact (pt_cmp (pc_notN ha)).weak fun σ H Q h => isN_w (tIt_bool tru_isN h)
theorem pt_isBM {neg k : Bool} {j : Nat} {pos' : Pos} (ha : PE X x (tI X.K ca Wx c a)) : PT X (.Compare x [if neg then .IsNot else .Is] [.Constant (.bool k) j pos'] pos) (tIt X.K ca Wx c (.isB neg a k)) := by
  cases neg with
  | false => exact (pt_cmpR op_isBl ha pe_bl (nomark _)).weak fun σ H Q h => isB_w (tIt_bool tru_isB h)
  | true => exact (pt_cmpR op_notBl ha pe_bl (nomark _)).weak fun σ H Q h => isB_w (tIt_bool tru_isB h)
theorem pt_chainM {op op' : CmpOp} (hu : X.A.units + 100 < cLine) (h : okCmp op = true) (h' : okCmp op' = true) (ha : PE X x (tI X.K ca Wx c a)) (hb : PE X y (tI X.K ca Wx c b)) (hd : PE X z (tI X.K ca Wx c d)) (hm : lastMarks [op, op'] [y, z] = false) :
    PT X (.Compare x [op, op'] [y, z] pos) (tIt X.K ca Wx c (.chain op op' a b d)) := (pt_chain (opC hu h) (opC hu h') ha hb hd hm).weak fun σ H Q h => chain_w (tIt_bool tru_chain h)
/-! ### displays, subscripts -/
variable {xs : List Expr} {es : List ME}
theorem pm_tup {k : Nat} (h : PA X xs (tIs X.K ca Wx c es)) : PE X (.Tuple xs k pos) (tI X.K ca Wx c (.tup es)) :=
  (pe_tup h).weak fun σ H Q ⟨e, F, own, R, P⟩ => rd_list (r := fun us H1 => us.length ≤ sizeLine ∧ ∀ p, H1 p = none → Q (.ref p) (upd H1 p (.tup us))) Ext.refl R P fun vs e2 us H2 F2 own2 fp R2 V2 N2 E2 E P => by
    cases h1 : takes e2 vs with
    | none => rw [h1] at P; exact P.elim
    | some q =>
      obtain ⟨ds, e3⟩ := q
      rw [h1] at P
      dsimp only at P
      split at P
      · rename_i hl
        obtain ⟨F3, own3, R3, D3, E3⟩ := V2.takes R2 h1
        exact ⟨by rw [D3.len]; exact hl, QV.newt P R3 ((E.addT N2).trans E3) D3⟩
      · exact P.elim
theorem pm_lst (h : PA X xs (tIs X.K ca Wx c es)) : PE X (.List xs pos) (tI X.K ca Wx c (.lst es)) :=
  (pe_lst h).weak fun σ H Q ⟨e, F, own, R, P⟩ => rd_list (r := fun us H1 => us.length ≤ sizeLine ∧ ∀ p, H1 p = none → Q (.ref p) (upd H1 p (.lst us))) Ext.refl R P fun vs e2 us H2 F2 own2 fp R2 V2 N2 E2 E P => by
    cases h1 : takes e2 vs with
    | none => rw [h1] at P; exact P.elim
    | some q =>
      obtain ⟨ds, e3⟩ := q
      rw [h1] at P
      dsimp only at P
      split at P
      · rename_i hl
        obtain ⟨F3, own3, R3, D3, E3⟩ := V2.takes R2 h1
        exact ⟨by rw [D3.len]; exact hl, QV.newl P R3 ((E.addT N2).trans E3) D3⟩
      · exact P.elim
theorem pm_dic0 : PE X (.Dict [] [] pos) (tI X.K ca Wx c (.dic [])) :=
  pe_dnewK.weak fun σ H Q ⟨e, F, own, R, P⟩ p hp => QV.newd (show QV X.K ca σ H F (Ow own) Q (.od []) e from P) R Ext.refl hp .nil
/-- a subscript by data -/
abbrev rX (K : PySem.W.Frag) : R2 := fun u1 u2 H Q => ∃ F x y z, SeeF K H F u1 x ∧ SeeF K H F u2 y ∧ idxD x y = some z ∧ ∀ u, Den K H F u z → Q u H
theorem Dens.atI {K : PySem.W.Frag} {H : Hp} {F : Fs} {us : List V} {ds : List D} {i : Int} {z : D} (h : Dens K H F us ds) (e : L2.atI ds i = some z) : ∃ u, L2.atI us i = some u ∧ Den K H F u z := by
  unfold L2.atI at e ⊢
  rw [h.len]
  cases q : ixN ds.length i with
  | none => rw [q] at e; cases e
  | some j =>
    rw [q] at e
    obtain ⟨u, hu, d⟩ := h.get (i := j) (x := z) e
    exact ⟨u, hu, d⟩
theorem ixD (hu : X.A.units + 100 < cLine) : IxR X (rX X.K) := by
  intro value slice pins s σ H x y v u Q I rx ry ⟨F, a, b, z, ha, hb, e, q⟩ hs
  cases a with
  | list ds =>
    cases b with
    | int i =>
      obtain ⟨p, us, rfl, hp, d⟩ := ha.list
      obtain rfl := hb.int
      obtain ⟨w, hw, dw⟩ := d.atI e
      exact ix_list value slice pins s σ H _ _ v u Q I rx ry ⟨p, us, i, w, rfl, rfl, .inl hp, hw, q w dw⟩ hs
    | _ => cases e
  | tuple ds =>
    cases b with
    | int i =>
      obtain ⟨p, us, rfl, hp, d⟩ := ha.tuple
      obtain rfl := hb.int
      obtain ⟨w, hw, dw⟩ := d.atI e
      exact ix_tup value slice pins s σ H _ _ v u Q I rx ry ⟨p, us, i, w, rfl, rfl, hp, hw, q w dw⟩ hs
    | _ => cases e
  | str t =>
    cases b with
    | int i =>
      have e : (if t.length ≤ lineN then (L2.atI t.cps.toList i).map (fun c => PyData.str ⟨#[c]⟩) else none) = some z := e
      split at e
      · rename_i hl
        obtain ⟨n, hn, rfl⟩ := Option.map_eq_some_iff.mp e
        obtain rfl := ha.str
        obtain rfl := hb.int
        exact ix_str value slice pins s σ H _ _ v u Q I rx ry ⟨t, i, n, rfl, rfl, hl, hn, q _ (.str _)⟩ hs
      · cases e
    | _ => cases e
  | dict kvs =>
    have e : (match dKey b with
      | some k => getK kvs k
      | none => none) = some z := e
    cases h : dKey b with
    | none => rw [h] at e; cases e
    | some k =>
      rw [h] at e
      obtain ⟨p, us, rfl, hp, d⟩ := ha.dict
      obtain rfl := kV_of hb h
      obtain ⟨w, hw, dw⟩ := (d.find k).1 z e
      cases rx
      have g : DGet H p (kV k) (some w) := .inl ⟨us, k, hp, rfl, hw.symm⟩
      exact tail_any (dict_typeIs I g) PySem.F.slot_dict_getitem.lookup (d_getItem (by omega) I g ry fun w' s' I' r' => ⟨w, H, I', r', q w dw⟩) hs
  | _ => cases b <;> cases e
theorem pm_idx (hu : X.A.units + 100 < cLine) (ha : PE X x (tI X.K ca Wx c a)) (hb : PE X y (tI X.K ca Wx c b)) (hs : PlainIx y) : PE X (.Subscript x y pos) (tI X.K ca Wx c (.idx a b)) :=
  (pe_ix (ixD hu) ha hb hs).weak fun σ H Q ⟨e, F, own, R, P⟩ => rd_two (r := fun x y H2 => rX X.K x y H2 Q) R P fun va vb e2 u1 u2 H2 F2 own2 fp1 fp2 R2 V1 V2 d N1 N2 E P => by
    cases h1 : see e2 va with
    | none => rw [h1] at P; exact P.elim
    | some p =>
      cases h2 : see e2 vb with
      | none => rw [h1, h2] at P; exact P.elim
      | some q =>
        rw [h1, h2] at P
        obtain ⟨v, hv, P⟩ := PR.opt P
        obtain ⟨z, hz, rfl⟩ := Option.map_eq_some_iff.mp hv
        exact ⟨F2, p, q, z, V1.seeF R2 h1, V2.seeF R2 h2, hz, fun u du => QV.scal P R2 E du⟩
/-- an optional part of a slice -/
def tIo (K : PySem.W.Frag) (ca : Str → Option Addr) (Wx : Wish) (c : Ctx) (m : Option ME) : TO := fun σ H Q => ∃ e F own, Rel K ca σ H e F own ∧
  PR (evo c m e) (fun o e' => ∀ H' F' own', Rel K ca σ H' e' F' own' → Ext H F (Ow own) H' F' (Ow own') → Q o H') (QX K ca Wx σ H F (Ow own))
theorem po_weak {x : Option Expr} {t t' : TO} (h : PO X x t) (w : ∀ σ H Q, t' σ H Q → t σ H Q) : PO X x t' := ⟨fun pins s σ H Q I q => h.run pins s σ H Q I (w σ H Q q)⟩
theorem pm_onone : PO X none (tIo X.K ca Wx c none) := po_weak po_none fun σ H Q ⟨e, F, own, R, P⟩ => P H F own R Ext.refl
theorem pm_osome (ha : PE X x (tI X.K ca Wx c a)) : PO X (some x) (tIo X.K ca Wx c (some a)) := po_weak (po_some ha) fun σ H Q ⟨e, F, own, R, P⟩ =>
  ⟨e, F, own, R, (PR.bind P).mono (fun v e' P u H' F' own' fp R' V' N' E' => by
    cases v with
    | d q =>
      cases q with
      | int i =>
        obtain rfl := (V'.seeF R' (x := .int i) rfl).int
        exact ⟨i, rfl, P H' F' own' R' E'⟩
      | _ => exact P.elim
    | _ => exact P.elim) fun _ _ q => q⟩
abbrev rS (K : PySem.W.Frag) : V → Option Int → Option Int → Hp → VK → Prop := fun u lo hi H Q => ∃ F x v, SeeF K H F u x ∧ sliD x lo hi = some v ∧ ∀ u H', Made K H F v u H' → Q u H'
theorem cut_eq {us : List V} (lo hi : Option Int) : cutV us lo hi = cut us lo hi := rfl
theorem Dens.cut {K : PySem.W.Frag} {H : Hp} {F : Fs} {us : List V} {ds : List D} (h : Dens K H F us ds) (lo hi : Option Int) : Dens K H F (PM.cut us lo hi) (PM.cut ds lo hi) := by
  unfold PM.cut
  rw [h.len]
  exact (h.drop _).take _
theorem slD : SlR X (rS X.K) := by
  intro pins s σ H x v vl vu lo hi sl Q I rx hs pl pu ⟨F, a, w, ha, e, q⟩
  cases a with
  | list ds =>
    cases e
    obtain ⟨p, us, rfl, hp, d⟩ := ha.list
    exact sl_list pins s σ H _ v vl vu lo hi sl Q I rx hs pl pu ⟨p, us, rfl, .inl hp, fun p hp => q _ _ (.lst hp (d.cut lo hi))⟩
  | tuple ds =>
    cases e
    obtain ⟨p, us, rfl, hp, d⟩ := ha.tuple
    refine sl_tupA pins s σ H _ v vl vu lo hi sl Q I rx hs pl pu ⟨p, us, rfl, hp, fun h => ?_, fun h p hp => q _ _ (.tup hp (d.cut lo hi))⟩
    have e1 : PM.cut ds lo hi = ds := by
      unfold PM.cut
      rw [← d.len, h.1, h.2]
      simp [d.len]
    rw [e1] at q
    exact q _ _ (.here (.tup hp d))
  | str z =>
    have e : (if z.length ≤ lineN then some (Val.d (.str ⟨(PM.cut z.cps.toList lo hi).toArray⟩)) else none) = some w := e
    split at e
    · rename_i hl
      cases e
      obtain rfl := ha.str
      refine sl_str pins s σ H _ v vl vu lo hi sl Q I rx hs pl pu ⟨z, rfl, hl, ?_⟩
      have e1 : cutS z lo hi = ⟨(PM.cut z.cps.toList lo hi).toArray⟩ := by
        unfold cutS PM.cut
        have : z.cps.toList.length = z.length := by simp [Str.length]
        rw [this]
      rw [e1]
      exact q _ _ (.here (.str _))
    · cases e
  | _ => cases e
theorem pm_sli {lo hi : Option Expr} {l h : Option ME} {p2 : Pos} (ha : PE X x (tI X.K ca Wx c a)) (hl : PO X lo (tIo X.K ca Wx c l)) (hh : PO X hi (tIo X.K ca Wx c h)) : PE X (.Subscript x (.Slice lo hi none p2) pos) (tI X.K ca Wx c (.sli a l h)) :=
  (pe_slice slD ha hl hh).weak fun σ H Q ⟨e, F, own, R, P⟩ => rd_one (r := fun u H1 => tIo X.K ca Wx c l σ H1 fun o H2 => tIo X.K ca Wx c h σ H2 fun o' H3 => rS X.K u o o' H3 Q) R P fun va e1 u H1 F1 own1 fp R1 V1 N1 E1 P => by
    refine ⟨e1, F1, own1, R1, (PR.bind P).mono (fun o e2 P H2 F2 own2 R2 E2 => ?_) fun _ _ q => q.shift E1⟩
    refine ⟨e2, F2, own2, R2, (PR.bind P).mono (fun o' e3 P H3 F3 own3 R3 E3 => ?_) fun _ _ q => q.shift (E1.trans E2)⟩
    cases h1 : see e3 va with
    | none => rw [h1] at P; exact P.elim
    | some p =>
      rw [h1] at P
      obtain ⟨v, hv, P⟩ := PR.opt P
      exact ⟨F3, p, v, (V1.ext (E2.trans E3) R1.wok).seeF R3 h1, hv, QV.made P R3 ((E1.trans E2).trans E3)⟩
end
section
variable {X : Cx} {e : Expr} {te : TE} {lo hi : Option Expr} {st : Expr} {tl th tst : TO} {pos p2 : Pos}
/-- what a slice with a step is, by values -/
def SlR3 (X : Cx) (r : V → Option Int → Option Int → Option Int → Hp → VK → Prop) : Prop :=
  ∀ (pins : List (Addr × Obj)) (s : Shared) (σ : L2.St) (H : Hp) (x : V) (v vl vu vk : Value) (lo hi st : Option Int) (sl : Addr) (Q : VK), Inv X pins σ H s → RelV x v → s.heap.IsSliceOf sl vl vu vk → IsPart vl lo → IsPart vu hi → IsPart vk st → r x lo hi st H Q →
    ∃ T id, typeLookup (.type T) "__getitem__" = pure (some (.builtin id)) ∧ s.TypeIs v T ∧ wpAny (model X.prog X.w) X.A (getItem v (.ref sl)) (EP X pins σ Q) X.xe s
def tSl3 (r : V → Option Int → Option Int → Option Int → Hp → VK → Prop) (te : TE) (tl th tst : TO) : TE := fun σ H Q => te σ H fun x H1 => tl σ H1 fun l H2 => th σ H2 fun u H3 => tst σ H3 fun k H4 => r x l u k H4 Q
theorem pe_slice3 {r : V → Option Int → Option Int → Option Int → Hp → VK → Prop} (hr : SlR3 X r) (he : PE X e te) (hl : PO X lo tl) (hu : PO X hi th) (hk : PO X (some st) tst) : PE X (.Subscript e (.Slice lo hi (some st) p2) pos) (tSl3 r te tl th tst) := by
  refine ⟨fun pins s σ H Q I h => ?_⟩
  refine Subscript_ (thn (he.run pins s σ H _ I h) fun v s1 ⟨x, H1, I1, r1, q1⟩ => ?_)
  refine wpAny_Slice (thn (hl.run pins s1 σ H1 _ I1 q1) fun vl s2 ⟨l, H2, I2, pl, q2⟩ => thn (hu.run pins s2 σ H2 _ I2 q2) fun vu s3 ⟨u, H3, I3, pu, q3⟩ => thn (hk.run pins s3 σ H3 _ I3 q3) fun vk s4 ⟨k, H4, I4, pk, q4⟩ => ?_)
  have I5 : Inv X pins σ H4 { s4 with heap := s4.heap.push { cls := .type "slice", data := .fields #[vl, vu, vk] } } := I4.kept (t' := s4.toks) fun b ob q => Heap.get?_push_of_some _ q
  obtain ⟨T, id, hT, ht, hg⟩ := hr pins { s4 with heap := s4.heap.push { cls := .type "slice", data := .fields #[vl, vu, vk] } } σ H4 x v vl vu vk l u k s4.heap.objs.size Q I5 r1 (Heap.IsSliceOf.new ..) pl pu pk q4
  show wpAny (model X.prog X.w) X.A (subscriptTail e (.Slice lo hi (some st) p2) v (.ref s4.heap.objs.size)) (EP X pins σ Q) X.xe { s4 with heap := s4.heap.push { cls := .type "slice", data := .fields #[vl, vu, vk] } }
  exact tail_any (ops := [v, .ref s4.heap.objs.size]) ht hT hg (by with_unfolding_all rfl)
theorem slicePick_picks (its : List Value) (lo hi st : Option Int) : slicePick its.toArray lo hi st = (picks its lo hi st).toArray := by
  unfold slicePick picks
  simp
theorem Dens.pick {K : PySem.W.Frag} {H : Hp} {F : Fs} {us : List V} {ds : List D} (h : Dens K H F us ds) : ∀ is : List Nat, Dens K H F (is.filterMap (us[·]?)) (is.filterMap (ds[·]?))
  | [] => .nil
  | i :: is => by
    have g : ∀ {us : List V} {ds : List D}, Dens K H F us ds → ∀ i : Nat, (us[i]? = none ∧ ds[i]? = none) ∨ ∃ u d, us[i]? = some u ∧ ds[i]? = some d ∧ Den K H F u d := fun {us ds} h => by
      induction us generalizing ds with
      | nil => cases h; intro i; exact .inl ⟨by simp, by simp⟩
      | cons u us ih =>
        cases h with
        | cons d r =>
          intro i
          cases i with
          | zero => exact .inr ⟨_, _, rfl, rfl, d⟩
          | succ i => simpa using ih r i
    rw [List.filterMap_cons, List.filterMap_cons]
    rcases g h i with ⟨e1, e2⟩ | ⟨u, d, e1, e2, dd⟩
    · rw [e1, e2]
      exact Dens.pick h is
    · rw [e1, e2]
      exact .cons dd (Dens.pick h is)
theorem Dens.picks {K : PySem.W.Frag} {H : Hp} {F : Fs} {us : List V} {ds : List D} (h : Dens K H F us ds) (lo hi st : Option Int) : Dens K H F (PM.picks us lo hi st) (PM.picks ds lo hi st) := by
  unfold PM.picks
  rw [h.len]
  exact h.pick _
theorem vals_pick {us : List V} {its : List Value} (h : Vals us its) : ∀ is : List Nat, Vals (is.filterMap (us[·]?)) (is.filterMap (its[·]?))
  | [] => .nil
  | i :: is => by
    have g : ∀ {us : List V} {its : List Value}, Vals us its → ∀ i : Nat, (us[i]? = none ∧ its[i]? = none) ∨ ∃ u d, us[i]? = some u ∧ its[i]? = some d ∧ RelV u d := fun {us ds} h => by
      induction us generalizing ds with
      | nil => cases h; intro i; exact .inl ⟨by simp, by simp⟩
      | cons u us ih =>
        cases h with
        | cons d r =>
          intro i
          cases i with
          | zero => exact .inr ⟨_, _, rfl, rfl, d⟩
          | succ i => simpa using ih r i
    rw [List.filterMap_cons, List.filterMap_cons]
    rcases g h i with ⟨e1, e2⟩ | ⟨u, d, e1, e2, dd⟩
    · rw [e1, e2]
      exact vals_pick h is
    · rw [e1, e2]
      exact .cons dd (vals_pick h is)
abbrev rS3 (K : PySem.W.Frag) : V → Option Int → Option Int → Option Int → Hp → VK → Prop := fun u lo hi st H Q => ∃ F x v k, SeeF K H F u x ∧ st = some k ∧ slisD x lo hi k = some v ∧ ∀ u H', Made K H F v u H' → Q u H'
theorem slD3 : SlR3 X (rS3 X.K) := by
  intro pins s σ H x v vl vu vk lo hi st sl Q I rx hs pl pu pk ⟨F, a, w, k, ha, ek, e, q⟩
  subst ek
  cases a with
  | list ds =>
    have e : (if k ≠ 0 ∧ (PM.picks ds lo hi (some k)).length ≤ lineN then some (Val.ol ((PM.picks ds lo hi (some k)).map .d)) else none) = some w := e
    split at e
    · rename_i hk
      cases e
      obtain ⟨p, us, rfl, hp, d⟩ := ha.list
      cases rx
      obtain ⟨its, r, ht, hz⟩ := I.list (.inl hp)
      have hlen := r.length
      refine ⟨"list", _, slot_list_getitem.lookup, ht.isList.typeIs, ?_⟩
      refine wpAny_getItem_list_slice ht.isList hs pl pu pk (fun z => hk.1 (Option.some.inj z)) ?_ (by rw [List.size_toArray] <;> omega)
      rw [slicePick_picks]
      have dp := d.picks lo hi (some k)
      have vp : Vals (PM.picks us lo hi (some k)) (PM.picks its lo hi (some k)) := by
        unfold PM.picks
        rw [← hlen]
        exact vals_pick r _
      refine ⟨.ref s.heap.objs.size, _, I.laid (t' := s.toks) (o := .lst (PM.picks us lo hi (some k))) (fun b ob q => Heap.get?_push_of_some _ q) (Nat.le_refl _) ?_, rfl, q _ _ (.lst (I.hok.fresh (Nat.le_refl _)) dp)⟩
      exact ⟨by rw [dp.len]; exact hk.2, _, 0, vp, Heap.get?_push_size _ rfl⟩
    · cases e
  | _ => cases e
end
section
variable {X : Cx} {ca : Str → Option Addr} {Wx : Wish} {c : Ctx} {x : Expr} {a : ME} {pos : Pos}
theorem pm_slis {lo hi : Option Expr} {st : Expr} {l h k : Option ME} {p2 : Pos} (ha : PE X x (tI X.K ca Wx c a)) (hl : PO X lo (tIo X.K ca Wx c l)) (hh : PO X hi (tIo X.K ca Wx c h)) (hk : PO X (some st) (tIo X.K ca Wx c k)) : PE X (.Subscript x (.Slice lo hi (some st) p2) pos) (tI X.K ca Wx c (.slis a l h k)) :=
  (pe_slice3 slD3 ha hl hh hk).weak fun σ H Q ⟨e, F, own, R, P⟩ => rd_one (r := fun u H1 => tIo X.K ca Wx c l σ H1 fun o H2 => tIo X.K ca Wx c h σ H2 fun o' H3 => tIo X.K ca Wx c k σ H3 fun o'' H4 => rS3 X.K u o o' o'' H4 Q) R P fun va e1 u H1 F1 own1 fp R1 V1 N1 E1 P => by
    refine ⟨e1, F1, own1, R1, (PR.bind P).mono (fun o e2 P H2 F2 own2 R2 E2 => ?_) fun _ _ q => q.shift E1⟩
    refine ⟨e2, F2, own2, R2, (PR.bind P).mono (fun o' e3 P H3 F3 own3 R3 E3 => ?_) fun _ _ q => q.shift (E1.trans E2)⟩
    refine ⟨e3, F3, own3, R3, (PR.bind P).mono (fun o'' e4 P H4 F4 own4 R4 E4 => ?_) fun _ _ q => q.shift ((E1.trans E2).trans E3)⟩
    cases h1 : see e4 va with
    | none => rw [h1] at P; exact P.elim
    | some p =>
      cases o'' with
      | none => rw [h1] at P; exact P.elim
      | some kk =>
        rw [h1] at P
        obtain ⟨v, hv, P⟩ := PR.opt P
        exact ⟨F4, p, v, kk, (V1.ext ((E2.trans E3).trans E4) R1.wok).seeF R4 h1, rfl, hv, QV.made P R4 (((E1.trans E2).trans E3).trans E4)⟩
end
end PM
end

section
set_option Elab.async false
set_option linter.all false
set_option maxRecDepth 100000
set_option maxHeartbeats 2000000
/-! PMCall: calls of the program's own defs. -/
namespace PM
open PySem PySem.Spec PyProof.Rows L2
section
variable {K : PySem.W.Frag} {ca : Str → Option Addr} {σ : L2.St} {e : Env} {H H' : Hp} {F F' W W' : Fs} {own : Nat → List Addr}
theorem VRs.len {us : List V} {vs : List Val} {fp : List Addr} (h : VRs K ca H F us vs fp) : us.length = vs.length := by
  induction us generalizing vs fp with
  | nil => cases h; rfl
  | cons u us ih => cases h with | cons h r => rw [List.length_cons, List.length_cons, ih r]
theorem RVs.lend : ∀ {vs : List Val} {us : List V} {fp : List Addr} {as : List Val}, Rel K ca σ H e F own → RVs K ca σ H F (Ow own) us vs fp → fp.Nodup → (pks vs).Nodup → lend e vs = some as →
    ∃ ap, VRs K ca H F us as ap ∧ ap.Nodup ∧ (∀ a ∈ ap, ¬ F a ∧ (a ∈ fp ∨ ∃ i ∈ pks vs, a ∈ own i)) ∧ ∀ i ∈ pks vs, ∃ u, σ[i]? = some (some u)
  | [], us, fp, as, R, h, _, _, e => by
    cases h
    cases e
    exact ⟨[], .nil, .nil, fun a m => (by cases m), fun a m => (by cases m)⟩
  | v :: vs, us, fp, as, R, h, nd, np, el => by
    cases h with
    | @cons u us v vs fp gp h r d =>
      obtain ⟨nd1, nd2, nd3⟩ := List.nodup_append.mp nd
      cases h with
      | @pk i u hs =>
        have el : (getS e i).bind (fun v => (PM.lend e vs).map (v :: ·)) = some as := el
        have np : (i :: pks vs).Nodup := np
        obtain ⟨np1, np2⟩ := List.nodup_cons.mp np
        cases h1 : getS e i with
        | none => rw [h1] at el; cases el
        | some w =>
          cases h2 : PM.lend e vs with
          | none => rw [h1, h2] at el; cases el
          | some bs =>
            rw [h1, h2] at el
            cases el
            obtain ⟨u', hs', rw'⟩ := R.slot i w h1
            rw [hs] at hs'
            cases hs'
            obtain ⟨ap, q1, q2, q3, q4⟩ := RVs.lend R r (by simpa using nd) np2 h2
            refine ⟨own i ++ ap, .cons rw' q1, List.nodup_append.mpr ⟨R.nd i, q2, fun a m b m' => ?_⟩, fun a m => ?_, fun j m => ?_⟩
            · rintro rfl
              rcases (q3 a m').2 with z | ⟨j, mj, z⟩
              · exact (RVs.mb r a z).2 ⟨i, m⟩
              · exact np1 (R.dj i j a m z ▸ mj)
            · rcases List.mem_append.mp m with m | m
              · exact ⟨R.nf i a m, .inr ⟨i, List.mem_cons_self, m⟩⟩
              · exact ⟨(q3 a m).1, (q3 a m).2.imp (fun z => by simpa using z) fun ⟨j, mj, z⟩ => ⟨j, List.mem_cons_of_mem _ mj, z⟩⟩
            · rcases List.mem_cons.mp m with rfl | m
              · exact ⟨u, hs⟩
              · exact q4 j m
      | val rv n f =>
        have el' : (PM.lend e vs).map (v :: ·) = some as ∧ pks (v :: vs) = pks vs := by cases rv <;> exact ⟨el, rfl⟩
        obtain ⟨el, ep⟩ := el'
        rw [ep] at np ⊢
        cases h2 : PM.lend e vs with
        | none => rw [h2] at el; cases el
        | some bs =>
          rw [h2] at el
          cases el
          obtain ⟨ap, q1, q2, q3, q4⟩ := RVs.lend R r nd2 np h2
          refine ⟨fp ++ ap, .cons rv q1, List.nodup_append.mpr ⟨n, q2, fun a m b m' => ?_⟩, fun a m => ?_, q4⟩
          · rintro rfl
            rcases (q3 a m').2 with z | ⟨j, mj, z⟩
            · exact d a m z
            · exact (f a m).2 ⟨j, z⟩
          · rcases List.mem_append.mp m with m | m
            · exact ⟨(f a m).1, .inl (List.mem_append_left _ m)⟩
            · exact ⟨(q3 a m).1, (q3 a m).2.imp (List.mem_append_right _) id⟩
theorem RVs.nodup {us : List V} {vs : List Val} {fp : List Addr} (h : RVs K ca σ H F W us vs fp) : fp.Nodup := by
  induction h with
  | nil => exact .nil
  | cons h r d ih =>
    refine List.nodup_append.mpr ⟨?_, ih, fun a m b m' => by rintro rfl; exact d a m m'⟩
    cases h with
    | pk _ => exact .nil
    | val _ n _ => exact n
/-- a slot forgotten, σ as it is -/
theorem Rel.drop {i : Nat} (R : Rel K ca σ H e F own) : Rel K ca σ H (e.set i none) F (fun j => if j = i then [] else own j) := by
  have q := R.unset (i := i) (o := (σ[i]?).join)
  have es : σ.set i (σ[i]?).join = σ := by
    cases h : σ[i]? with
    | none => exact List.set_eq_of_length_le (List.getElem?_eq_none_iff.mp h)
    | some o => exact σset_self h
  rw [es] at q
  exact q
def dropE (e : Env) : List Nat → Env
  | [] => e
  | i :: r => dropE (e.set i none) r
theorem Rel.drops : ∀ {is : List Nat} {e : Env} {own : Nat → List Addr}, Rel K ca σ H e F own → Rel K ca σ H (dropE e is) F (fun j => if j ∈ is then [] else own j)
  | [], e, own, R => by simpa [dropE] using R
  | i :: r, e, own, R => by
    have q := Rel.drops (is := r) (R.drop (i := i))
    have eo : (fun j => if j ∈ r then [] else if j = i then [] else own j) = fun j => if j ∈ i :: r then ([] : List Addr) else own j := by
      funext j
      by_cases h1 : j ∈ r
      · simp [h1]
      · by_cases h2 : j = i
        · simp [h2]
        · simp [h1, h2]
    rw [eo] at q
    exact q
theorem getS_dropE {is : List Nat} : ∀ {e : Env} {j : Nat}, getS (dropE e is) j = if j ∈ is then none else getS e j := by
  induction is with
  | nil => intro e j; simp [dropE]
  | cons i r ih =>
    intro e j
    rw [dropE, ih, getS_set]
    by_cases h1 : j ∈ r
    · simp [h1]
    · by_cases h2 : i = j
      · subst h2
        by_cases h3 : i < e.length
        · simp [h3]
        · simp only [h1, if_false, List.mem_cons, true_or, if_true, h3, and_false]
          unfold getS
          rw [List.getElem?_eq_none (Nat.le_of_not_lt h3)]
          rfl
      · simp [h1, h2, Ne.symm h2]
theorem back_set {i : Nat} (vs : List Val) : ∀ {as : List Val} {e : Env}, vs.length = as.length → i ∈ pks vs → back (e.set i none) vs as = back e vs as := by
  induction vs with
  | nil => intro as e l m; cases m
  | cons v vs ih =>
    intro as e l m
    cases as with
    | nil => cases l
    | cons a as =>
      have l2 : vs.length = as.length := Nat.succ.inj l
      cases v with
      | pk j =>
        show back ((e.set i none).set j (some a)) vs as = back (e.set j (some a)) vs as
        by_cases h : i = j
        · subst h
          rw [List.set_set]
        · rw [List.set_comm _ _ h]
          have m : i ∈ j :: pks vs := m
          exact ih l2 ((List.mem_cons.mp m).resolve_left h)
      | d _ => exact ih l2 m
      | ol _ => exact ih l2 m
      | od _ => exact ih l2 m
      | ex _ _ => exact ih l2 m
theorem back_dropE {vs as : List Val} (l : vs.length = as.length) : ∀ {is : List Nat} {e : Env}, (∀ i ∈ is, i ∈ pks vs) → back (dropE e is) vs as = back e vs as
  | [], _, _ => rfl
  | i :: r, e, h => by
    rw [dropE, back_dropE l fun j m => h j (List.mem_cons_of_mem _ m)]
    exact back_set vs l (h i List.mem_cons_self)
/-- the slots that were lent take back -/
theorem Rel.back : ∀ {vs as : List Val} {us : List V} {gp fp : List Addr} {e : Env} {own : Nat → List Addr}, Rel K ca σ H e F own → RVs K ca σ H' F' W us vs fp → VRs K ca H F us as gp → gp.Nodup → (∀ a ∈ gp, ¬ F a ∧ ¬ Ow own a) → (pks vs).Nodup →
    ∃ own', Rel K ca σ H (PM.back e vs as) F own' ∧ ∀ a, Ow own' a → Ow own a ∨ a ∈ gp
  | [], as, us, gp, fp, e, own, R, h, g, _, _, _ => by
    cases h
    cases g
    exact ⟨own, R, fun a z => .inl z⟩
  | v :: vs, as, us, gp, fp, e, own, R, h, g, nd, hg, np => by
    cases h with
    | @cons u us v vs fp1 fp2 h r d =>
      cases g with
      | @cons u us w ws g1 g2 g gr =>
        obtain ⟨nd1, nd2, nd3⟩ := List.nodup_append.mp nd
        cases h with
        | @pk i u hs =>
          obtain ⟨np1, np2⟩ := List.nodup_cons.mp (show (i :: pks vs).Nodup from np)
          have R1 := R.put (i := i) (u := u) (v := w) (fp := g1) (W := fun a => a ∈ g1) (W' := fun _ => False) (F' := F) (H' := H) (List.getElem?_eq_some_iff.mp hs).1 (Ext.same fun a z => z.elim) (fun a m => ⟨(hg a (List.mem_append_left _ m)).1, g.mb a m⟩) (fun j a _ m z => (hg a (List.mem_append_left _ z)).2 ⟨j, m⟩) g nd1
            (fun a m => ⟨(hg a (List.mem_append_left _ m)).1, .inl m⟩) R.al
          rw [σset_self hs] at R1
          obtain ⟨own', R2, o2⟩ := Rel.back R1 r gr nd2 (fun a m => ⟨(hg a (List.mem_append_right _ m)).1, fun ⟨j, z⟩ => by
            have z : a ∈ (if j = i then g1 else own j) := z
            by_cases q : j = i
            · rw [if_pos q] at z; exact nd3 a z a m rfl
            · rw [if_neg q] at z; exact (hg a (List.mem_append_right _ m)).2 ⟨j, z⟩⟩) np2
          refine ⟨own', R2, fun a z => ?_⟩
          rcases o2 a z with ⟨j, z⟩ | z
          · have z : a ∈ (if j = i then g1 else own j) := z
            by_cases q : j = i
            · rw [if_pos q] at z; exact .inr (List.mem_append_left _ z)
            · rw [if_neg q] at z; exact .inl ⟨j, z⟩
          · exact .inr (List.mem_append_right _ z)
        | val rv n f =>
          have eq : PM.back e (v :: vs) (w :: ws) = PM.back e vs ws ∧ pks (v :: vs) = pks vs := by cases rv <;> exact ⟨rfl, rfl⟩
          rw [eq.1]
          rw [eq.2] at np
          obtain ⟨own', R2, o2⟩ := Rel.back R r gr nd2 (fun a m => hg a (List.mem_append_right _ m)) np
          exact ⟨own', R2, fun a z => (o2 a z).imp id (List.mem_append_right _)⟩

/-- what a def promises: what the machine says -/
def spF (K : PySem.W.Frag) (ca : Str → Option Addr) (np : Nat) (run : List Val → CRes) : Sp := fun us H Q E => us.length = np ∧ ∃ vs F fp, VRs K ca H F us vs fp ∧ fp.Nodup ∧ (∀ a ∈ fp, ¬ F a) ∧ (∀ a, F a → H a ≠ none) ∧
  match run vs with
  | .ok r vs' => ∀ v H' F' gp fp', VR K ca H' F' v r gp → VRs K ca H' F' us vs' fp' → (gp ++ fp').Nodup → (∀ a ∈ gp ++ fp', ¬ F' a ∧ (a ∈ fp ∨ H a = none)) → Ext H F (fun a => a ∈ fp) H' F' (fun a => a ∈ fp') → (∀ a, F' a → H' a ≠ none) → Q v H'
  | .ex x vs' => ∀ cls d H' F' fp', ExR K ca H' F' x cls d → VRs K ca H' F' us vs' fp' → fp'.Nodup → (∀ a ∈ fp', ¬ F' a ∧ (a ∈ fp ∨ H a = none)) → Ext H F (fun a => a ∈ fp) H' F' (fun a => a ∈ fp') → (∀ a, F' a → H' a ≠ none) → E cls d H'
  | .no => False
/-- behind a call: the slots, and what the heap came to -/
theorem call_back {vs as vs' : List Val} {us : List V} {fp ap fp' : List Addr} (R : Rel K ca σ H e F own) (V2 : RVs K ca σ H F (Ow own) us vs fp) (np : (pks vs).Nodup) (A : VRs K ca H F us as ap) (hap : ∀ a ∈ ap, ¬ F a ∧ (a ∈ fp ∨ ∃ i ∈ pks vs, a ∈ own i))
    (B : VRs K ca H' F' us vs' fp') (nd : fp'.Nodup) (hb : ∀ a ∈ fp', ¬ F' a ∧ (a ∈ ap ∨ H a = none)) (E : Ext H F (fun a => a ∈ ap) H' F' (fun a => a ∈ fp')) (al : ∀ a, F' a → H' a ≠ none) :
    ∃ own', Rel K ca σ H' (back e vs vs') F' own' ∧ Ext H F (fun a => Ow own a ∨ a ∈ fp) H' F' (Ow own') ∧ ∀ a, Ow own' a → a ∈ fp' ∨ (Ow own a ∧ a ∉ ap) := by
  have wap : Wok H F (fun a => a ∈ ap) := fun a m => ⟨(hap a m).1, A.mb a m⟩
  have dj : ∀ j a, a ∈ (if j ∈ pks vs then [] else own j) → a ∉ ap := fun j a m z => by
    by_cases q : j ∈ pks vs
    · rw [if_pos q] at m; cases m
    · rw [if_neg q] at m
      rcases (hap a z).2 with z | ⟨i, mi, z⟩
      · exact (RVs.mb V2 a z).2 ⟨j, m⟩
      · exact q (R.dj j i a m z ▸ mi)
  have R1 : Rel K ca σ H' (dropE e (pks vs)) F' (fun j => if j ∈ pks vs then [] else own j) := (R.drops (is := pks vs)).ext E wap dj al
  have l : vs.length = vs'.length := by
    have h1 := B.len
    have h2 : us.length = vs.length := by
      clear R1 dj
      induction V2 generalizing as vs' ap fp' with
      | nil => rfl
      | cons h r d ih =>
        rw [List.length_cons, List.length_cons]
        have : ∀ {us : List V} {vs : List Val} {fp : List Addr}, RVs K ca σ H F (Ow own) us vs fp → us.length = vs.length := fun {us vs fp} h => by
          induction h with
          | nil => rfl
          | cons _ _ _ ih => rw [List.length_cons, List.length_cons, ih]
        rw [this r]
    omega
  obtain ⟨own', R2, o2⟩ := Rel.back R1 V2 B nd (fun a m => ⟨(hb a m).1, fun ⟨j, z⟩ => by
    rcases (hb a m).2 with q | q
    · exact dj j a z q
    · by_cases q' : j ∈ pks vs
      · have z : a ∈ (if j ∈ pks vs then [] else own j) := z
        rw [if_pos q'] at z; cases z
      · have z : a ∈ (if j ∈ pks vs then [] else own j) := z
        rw [if_neg q'] at z
        exact (R.wok a ⟨j, z⟩).2.some q⟩) np
  rw [back_dropE l fun i m => m] at R2
  have o3 : ∀ a, Ow own' a → a ∈ fp' ∨ (Ow own a ∧ a ∉ ap) := fun a z => by
    rcases o2 a z with ⟨j, z⟩ | z
    · have nm := dj j a z
      by_cases q : j ∈ pks vs
      · have z : a ∈ (if j ∈ pks vs then [] else own j) := z
        rw [if_pos q] at z; cases z
      · have z : a ∈ (if j ∈ pks vs then [] else own j) := z
        rw [if_neg q] at z
        exact .inr ⟨⟨j, z⟩, nm⟩
    · exact .inl z
  refine ⟨own', R2, E.widen (fun a m => ?_) (fun a z => ?_), o3⟩
  · exact (hap a m).2.elim .inr fun ⟨i, _, z⟩ => .inl ⟨i, z⟩
  · rcases o3 a z with z | z
    · rcases (hb a z).2 with m | m
      · exact .inl ((hap a m).2.elim .inr fun ⟨i, _, z⟩ => .inl ⟨i, z⟩)
      · exact .inr m
    · exact .inl (.inl z.1)
end
section
variable {X : Cx} {ca : Str → Option Addr} {Wx : Wish} {c : Ctx}
/-- the reading of a call's end -/
theorem rd_call {np : Nat} {f : Nat} {es : List ME} {σ : L2.St} {H : Hp} {Q : VK} (harity : ∀ as, (∀ r a, c.call f as ≠ .ok r a) ∧ (∀ r a, c.call f as ≠ .ex r a) ∨ as.length = np)
    (h : tI X.K ca Wx c (.call f es) σ H Q) : tIs X.K ca Wx c es σ H fun us H1 => spF X.K ca np (c.call f) us H1 Q (fun cls d H' => Wx cls d σ H') := by
  obtain ⟨e, F, own, R, P⟩ := h
  refine rd_list (r := fun us H1 => spF X.K ca np (c.call f) us H1 Q (fun cls d H' => Wx cls d σ H')) Ext.refl R P fun vs e2 us H2 F2 own2 fp R2 V2 N2 E2 E P => ?_
  have P : PR (if (pks vs).Nodup then match lend e2 vs with
    | some as => match c.call f as with
      | .ok v as' => .ok v (back e2 vs as')
      | .ex x as' => .ex x (back e2 vs as')
      | .no => .no
    | none => .no
    else .no : Res Val) (QV X.K ca σ H F (Ow own) Q) (QX X.K ca Wx σ H F (Ow own)) := P
  split at P
  · rename_i np'
    cases h1 : lend e2 vs with
    | none => rw [h1] at P; exact P.elim
    | some as =>
      rw [h1] at P
      dsimp only at P
      obtain ⟨ap, A, nd, hap, hsl⟩ := RVs.lend R2 V2 V2.nodup np' h1
      have new : ∀ a, (a ∈ ap ∨ H2 a = none) → Ow own a ∨ H a = none := fun a z => by
        rcases z with z | z
        · rcases (hap a z).2 with z | ⟨i, _, z⟩
          · exact N2 a z
          · exact E.own a ⟨i, z⟩
        · exact .inr (E.live a z)
      have len : ∀ r a, (c.call f as = .ok r a) → as.length = np := fun r a h => (harity as).elim (fun z => (z.1 r a h).elim) id
      have len' : ∀ r a, (c.call f as = .ex r a) → as.length = np := fun r a h => (harity as).elim (fun z => (z.2 r a h).elim) id
      cases h2 : c.call f as with
      | no => rw [h2] at P; exact P.elim
      | ok r as' =>
        rw [h2] at P
        refine ⟨by rw [A.len]; exact len r as' h2, as, F2, ap, A, nd, fun a m => (hap a m).1, R2.al, ?_⟩
        rw [h2]
        intro v H' F' gp fp' vr B nd' hb' E' al'
        obtain ⟨nd1, nd2, nd3⟩ := List.nodup_append.mp nd'
        obtain ⟨own', R3, E3, o3⟩ := call_back R2 V2 np' A hap B nd2 (fun a m => hb' a (List.mem_append_right _ m)) E' al'
        refine (show QV X.K ca σ H F (Ow own) Q r (back e2 vs as') from P) v H' F' own' gp R3 (.val vr nd1 fun a m => ⟨(hb' a (List.mem_append_left _ m)).1, fun w => ?_⟩) (fun a m => new a (hb' a (List.mem_append_left _ m)).2) ((E.addT N2).trans E3)
        rcases o3 a w with z | ⟨z1, z2⟩
        · exact nd3 a m a z rfl
        · rcases (hb' a (List.mem_append_left _ m)).2 with q | q
          · exact z2 q
          · exact (R2.wok a z1).2.some q
      | ex x as' =>
        rw [h2] at P
        refine ⟨by rw [A.len]; exact len' x as' h2, as, F2, ap, A, nd, fun a m => (hap a m).1, R2.al, ?_⟩
        rw [h2]
        intro cls d H' F' fp' xr B nd' hb' E' al'
        obtain ⟨own', R3, E3, o3⟩ := call_back R2 V2 np' A hap B nd' hb' E' al'
        exact (show QX X.K ca Wx σ H F (Ow own) x (back e2 vs as') from P) cls d H' F' own' R3 xr ((E.addT N2).trans E3)
  · exact P.elim
end
end PM
end

section
set_option Elab.async false
set_option linter.all false
set_option maxRecDepth 100000
set_option maxHeartbeats 2000000
/-! PMGrd: a def's promise where no repr is under way. -/
namespace PM
open PySem PySem.Spec PyProof.Rows L2
/-- the promise of a def, asked where no guard stands -/
structure FnG (P : Program) (w : World) (K : PySem.W.Frag) (mg : Str → Option Value) (base : Heap) (k : Nat) (f : Addr) (fd : FuncData) (ps : List Str) (sp : Sp) : Prop where
  wide : ∀ vs H Q E, sp vs H Q E → vs.length = ps.length
  go : ∀ (A : Around) (out : List PySem.Env) (s : Shared) (H : Hp) (args : Args) (us : List Value) (vs : List V) (Q : VK) (E : XK), A.guards = some [] → Room k A → Env0 P w K mg base A out s H → BindsTo s fd args (ps.zip us) → Vals vs us → sp vs H Q E →
    codeAny (model P w) A (.call (.ref f) args) (CR (L2.CX P w) out P w H s Q E) s
section
variable {P : Program} {w : World} {K : PySem.W.Frag} {mg : Str → Option Value} {base : Heap} {k : Nat} {f : Addr} {fd : FuncData} {ps N : List Str} {sp : Sp} {x qual : Str} {params : Arguments} {body : List Stmt} {scope : Scope} {dvs : List V} {kws : List (Str × V)}
/-- from the body's run -/
theorem FnG.of_body (D : FunD K x qual params body scope dvs kws f fd) (S : FnScope N ps scope) (wide : ∀ vs H Q E, sp vs H Q E → vs.length = ps.length)
    (run : ∀ (cdv : Value) (A : Around) (out : List PySem.Env) (s : Shared) (H : Hp) (vs : List V) (Q : VK) (E : XK), A.guards = some [] → Room k (A.deeper (envOfC qual scope s.heap.objs.size f cdv)) → sp vs H Q E →
      ∃ t, PSs (cxOf (L2.CX P w) P w K mg base N qual scope f cdv A out s H E) body t ∧ t { nx := fun _ H' => Q .non H', rt := Q } (start N vs) H) : FnG P w K mg base (k + 1) f fd ps sp := by
  obtain ⟨oc, od, dV, kV, doc, pm, an, cdv, ct, osl, rfl, look, code, _, _⟩ := D.ex
  constructor
  · exact wide
  intro A out s H args us vs Q E gd room en bt rv want
  have nn := wide _ _ _ _ want
  have inK : K.In s.heap := en.mod.kin.keeps fun b o z => (en.bs b o z).1
  have noL : s.heap.NoLimit := en.mod.nolimit.keeps fun b o z => (en.bs b o z).1
  refine codeAny_call_function room.depth (inK _ _ look) rfl S.co S.gen rfl (PySem.W.codeRec_of inK code) (bt _ _ _ _ ?_)
  refine wpAny_newFunctionEnv_cells S.kind (fun z hz => ?_) fun env he s1 made => ?_
  · rcases S.par z.1 (List.of_mem_zip (a := z.1) (b := z.2) hz).1 with q | q
    · exact Or.inl q
    · exact Or.inr ⟨q, PySem.W.cellsFrom_some _ _ _ (Or.inl q)⟩
  subst he
  refine ⟨noL.keeps made.toInCall.keep, codeAny_func ?_⟩
  obtain ⟨t, ht, hq⟩ := run cdv A out s H vs Q E gd (room.deeper _) want
  have J0 : Inv (cxOf (L2.CX P w) P w K mg base N qual scope f cdv A out s H E) [] (start N vs) H s1 := inv_start S room.hd en nn rv made
  refine wpAny_mono (ht.run [] s1 (start N vs) H _ J0 hq) (fun fl s' z => ?_) fun _ _ z => z
  match fl, z with
  | .ret u, ⟨v, σ', H', J, r, q⟩ => exact ⟨v, H', J.os, J.bare, J.base, J.hok, r, q⟩
  | .next, ⟨σ', H', J, q⟩ => exact ⟨.non, H', J.os, J.bare, J.base, J.hok, rfl, q⟩
  | .brk, ⟨_, _, _, q⟩ => exact q.elim
  | .cont, ⟨_, _, _, q⟩ => exact q.elim
end
section
variable {X : Cx} {k : Nat} {f : Addr} {fd : FuncData} {ps : List Str} {sp : Sp} {x : Str} {p pos : Pos} {e : Expr} {es : List Expr} {t : TA} {Ec : L2.St → XK}
theorem FnG.meet {pins : List (Addr × Obj)} {σ : L2.St} {H : Hp} {s : Shared} {Q : VK} {us : List Value} {vs : List V} {Ex : XK} (gd : X.A.guards = some []) (F : FnG X.prog X.w X.K X.mg X.base k f fd ps sp) (room : Room k X.A) (hb : Binds X.K fd ps []) (hx : PassesAt (L2.CX X.prog X.w) X σ Ex)
    (I : Inv X pins σ H s) (r : Vals vs us) (h : sp vs H Q Ex) : wpAny (model X.prog X.w) X.A (call (.ref f) us) (EP X pins σ Q) X.xe s := by
  have ln : (us ++ []).length = ps.length := by rw [List.append_nil, ← r.length]; exact F.wide _ _ _ _ h
  have bt := hb s us I.kIn ln
  rw [List.append_nil] at bt
  refine wpAny_call (codeAny_mono (F.go X.A X.stack s H ⟨us, []⟩ us vs Q Ex gd room I.env0 bt r h) fun fin s' z => ?_)
  match fin, z with
  | .error ex, z => exact hx pins H s ex s' I z
  | .ok (.ret u), z => exact I.after z
  | .ok .next, z => exact z.elim
  | .ok .brk, z => exact z.elim
  | .ok .cont, z => exact z.elim
/-- f(e, ..) -/
theorem pe_callG (gd : X.A.guards = some []) (F : FnG X.prog X.w X.K X.mg X.base k f fd ps sp) (room : Room k X.A) (hg : Gl X x) (hm : X.mg x = some (.ref f)) (hk : PySem.W.keepIn X.K (.ref f) = true) (hb : Binds X.K fd ps []) (hx : ∀ σ, PassesAt (L2.CX X.prog X.w) X σ (Ec σ))
    (ha : PA X (e :: es) t) (hdb : (x == ("__debug__" : Str)) = false) (he : starEach (e :: es) X.env = (false, eval e X.env) :: starEach es X.env) (hpl : (backTo pos (starEach es X.env)).any (·.1) = false) :
    PE X (.Call (.Name x p) (e :: es) [] pos) (tCallSD sp [] Ec t) := by
  constructor
  intro pins s σ H Q I h
  refine wpAny_Call_Name_kw (ld_glob I hg hm ?_ hdb)
  refine PySem.W.callWith_K (h₀ := X.base) I.ok.mod.kin hk (thn (ha.run pos pins s σ H _ I h) fun us s1 z => ?_) he hpl
  obtain ⟨vs, H1, J, r, q⟩ := z
  have q : sp (vs ++ []) H1 Q (Ec σ) := q
  rw [List.append_nil] at q
  exact ⟨J.kIn, F.meet gd room hb (hx σ) J r q⟩
end
section
variable {P : Program} {w : World} {K : PySem.W.Frag} {mg mb : Str → Option Value} {k : Nat} {fa a : Addr} {fd : FuncData} {x : Str} {sp : Sp} {s : Shared} {vs : List Value} {ns : List Int}
/-- the law's def is called at the top: nothing but the script is tracked -/
theorem FnG.top (inK : K.In s.heap) (hns : s.heap.Ns mainGlobals mg) (hb : s.heap.Ns builtinsNs mb) (hbb : ∀ x : Str, x ≠ "__name__" → mb x = bootBuiltins x) (hlim : s.heap.NoLimit) (hg : s.gens = #[])
    (ha : s.heap.get? a = some { cls := .type "list", data := .seq vs.toArray }) (hi : IntsAre vs ns) (hl : ns.length ≤ sizeLine) (room : Room k callerA)
    (F : ∀ base : Heap, K.In base → base.Ns mainGlobals mg → FnG P w K mg base k fa fd [x] sp) (hbind : ∀ (s : Shared) (u : Value), BindsTo s fd ⟨[u], []⟩ [(x, u)])
    (hsp : ∀ H : Hp, L2.Only H → SqL K H a (ns.map V.int) → sp [.ref a] H (fun v _ => v = .bl true) fun _ _ _ => False)
    (noEx : ∀ H e s', L2.CX P w [] H s (fun _ _ _ => False) e s' → False) :
    codeAny (model P w) callerA (.call (.ref fa) ⟨[.ref a], []⟩) (fun r s' => r = .ok (.ret (.bool true)) ∧ OldK s.heap s'.heap ∧ s'.os = s.os ∧ AllBare s'.gens) s := by
  -- at an abstract heap that holds the script at most
  have at_ : ∀ H : Hp, L2.Only H → SqL K H a (ns.map V.int) → HOk P w H s.heap → (∀ b u, H b = some u → b = a ∧ K.lookup a = none) →
      codeAny (model P w) callerA (.call (.ref fa) ⟨[.ref a], []⟩) (fun r s' => r = .ok (.ret (.bool true)) ∧ OldK s.heap s'.heap ∧ s'.os = s.os ∧ AllBare s'.gens) s := fun H only sq ok lone => by
    have keepN : ∀ {b : Addr} {m : Str → Option Value}, s.heap.Ns b m → (hidT s.heap H).Ns b m := fun {b m} q => by
      obtain ⟨o, es, ep, z, dz, rest⟩ := q
      refine ⟨o, es, ep, hidT_get z ?_, dz, rest⟩
      cases hH : H b with
      | none => rfl
      | some u =>
        obtain ⟨rfl, _⟩ := lone b u hH
        rw [ha] at z
        cases z
        cases (show Data.seq vs.toArray _ = Data.dict es ep from dz)
    have keepK : K.In (hidT s.heap H) := fun b o z => hidT_get (inK b o z) (by
      cases hH : H b with
      | none => rfl
      | some u =>
        obtain ⟨rfl, no⟩ := lone b u hH
        rw [no] at z
        cases z)
    have md : Mod K mg (hidT s.heap H) := by
      obtain ⟨mc, l1, l2⟩ := hlim
      exact ⟨keepK, keepN hns, ⟨mb, keepN hb, hbb⟩, ⟨mc, keepN l1, l2⟩⟩
    have en : Env0 P w K mg (hidT s.heap H) callerA [] s H := ⟨rfl, md, fun b o z => of_hidT z, Nat.le_of_eq (hidT_size _ _), trivial, fun b z => (by cases z), ok, .of_eq hg⟩
    refine codeAny_mono ((F _ keepK (keepN hns)).go callerA [] s H ⟨[.ref a], []⟩ [.ref a] [.ref a] _ _ rfl room en (hbind s (.ref a)) (.cons rfl .nil) (hsp H only sq)) fun fin s' z => ?_
    match fin, z with
    | .error e, z => exact (noEx H e s' z).elim
    | .ok .next, z => exact z.elim
    | .ok .brk, z => exact z.elim
    | .ok .cont, z => exact z.elim
    | .ok (.ret u), ⟨v, H', os, bare, un, ok', rel, is⟩ =>
      cases (show v = V.bl true from is)
      cases (show u = Value.bool true from rel)
      refine ⟨rfl, OldK.of_keep fun b o z => ?_, os, bare⟩
      rcases only b with n | ⟨ob, xs, n⟩
      · exact un.keep b o z n (fun m => (by cases m)) (fun m => (by cases m))
      · have z1 := (ok b _ n).1
        have z2 := (ok' b _ (un.frzs b ob _ n)).1
        rw [z] at z1
        cases z1
        exact z2
  have vals : Vals (ns.map V.int) vs := vals_ints hi
  have cnt := hi.length
  cases own : K.lookup a with
  | some o =>
    have z := inK a o own
    rw [ha] at z
    cases z
    exact at_ (fun _ => none) (fun _ => Or.inl rfl) (Or.inr ⟨_, vs.toArray, _, own, rfl, rfl, rfl, (by rw [List.size_toArray, cnt]; exact hl), (by simpa using vals)⟩) (fun b u z => (by cases (show (none : Option HO) = some u from z))) fun b u z => (by cases (show (none : Option HO) = some u from z))
  | none =>
    let ob : Obj := { cls := .type "list", data := .seq vs.toArray }
    let H1 : Hp := fun b => if b = a then some (.frz ob (.lst (ns.map V.int))) else none
    have h1 : ∀ b u, H1 b = some u → b = a ∧ u = .frz ob (.lst (ns.map V.int)) := fun b u z => by
      by_cases q : b = a
      · exact ⟨q, (Option.some.inj ((if_pos q).symm.trans z)).symm⟩
      · cases ((if_neg q).symm.trans z)
    refine at_ H1 (fun b => ?_) (Or.inl (Or.inr ⟨ob, if_pos rfl⟩)) (fun b u z => ?_) fun b u z => ⟨(h1 b u z).1, own⟩
    · by_cases q : b = a
      · exact Or.inr ⟨_, _, if_pos q⟩
      · exact Or.inl (if_neg q)
    · obtain ⟨rfl, rfl⟩ := h1 b u z
      exact ⟨ha, (by rw [List.length_map]; exact hl), vs, _, vals, ha⟩
end
end PM
end

section
set_option Elab.async false
set_option linter.all false
set_option maxRecDepth 100000
set_option maxHeartbeats 2000000
/-! PMStmt: the machine's statements over HandS' judgements. -/
namespace PM
open PySem PySem.Spec PyProof.Rows L2
/-- what is lent stays where it stands -/
def Prz (c : Ctx) (σ σ' : L2.St) : Prop := ∀ i : Nat, c.pr[i]? = some true → σ'[i]? = σ[i]?
theorem Prz.refl {c : Ctx} {σ : L2.St} : Prz c σ σ := fun _ _ => rfl
theorem Prz.trans {c : Ctx} {σ σ1 σ2 : L2.St} (a : Prz c σ σ1) (b : Prz c σ1 σ2) : Prz c σ σ2 := fun i h => (b i h).trans (a i h)
theorem Prz.set {c : Ctx} {σ : L2.St} {i : Nat} {u : Option V} (h : c.pr[i]? ≠ some true) : Prz c σ (σ.set i u) := fun j hj => by
  rw [List.getElem?_set_ne]
  rintro rfl
  exact h hj
section
variable {K : PySem.W.Frag} {ca : Str → Option Addr} {Wx : Wish} {c : Ctx} {σ σ1 : L2.St} {e e' : Env} {H H' H1 H2 : Hp} {F F' F1 F2 W W' W1 : Fs} {own own1 own2 : Nat → List Addr} {D : Ends}
def QXs (K : PySem.W.Frag) (ca : Str → Option Addr) (Wx : Wish) (c : Ctx) (σ : L2.St) (H : Hp) (F W : Fs) : Ex → Env → Prop := fun x e => ∀ cls d σ' H' F' own, Prz c σ σ' → Rel K ca σ' H' e F' own → ExR K ca H' F' x cls d → Ext H F W H' F' (Ow own) → Wx cls d σ' H'
def FlowR (K : PySem.W.Frag) (ca : Str → Option Addr) (D : Ends) (H : Hp) (W : Fs) (σ' : L2.St) (H' : Hp) (F' : Fs) (own : Nat → List Addr) : PM.Flow → Prop
  | .nx => D.nx σ' H'
  | .bk => D.bk σ' H'
  | .ct => D.ct σ' H'
  | .ret v => ∀ u fp, VR K ca H' F' u v fp → fp.Nodup → (∀ a ∈ fp, ¬ F' a ∧ ¬ Ow own a) → (∀ a ∈ fp, W a ∨ H a = none) → D.rt u H'
def QF (K : PySem.W.Frag) (ca : Str → Option Addr) (c : Ctx) (σ : L2.St) (H : Hp) (F W : Fs) (D : Ends) : PM.Flow → Env → Prop := fun fl e => ∀ σ' H' F' own, Prz c σ σ' → Rel K ca σ' H' e F' own → Ext H F W H' F' (Ow own) → FlowR K ca D H W σ' H' F' own fl
theorem QXs.shift {x : Ex} (p : Prz c σ σ1) (E : Ext H F W H1 F1 W1) (q : QXs K ca Wx c σ H F W x e) : QXs K ca Wx c σ1 H1 F1 W1 x e := fun cls d σ' H' F' own p' R r E' => q cls d σ' H' F' own (p.trans p') R r (E.trans E')
theorem QXs.toX {x : Ex} (q : QXs K ca Wx c σ H F W x e) : QX K ca Wx σ H F W x e := fun cls d H' F' own R r E => q cls d σ H' F' own .refl R r E
theorem FlowR.shift {fl : PM.Flow} (E : Ext H F W H1 F1 W1) {σ' : L2.St} (q : FlowR K ca D H W σ' H' F' own fl) : FlowR K ca D H1 W1 σ' H' F' own fl := by
  cases fl with
  | ret v => exact fun u fp r n f z => q u fp r n f (fp_shift E z)
  | _ => exact q
theorem QF.shift {fl : PM.Flow} (p : Prz c σ σ1) (E : Ext H F W H1 F1 W1) (q : QF K ca c σ H F W D fl e) : QF K ca c σ1 H1 F1 W1 D fl e := fun σ' H' F' own p' R E' => (q σ' H' F' own (p.trans p') R (E.trans E')).shift E
/-- the reading of a statement -/
def tS (K : PySem.W.Frag) (ca : Str → Option Addr) (Wx : Wish) (c : Ctx) (run : Env → Res PM.Flow) : TS := fun D σ H => ∃ e F own, Rel K ca σ H e F own ∧ PR (run e) (QF K ca c σ H F (Ow own) D) (QXs K ca Wx c σ H F (Ow own))
abbrev GoF (K : PySem.W.Frag) (ca : Str → Option Addr) (Wx : Wish) (c : Ctx) (σ : L2.St) (H : Hp) (F W : Fs) (D : Ends) (r : Res PM.Flow) : Prop := PR r (QF K ca c σ H F W D) (QXs K ca Wx c σ H F W)
theorem GoF.shift {r : Res PM.Flow} (p : Prz c σ σ1) (E : Ext H F W H1 F1 W1) (q : GoF K ca Wx c σ H F W D r) : GoF K ca Wx c σ1 H1 F1 W1 D r := PR.mono q (fun _ _ q => q.shift p E) fun _ _ q => q.shift p E
/-- an expression ahead, then the rest -/
theorem sd_one {a : ME} {f : Val → Env → Res PM.Flow} (R : Rel K ca σ H e F own) (h : GoF K ca Wx c σ H F (Ow own) D ((ev c a e).bind f)) {r : V → Hp → Prop}
    (fin : ∀ va e2 u H2 F2 own2 fp, Rel K ca σ H2 e2 F2 own2 → RV K ca σ H2 F2 (Ow own2) u va fp → (∀ a ∈ fp, Ow own a ∨ H a = none) → Ext H F (Ow own) H2 F2 (Ow own2) → GoF K ca Wx c σ H F (Ow own) D (f va e2) → r u H2) : tI K ca Wx c a σ H r :=
  ⟨e, F, own, R, h.bind.mono (fun va e2 P u H2 F2 own2 fp R2 V2 N2 E2 => fin va e2 u H2 F2 own2 fp R2 V2 N2 E2 P) fun _ _ q => q.toX⟩
theorem sd_list {es : List ME} {f : List Val → Env → Res PM.Flow} (R : Rel K ca σ H e F own) (h : GoF K ca Wx c σ H F (Ow own) D ((evs c es e).bind f)) {r : List V → Hp → Prop}
    (fin : ∀ va e2 u H2 F2 own2 fp, Rel K ca σ H2 e2 F2 own2 → RVs K ca σ H2 F2 (Ow own2) u va fp → (∀ a ∈ fp, Ow own a ∨ H a = none) → Ext H F (Ow own) H2 F2 (Ow own2) → GoF K ca Wx c σ H F (Ow own) D (f va e2) → r u H2) : tIs K ca Wx c es σ H r :=
  ⟨e, F, own, R, h.bind.mono (fun va e2 P u H2 F2 own2 fp R2 V2 N2 E2 => fin va e2 u H2 F2 own2 fp R2 V2 N2 E2 P) fun _ _ q => q.toX⟩
/-- a second expression -/
theorem sd_next {a : ME} {f : Val → Env → Res PM.Flow} {e1 : Env} (E1 : Ext H F W H1 F1 (Ow own1)) (R : Rel K ca σ H1 e1 F1 own1) (h : GoF K ca Wx c σ H F W D ((ev c a e1).bind f)) {r : V → Hp → Prop}
    (fin : ∀ va e2 u H2 F2 own2 fp, Rel K ca σ H2 e2 F2 own2 → RV K ca σ H2 F2 (Ow own2) u va fp → (∀ a ∈ fp, Ow own1 a ∨ H1 a = none) → Ext H1 F1 (Ow own1) H2 F2 (Ow own2) → GoF K ca Wx c σ H F W D (f va e2) → r u H2) : tI K ca Wx c a σ H1 r :=
  ⟨e1, F1, own1, R, h.bind.mono (fun va e2 P u H2 F2 own2 fp R2 V2 N2 E2 => fin va e2 u H2 F2 own2 fp R2 V2 N2 E2 P) fun _ _ q => (q.toX).shift E1⟩
end
section
variable {X : Cx} {ca : Str → Option Addr} {Wx : Wish} {c : Ctx} {x y z : Expr} {a b d : ME} {pos : Pos} {st : Stmt} {sts : List Stmt} {m : MS} {ms : List MS}
abbrev tM (K : PySem.W.Frag) (ca : Str → Option Addr) (Wx : Wish) (c : Ctx) (m : MS) : TS := tS K ca Wx c (ex c m)
abbrev tMs (K : PySem.W.Frag) (ca : Str → Option Addr) (Wx : Wish) (c : Ctx) (m : List MS) : TS := tS K ca Wx c (exs c m)
theorem ss_nil : PSs X [] (tMs X.K ca Wx c []) := pss_nil.weak fun D σ H ⟨e, F, own, R, P⟩ => P σ H F own .refl R .refl
theorem ss_cons (h1 : PS X st (tM X.K ca Wx c m)) (h2 : PSs X sts (tMs X.K ca Wx c ms)) : PSs X (st :: sts) (tMs X.K ca Wx c (m :: ms)) :=
  (pss_cons h1 h2).weak fun D σ H ⟨e, F, own, R, P⟩ => by
    refine ⟨e, F, own, R, (PR.bind P).mono (fun fl e1 P => ?_) fun _ _ q => q⟩
    cases fl with
    | nx => exact fun σ' H' F' own' p R' E' => ⟨e1, F', own', R', GoF.shift p E' P⟩
    | bk => exact P
    | ct => exact P
    | ret v => exact P
theorem s_pass : PS X (.Pass pos) (tM X.K ca Wx c .pass) := ps_pass.weak fun D σ H ⟨e, F, own, R, P⟩ => P σ H F own .refl R .refl
theorem s_brk : PS X (.Break pos) (tM X.K ca Wx c .brk) := ps_break.weak fun D σ H ⟨e, F, own, R, P⟩ => P σ H F own .refl R .refl
theorem s_cont : PS X (.Continue pos) (tM X.K ca Wx c .cont) := ps_continue.weak fun D σ H ⟨e, F, own, R, P⟩ => P σ H F own .refl R .refl
theorem s_doc {t : Str} {j : Nat} {pos' : Pos} : PS X (.Expr (.Constant (.str t) j pos) pos') (tM X.K ca Wx c .pass) := ps_doc.weak fun D σ H ⟨e, F, own, R, P⟩ => P σ H F own .refl R .refl
theorem s_expr (h : PE X x (tI X.K ca Wx c a)) (hs : swapsWith x none pos.line X.env = pure false) : PS X (.Expr x pos) (tM X.K ca Wx c (.expr a)) :=
  (ps_expr h hs).weak fun D σ H ⟨e, F, own, R, P⟩ => sd_one (r := fun _ H1 => D.nx σ H1) R P fun va e2 u H2 F2 own2 fp R2 V2 N2 E2 P => P σ H2 F2 own2 .refl R2 E2
theorem s_retN : PS X (.Return none pos) (tM X.K ca Wx c .retN) := ps_retN.weak fun D σ H ⟨e, F, own, R, P⟩ => P σ H F own .refl R .refl .non [] (.d .non) .nil (fun a m => by cases m) (fun a m => by cases m)
/-- what a name's slot owns, taken out -/
theorem RV.out {σ : L2.St} {K : PySem.W.Frag} {H : Hp} {F : Fs} {e e' : Env} {own : Nat → List Addr} {u : V} {v v' : Val} {fp : List Addr} (R : Rel K ca σ H e F own) (h : RV K ca σ H F (Ow own) u v fp) (s : PM.handOut c e v = some (v', e')) :
    ∃ F' own' fp', Rel K ca σ H e' F' own' ∧ VR K ca H F' u v' fp' ∧ fp'.Nodup ∧ (∀ a ∈ fp', ¬ F' a ∧ ¬ Ow own' a) ∧ (∀ a ∈ fp', Ow own a ∨ a ∈ fp) ∧ Ext H F (fun a => Ow own a ∨ a ∈ fp) H F' (Ow own') := by
  cases h with
  | @pk i u hs =>
    have s : (if c.pr[i]? = some true then (PM.take e (.pk i)).map fun p => (Val.d p.1, p.2) else (getS e i).map fun v => (v, e.set i none)) = some (v', e') := s
    split at s
    · obtain ⟨⟨x, e2⟩, hx, s⟩ := Option.map_eq_some_iff.mp s
      cases s
      obtain ⟨F', own', R', D', E'⟩ := RV.take R (.pk hs) hx
      exact ⟨F', own', [], R', .d D', .nil, fun a m => (by cases m), fun a m => (by cases m), E'⟩
    · obtain ⟨w, hw, s⟩ := Option.map_eq_some_iff.mp s
      cases s
      obtain ⟨u', hu, r⟩ := R.slot i _ hw
      rw [hs] at hu
      cases hu
      have R' := R.drop (i := i)
      refine ⟨F, _, own i, R', r, R.nd i, fun a m => ⟨R.nf i a m, fun ⟨j, z⟩ => ?_⟩, fun a m => .inl ⟨i, m⟩, Ext.same fun a ⟨j, z⟩ => ?_⟩
      · have z : a ∈ (if j = i then [] else own j) := z
        by_cases q : j = i
        · rw [if_pos q] at z; cases z
        · rw [if_neg q] at z; exact q (R.dj j i a z m)
      · have z : a ∈ (if j = i then [] else own j) := z
        by_cases q : j = i
        · rw [if_pos q] at z; cases z
        · rw [if_neg q] at z; exact .inl (.inl ⟨j, z⟩)
  | val r n f =>
    have s : v' = v ∧ e' = e := by cases r <;> (cases s; exact ⟨rfl, rfl⟩)
    obtain ⟨rfl, rfl⟩ := s
    exact ⟨F, own, fp, R, r, n, f, fun a m => .inr m, Ext.same fun a z => .inl (.inl z)⟩
/-- what is stored -/
theorem RV.stow {σ : L2.St} {K : PySem.W.Frag} {H : Hp} {F : Fs} {e e' : Env} {own : Nat → List Addr} {u : V} {v v' : Val} {fp : List Addr} (R : Rel K ca σ H e F own) (h : RV K ca σ H F (Ow own) u v fp) (s : PM.stow e v = some (v', e')) :
    ∃ F' own' fp', Rel K ca σ H e' F' own' ∧ VR K ca H F' u v' fp' ∧ fp'.Nodup ∧ (∀ a ∈ fp', ¬ F' a ∧ ¬ Ow own' a) ∧ (∀ a ∈ fp', a ∈ fp) ∧ Ext H F (fun a => Ow own a ∨ a ∈ fp) H F' (Ow own') := by
  cases h with
  | @pk i u hs =>
    have s : (PM.take e (.pk i)).map (fun p => (Val.d p.1, p.2)) = some (v', e') := s
    obtain ⟨⟨x, e2⟩, hx, s⟩ := Option.map_eq_some_iff.mp s
    cases s
    obtain ⟨F', own', R', D', E'⟩ := RV.take R (.pk hs) hx
    exact ⟨F', own', [], R', .d D', .nil, fun a m => (by cases m), fun a m => (by cases m), E'⟩
  | val r n f =>
    have s : v' = v ∧ e' = e := by cases r <;> (cases s; exact ⟨rfl, rfl⟩)
    obtain ⟨rfl, rfl⟩ := s
    exact ⟨F, own, fp, R, r, n, f, fun a m => m, Ext.same fun a z => .inl (.inl z)⟩
theorem s_ret (h : PE X x (tI X.K ca Wx c a)) : PS X (.Return (some x) pos) (tM X.K ca Wx c (.ret a)) :=
  (ps_ret h).weak fun D σ H ⟨e, F, own, R, P⟩ => sd_one (r := D.rt) R P fun va e2 u H2 F2 own2 fp R2 V2 N2 E2 P => by
    cases h1 : handOut c e2 va with
    | none => rw [h1] at P; exact P.elim
    | some q =>
      obtain ⟨v', e3⟩ := q
      rw [h1] at P
      obtain ⟨F3, own3, fp3, R3, r3, n3, f3, m3, E3⟩ := RV.out R2 V2 h1
      exact P σ H2 F3 own3 .refl R3 ((E2.addT N2).trans E3) u fp3 r3 n3 f3 fun a m => (m3 a m).elim (E2.own a) (N2 a)
theorem s_ite {tt : Expr} {p q : List Stmt} {ps qs : List MS} (h : PT X tt (tIt X.K ca Wx c a)) (h1 : PSs X p (tMs X.K ca Wx c ps)) (h2 : PSs X q (tMs X.K ca Wx c qs)) : PS X (.If tt p q pos) (tM X.K ca Wx c (.ite a ps qs)) :=
  (ps_if h h1 h2).weak fun D σ H ⟨e, F, own, R, P⟩ => ⟨e, F, own, R, (PR.bind P).mono (fun va e2 P => by
    cases h1 : (see e2 va).bind truD with
    | none => rw [h1] at P; exact P.elim
    | some k =>
      rw [h1] at P
      refine ⟨k, rfl, fun H2 F2 own2 R2 E2 => ?_⟩
      cases k with
      | true => exact ⟨e2, F2, own2, R2, GoF.shift .refl E2 P⟩
      | false => exact ⟨e2, F2, own2, R2, GoF.shift .refl E2 P⟩) fun _ _ q => q.toX⟩

/-! ### targets -/
mutual
def tix : Tgt → List Nat
  | .nm i => [i]
  | .tup ts => tixs ts
def tixs : List Tgt → List Nat
  | [] => []
  | t :: ts => tix t ++ tixs ts
end
/-- only these slots have changed -/
def Only (is : List Nat) (σ σ' : L2.St) : Prop := σ'.length = σ.length ∧ ∀ j : Nat, j ∉ is → σ'[j]? = σ[j]?
theorem Only.set {σ : L2.St} {i : Nat} {u : Option V} : Only [i] σ (σ.set i u) := ⟨List.length_set, fun j h => List.getElem?_set_ne fun q => h (by simp [q])⟩
theorem Only.trans {σ σ1 σ2 : L2.St} {is js : List Nat} (a : Only is σ σ1) (b : Only js σ1 σ2) : Only (is ++ js) σ σ2 := ⟨b.1.trans a.1, fun j h => by
  rw [List.mem_append, not_or] at h
  exact (b.2 j h.2).trans (a.2 j h.1)⟩
/-- what a target does with a value of its own -/
def tG (K : PySem.W.Frag) (ca : Str → Option Addr) (c : Ctx) (t : Tgt) : TG := fun u σ H Q => ∃ v e F own fp e', Rel K ca σ H e F own ∧ VR K ca H F u v fp ∧ fp.Nodup ∧ (∀ a ∈ fp, ¬ F a ∧ ¬ Ow own a) ∧ asg c t v e = some e' ∧
  ∀ σ' own', Prz c σ σ' → Only (tix t) σ σ' → Rel K ca σ' H e' F own' → (∀ a, Ow own' a → Ow own a ∨ a ∈ fp) → Q σ' H
def tGs (K : PySem.W.Frag) (ca : Str → Option Addr) (c : Ctx) (ts : List Tgt) : TGs := fun us σ H Q => ∃ ds e F own e', Rel K ca σ H e F own ∧ Dens K H F us ds ∧ asgs c ts ds e = some e' ∧
  ∀ σ' own', Prz c σ σ' → Only (tixs ts) σ σ' → Rel K ca σ' H e' F own' → (∀ a, Ow own' a → Ow own a) → Q σ' H
theorem setSl_some {e e' : Env} {i : Nat} {v : Val} (h : setSl c e i v = some e') : c.pr[i]? ≠ some true ∧ i < e.length ∧ e' = e.set i (some v) := by
  unfold setSl at h
  split at h
  · cases h
  · rename_i q
    cases h
    exact ⟨fun z => q (.inl z), Nat.lt_of_not_le fun z => q (.inr z), rfl⟩
/-- a slot takes a value of its own -/
theorem Rel.sets {σ : L2.St} {K : PySem.W.Frag} {H : Hp} {F : Fs} {e e' : Env} {own : Nat → List Addr} {u : V} {v : Val} {fp : List Addr} {i : Nat} (R : Rel K ca σ H e F own) (r : VR K ca H F u v fp) (n : fp.Nodup) (f : ∀ a ∈ fp, ¬ F a ∧ ¬ Ow own a) (h : setSl c e i v = some e') :
    Prz c σ (σ.set i (some u)) ∧ ∃ own', Rel K ca (σ.set i (some u)) H e' F own' ∧ ∀ a, Ow own' a → Ow own a ∨ a ∈ fp := by
  obtain ⟨h1, h2, rfl⟩ := setSl_some h
  refine ⟨Prz.set h1, _, R.put (i := i) (u := u) (v := v) (fp := fp) (W := fun a => a ∈ fp) (W' := fun _ => False) (F' := F) (H' := H) (by rw [← R.len]; exact h2) (Ext.same fun a z => z.elim) (fun a m => ⟨(f a m).1, r.mb a m⟩)
    (fun j a _ m z => (f a z).2 ⟨j, m⟩) r n (fun a m => ⟨(f a m).1, .inl m⟩) R.al, fun a ⟨j, z⟩ => ?_⟩
  have z : a ∈ (if j = i then fp else own j) := z
  by_cases q : j = i
  · rw [if_pos q] at z; exact .inr z
  · rw [if_neg q] at z; exact .inl ⟨j, z⟩
theorem nm_w {K : PySem.W.Frag} {i : Nat} {u : V} {σ : L2.St} {H : Hp} {Q : L2.St → Hp → Prop} (h : tG K ca c (.nm i) u σ H Q) : gName i u σ H Q := by
  obtain ⟨w, e, F, own, fp, e', R, vr, n, f, h, q⟩ := h
  obtain ⟨p, own', R', o'⟩ := R.sets vr n f (show setSl c e i w = some e' from h)
  exact q _ own' p Only.set R' o'
theorem g_nm {i : Nat} {nm : Str} (hN : X.N.Nodup) (hi : X.N[i]? = some nm) (hx : Loc X.env.scope nm) (hf : X.fn nm = true ∨ X.env.scope.names.lookup nm = some .local) : PG X (.Name nm pos) (tG X.K ca c (.nm i)) := by
  have g : PG X (.Name nm pos) (gName i) := pg_name hN hi hx hf
  exact ⟨fun pins s σ H v u Q I r h => g.run pins s σ H v u Q I r (nm_w h)⟩
theorem gs_nil : PGs X [] (tGs X.K ca c []) := by
  refine ⟨fun pins s σ H vs us Q I r ⟨ds, e, F, own, e', R, d, h, q⟩ => pgs_nil.run pins s σ H vs us Q I r ?_⟩
  cases ds with
  | nil =>
    cases d
    cases h
    exact ⟨rfl, q σ own .refl ⟨rfl, fun _ _ => rfl⟩ R fun _ z => z⟩
  | cons _ _ => cases h
theorem gs_cons {es : List Expr} {t : Tgt} {ts : List Tgt} (h1 : PG X x (tG X.K ca c t)) (h2 : PGs X es (tGs X.K ca c ts)) (hs : (assignEach (x :: es) X.env).map (·.2) = assign x X.env :: (assignEach es X.env).map (·.2)) : PGs X (x :: es) (tGs X.K ca c (t :: ts)) := by
  refine ⟨fun pins s σ H vs us Q I r ⟨ds, e, F, own, e', R, d, h, q⟩ => (pgs_cons h1 h2 hs).run pins s σ H vs us Q I r ?_⟩
  cases ds with
  | nil => cases h
  | cons x xs =>
    cases d with
    | @cons v vr _ _ d ds =>
      have h : (asg c t (.d x) e).bind (fun e1 => asgs c ts xs e1) = some e' := h
      obtain ⟨e1, h1, h2⟩ := Option.bind_eq_some_iff.mp h
      refine ⟨v, vr, rfl, .d x, e, F, own, [], e1, R, .d d, .nil, fun a m => (by cases m), h1, fun σ1 own1 p1 s1 R1 o1 => ?_⟩
      exact ⟨xs, e1, F, own1, e', R1, ds, h2, fun σ2 own2 p2 s2 R2 o2 => q σ2 own2 (p1.trans p2) (s1.trans s2) R2 fun a z => (o1 a (o2 a z)).elim id fun m => by cases m⟩
theorem asgs_len {ts : List Tgt} : ∀ {ds : List D} {e e' : Env}, asgs c ts ds e = some e' → ds.length = ts.length := by
  induction ts with
  | nil => intro ds e e' h; cases ds with
    | nil => rfl
    | cons _ _ => cases h
  | cons t ts ih =>
    intro ds e e' h
    cases ds with
    | nil => cases h
    | cons x xs =>
      have h : (asg c t (.d x) e).bind (fun e1 => asgs c ts xs e1) = some e' := h
      obtain ⟨e1, h1, h2⟩ := Option.bind_eq_some_iff.mp h
      rw [List.length_cons, List.length_cons, ih h2]
theorem g_tup {es : List Expr} {k : Nat} {ts : List Tgt} (hc : X.calm = true) (h : PGs X es (tGs X.K ca c ts)) (hn : (assignEach es X.env).length = ts.length) (hst : (assignEach es X.env).findIdx? (·.1) = none) : PG X (.Tuple es k pos) (tG X.K ca c (.tup ts)) := by
  refine ⟨fun pins s σ H v u Q I r ⟨w, e, F, own, fp, e', R, vr, n, f, h', q⟩ => (pg_tup hc h hn hst).run pins s σ H v u Q I r ?_⟩
  cases vr with
  | d d =>
    rename_i x
    cases x with
    | tuple ds =>
      obtain ⟨p, us, rfl, hp, dd⟩ := (SeeF.den d).tuple
      cases d with
      | tup h1 d1 =>
        rename_i us'
        have h' : asgs c ts ds e = some e' := h'
        exact ⟨p, us', rfl, h1, by rw [d1.len]; exact asgs_len h', ds, e, F, own, e', R, d1, h', fun σ' own' p s' R' o' => q σ' own' p s' R' fun a z => .inl (o' a z)⟩
    | _ => cases h'
  | ol _ _ => cases h'
  | od _ _ => cases h'
  | ex _ _ _ => cases h'
theorem set_w {K : PySem.W.Frag} {t : Tgt} {D : Ends} {σ : L2.St} {H : Hp} (h : tM K ca Wx c (.set t a) D σ H) : tI K ca Wx c a σ H fun u H1 => tG K ca c t u σ H1 D.nx := by
  obtain ⟨e, F, own, R, P⟩ := h
  exact sd_one (r := fun u H1 => tG K ca c t u σ H1 D.nx) R P fun va e2 u H2 F2 own2 fp R2 V2 N2 E2 P => by
    cases h1 : stow e2 va with
    | none => rw [h1] at P; exact P.elim
    | some q =>
      obtain ⟨v', e3⟩ := q
      rw [h1] at P
      dsimp only at P
      cases h2 : asg c t v' e3 with
      | none => rw [h2] at P; exact P.elim
      | some e4 =>
        rw [h2] at P
        obtain ⟨F3, own3, fp3, R3, r3, n3, f3, m3, E3⟩ := RV.stow R2 V2 h1
        refine ⟨v', e3, F3, own3, fp3, e4, R3, r3, n3, f3, h2, fun σ' own' p _ R' o' => P σ' H2 F3 own' p R' ?_⟩
        refine (E2.addT N2).trans ⟨E3.keep, E3.live, fun a z => ?_, E3.fr, E3.fr'⟩
        exact (o' a z).elim (E3.own a) fun m => .inl (.inr (m3 a m))
theorem s_set {t : Tgt} {y : Expr} (ha : PE X x (tI X.K ca Wx c a)) (hg : PG X y (tG X.K ca c t)) (hs : swapsWithSole [y] x pos.line X.env = pure false) (hw : swappedStores [y] x X.env = pure none) (h1 : (assignEach [y] X.env).map (·.2) = [assign y X.env]) :
    PS X (.Assign [y] x pos) (tM X.K ca Wx c (.set t a)) :=
  (ps_asg ha hg hs hw h1).weak fun D σ H h => set_w h
end
end PM
end

section
set_option Elab.async false
set_option linter.all false
set_option maxRecDepth 100000
set_option maxHeartbeats 2000000
/-! PMLc: what is walked; for, while; comprehensions. -/
namespace PM
open PySem PySem.Spec PyProof.Rows L2
/-- J walks xs from H on, whatever is done to what is owned -/
structure Walk (K : PySem.W.Frag) (J : It) (xs : List D) (H : Hp) (F W : Fs) : Prop where
  go : ∀ i H1 F1 W1, Ext H F W H1 F1 W1 → i < xs.length → J.go i H1
  stop : ∀ i H1 F1 W1, Ext H F W H1 F1 W1 → xs.length ≤ i → J.stop i H1
  yld : ∀ i x v H1 F1 W1 H2, Ext H F W H1 F1 W1 → xs[i]? = some x → J.yld i H1 v H2 → Den K H2 F1 v x ∧ (H2 = H1 ∨ ∃ p o, H1 p = none ∧ H2 = upd H1 p o)
section
variable {K : PySem.W.Frag} {ca : Str → Option Addr} {Wx : Wish} {c : Ctx} {σ σ1 : L2.St} {e e' : Env} {H H' H1 H2 : Hp} {F F' F1 F2 W W' W1 : Fs} {own own1 own2 : Nat → List Addr} {D' : Ends}
theorem Walk.list (w : Wok H F W) {a : Addr} {us : List V} {ds : List D} (h : FzL H F a us) (d : Dens K H F us ds) : Walk K (Itl K a) ds H F W where
  go := fun i H1 F1 W1 E l => ⟨us, us[i]'(by rw [d.len]; exact l), (h.ext E w).sq, by simp⟩
  stop := fun i H1 F1 W1 E l => ⟨us, (h.ext E w).sq, by rw [d.len]; exact l⟩
  yld := fun i x v H1 F1 W1 H2 E l y => by
    obtain ⟨rfl, y⟩ := y
    obtain ⟨u, hu, du⟩ := (d.ext E w).get l
    have := y us (h.ext E w).sq
    rw [hu] at this
    cases this
    exact ⟨du, .inl rfl⟩
theorem Walk.tup (w : Wok H F W) {a : Addr} {us : List V} {ds : List D} (h : SqT K H a us) (d : Dens K H F us ds) : Walk K (Itt K a) ds H F W where
  go := fun i H1 F1 W1 E l => ⟨us, us[i]'(by rw [d.len]; exact l), SqT.ext E w h, by simp⟩
  stop := fun i H1 F1 W1 E l => ⟨us, SqT.ext E w h, by rw [d.len]; exact l⟩
  yld := fun i x v H1 F1 W1 H2 E l y => by
    obtain ⟨rfl, y⟩ := y
    obtain ⟨u, hu, du⟩ := (d.ext E w).get l
    have := y us (SqT.ext E w h)
    rw [hu] at this
    cases this
    exact ⟨du, .inl rfl⟩
theorem Walk.str {z : Str} : Walk K (Its z) (signsD z) H F W where
  go := fun i H1 F1 W1 E l => show i < z.cps.size by simpa [signsD] using l
  stop := fun i H1 F1 W1 E l => show z.cps.size ≤ i by simpa [signsD] using l
  yld := fun i x v H1 F1 W1 H2 E l y => by
    obtain ⟨rfl, n, hn, rfl⟩ := y
    have l : (z.cps.toList.map fun c => PyData.str ⟨#[c]⟩)[i]? = some x := l
    rw [List.getElem?_map, Array.getElem?_toList, hn] at l
    cases l
    exact ⟨.str _, .inl rfl⟩
theorem rangeV_get (n : Nat) : ∀ (lo : Int) (i : Nat), (rangeV lo n)[i]? = if i < n then some (.int (lo + i)) else none := by
  induction n with
  | zero => intro lo i; simp [rangeV]
  | succ n ih =>
    intro lo i
    cases i with
    | zero => simp [rangeV]
    | succ i =>
      simp only [rangeV, List.getElem?_cons_succ, ih]
      by_cases h : i < n
      · simp [h]; omega
      · simp [h]
theorem rangeV_len (n : Nat) : ∀ (lo : Int), (rangeV lo n).length = n := by
  induction n with
  | zero => intro lo; rfl
  | succ n ih => intro lo; simp [rangeV, ih]
theorem Walk.rng {lo : Int} {n : Nat} : Walk K (Itr lo n) (rangeV lo n) H F W where
  go := fun i H1 F1 W1 E l => by rw [rangeV_len] at l; exact l
  stop := fun i H1 F1 W1 E l => by rw [rangeV_len] at l; exact l
  yld := fun i x v H1 F1 W1 H2 E l y => by
    obtain ⟨rfl, rfl⟩ := y
    rw [rangeV_get] at l
    split at l
    · cases l; exact ⟨.int _, .inl rfl⟩
    · cases l
theorem enumV_get : ∀ (xs : List D) (k i : Nat), (enumV k xs)[i]? = (xs[i]?).map fun x => .tuple [.int ((k + i : Nat) : Int), x]
  | [], k, i => by simp [enumV]
  | x :: xs, k, 0 => by simp [enumV]
  | x :: xs, k, i + 1 => by
    simp only [enumV, List.getElem?_cons_succ, enumV_get xs (k + 1) i]
    rw [show k + 1 + i = k + (i + 1) by omega]
theorem enumV_len : ∀ (xs : List D) (k : Nat), (enumV k xs).length = xs.length
  | [], k => rfl
  | x :: xs, k => by simp [enumV, enumV_len xs]
theorem Walk.enum (w : Wok H F W) {a : Addr} {us : List V} {ds : List D} (h : FzL H F a us) (d : Dens K H F us ds) : Walk K (Ite K a) (enumV 0 ds) H F W where
  go := fun i H1 F1 W1 E l => by
    rw [enumV_len] at l
    exact ⟨us, us[i]'(by rw [d.len]; exact l), (h.ext E w).sq, by simp⟩
  stop := fun i H1 F1 W1 E l => by
    rw [enumV_len] at l
    exact ⟨us, (h.ext E w).sq, by rw [d.len]; exact l⟩
  yld := fun i x v H1 F1 W1 H2 E l y => by
    obtain ⟨T, x', rfl, hT, rfl, y⟩ := y
    rw [enumV_get] at l
    obtain ⟨z, hz, rfl⟩ := Option.map_eq_some_iff.mp l
    obtain ⟨u, hu, du⟩ := (d.ext E w).get hz
    have := y us (h.ext E w).sq
    rw [hu] at this
    cases this
    refine ⟨.tup (.inl (.inl upd_same)) (.cons ?_ (.cons (du.alloc hT) .nil)), .inr ⟨T, _, hT, rfl⟩⟩
    rw [Nat.zero_add]
    exact .int _
theorem zipV_get : ∀ (xs ys : List D) (i : Nat) (z : D), (zipV xs ys)[i]? = some z → ∃ x y, xs[i]? = some x ∧ ys[i]? = some y ∧ z = .tuple [x, y]
  | [], _, i, z, h => by simp [zipV] at h
  | _ :: _, [], i, z, h => by simp [zipV] at h
  | x :: xs, y :: ys, 0, z, h => ⟨x, y, rfl, rfl, (Option.some.inj h).symm⟩
  | x :: xs, y :: ys, i + 1, z, h => zipV_get xs ys i z h
theorem zipV_len : ∀ (xs ys : List D), (zipV xs ys).length = min xs.length ys.length
  | [], _ => by simp [zipV]
  | _ :: _, [] => by simp [zipV]
  | x :: xs, y :: ys => by simp [zipV, zipV_len xs ys]
theorem Walk.zip (w : Wok H F W) {a b : Addr} {us vs : List V} {ds es : List D} (h : FzL H F a us) (d : Dens K H F us ds) (g : FzL H F b vs) (f : Dens K H F vs es) : Walk K (Itz K a b) (zipV ds es) H F W where
  go := fun i H1 F1 W1 E l => by
    rw [zipV_len] at l
    exact ⟨us, vs, us[i]'(by rw [d.len]; omega), vs[i]'(by rw [f.len]; omega), (h.ext E w).sq, (g.ext E w).sq, by simp, by simp⟩
  stop := fun i H1 F1 W1 E l => by
    rw [zipV_len] at l
    exact ⟨us, vs, (h.ext E w).sq, (g.ext E w).sq, by rw [d.len, f.len]; omega⟩
  yld := fun i x v H1 F1 W1 H2 E l y => by
    obtain ⟨T, x', y', rfl, hT, rfl, y1, y2⟩ := y
    obtain ⟨p, q, hp, hq, rfl⟩ := zipV_get _ _ _ _ l
    obtain ⟨u, hu, du⟩ := (d.ext E w).get hp
    obtain ⟨u', hu', du'⟩ := (f.ext E w).get hq
    have z1 := y1 us (h.ext E w).sq
    have z2 := y2 vs (g.ext E w).sq
    rw [hu] at z1
    rw [hu'] at z2
    cases z1
    cases z2
    exact ⟨.tup (.inl (.inl upd_same)) (.cons (du.alloc hT) (.cons (du'.alloc hT) .nil)), .inr ⟨T, _, hT, rfl⟩⟩
theorem Walk.zipT (w : Wok H F W) {a b : Addr} {us vs : List V} {ds es : List D} (h : SqT K H a us) (d : Dens K H F us ds) (g : SqT K H b vs) (f : Dens K H F vs es) : Walk K (RZ.ItzT K a b) (zipV ds es) H F W where
  go := fun i H1 F1 W1 E l => by
    rw [zipV_len] at l
    exact ⟨us, vs, us[i]'(by rw [d.len]; omega), vs[i]'(by rw [f.len]; omega), SqT.ext E w h, SqT.ext E w g, by simp, by simp⟩
  stop := fun i H1 F1 W1 E l => by
    rw [zipV_len] at l
    exact ⟨us, vs, SqT.ext E w h, SqT.ext E w g, by rw [d.len, f.len]; omega⟩
  yld := fun i x v H1 F1 W1 H2 E l y => by
    obtain ⟨T, x', y', rfl, hT, rfl, y1, y2⟩ := y
    obtain ⟨p, q, hp, hq, rfl⟩ := zipV_get _ _ _ _ l
    obtain ⟨u, hu, du⟩ := (d.ext E w).get hp
    obtain ⟨u', hu', du'⟩ := (f.ext E w).get hq
    have z1 := y1 us (SqT.ext E w h)
    have z2 := y2 vs (SqT.ext E w g)
    rw [hu] at z1
    rw [hu'] at z2
    cases z1
    cases z2
    exact ⟨.tup (.inl (.inl upd_same)) (.cons (du.alloc hT) (.cons (du'.alloc hT) .nil)), .inr ⟨T, _, hT, rfl⟩⟩
end
/-- the reading of what is walked -/
def tW (K : PySem.W.Frag) (ca : Str → Option Addr) (Wx : Wish) (c : Ctx) (m : MI) : L2.TI := fun σ H R => ∃ e F own, Rel K ca σ H e F own ∧
  PR (evi c m e) (fun xs e' => ∀ J H' F' own', Rel K ca σ H' e' F' own' → Ext H F (Ow own) H' F' (Ow own') → Walk K J xs H' F' (Ow own') → R J H') (QX K ca Wx σ H F (Ow own))
section
variable {X : Cx} {ca : Str → Option Addr} {Wx : Wish} {c : Ctx} {x y z tg : Expr} {a b d : ME} {pos : Pos} {st : Stmt} {sts : List Stmt} {m : MS} {ms : List MS}
theorem pi_weak {t t' : L2.TI} (h : PI X tg x t) (w : ∀ σ H R, t' σ H R → t σ H R) : PI X tg x t' := ⟨fun pins s σ H R I q => h.run pins s σ H R I (w σ H R q)⟩
abbrev iAny (K : PySem.W.Frag) (te : TE) : L2.TI := fun σ H R => te σ H fun v H1 => (∃ a xs, v = .ref a ∧ SqL K H1 a xs ∧ R (Itl K a) H1) ∨ (∃ a xs, v = .ref a ∧ SqT K H1 a xs ∧ R (Itt K a) H1) ∨ ∃ z, v = .str z ∧ R (Its z) H1
theorem pi_any {te : TE} (he : PE X x te) : PI X tg x (iAny X.K te) := by
  refine ⟨fun pins s σ H R I h => ?_⟩
  refine thn (he.run pins s σ H _ I h) fun v s1 ⟨y, H1, I1, r1, q1⟩ => ?_
  rcases q1 with ⟨a, xs, rfl, hq, q⟩ | ⟨a, xs, rfl, hq, q⟩ | ⟨z, rfl, q⟩
  · cases r1
    obtain ⟨its, rv, p, hz⟩ := I1.list hq
    refine wpAny_pyIter_list p.isList ?_
    refine ⟨s1.heap.objs.size, [s1.heap.objs.size], _, _, H1, rfl, I1.kept (t' := s1.toks) fun b o e => Heap.get?_push_of_some _ e, turn_list a _, ⟨_, Heap.get?_push_size _ rfl, rfl, rfl⟩, fun b hb => ?_, q⟩
    have e : b = s1.heap.objs.size := by simpa using hb
    subst e
    exact I1.fpOk (Nat.le_refl _) (I1.hok.fresh (Nat.le_refl _))
  · cases r1
    obtain ⟨its, rv, p, hz⟩ := I1.tuple hq
    refine wpAny_pyIter_tuple (show s1.heap.IsTuple a its.toArray from p) ?_
    refine ⟨s1.heap.objs.size, [s1.heap.objs.size], _, _, H1, rfl, I1.kept (t' := s1.toks) fun b o e => Heap.get?_push_of_some _ e, turn_tuple a _, ⟨_, Heap.get?_push_size _ rfl, rfl, rfl⟩, fun b hb => ?_, q⟩
    have e : b = s1.heap.objs.size := by simpa using hb
    subst e
    exact I1.fpOk (Nat.le_refl _) (I1.hok.fresh (Nat.le_refl _))
  · obtain ⟨t, rfl⟩ := r1
    cases ha : z.cps.all (· < 128)
    · exact wpAny_pyIter_wide ha (pi_one (tk := s1.toks) I1 _ (turn_str _ z t "str_iterator" (.inr rfl)) ⟨_, Heap.get?_push_size _ rfl, rfl, rfl⟩ q)
    · exact wpAny_pyIter_ascii ha (pi_one (tk := s1.toks) I1 _ (turn_str _ z t "str_ascii_iterator" (.inl rfl)) ⟨_, Heap.get?_push_size _ rfl, rfl, rfl⟩ q)
theorem w_seq (ha : PE X x (tI X.K ca Wx c a)) : PI X tg x (tW X.K ca Wx c (.seq a)) :=
  pi_weak (pi_any ha) fun σ H R ⟨e, F, own, RR, P⟩ => ⟨e, F, own, RR, (PR.bind P).mono (fun va e1 P u H1 F1 own1 fp R1 V1 N1 E1 => by
    cases h : walkV e1 va with
    | none => rw [h] at P; exact P.elim
    | some q =>
      obtain ⟨xs, e2⟩ := q
      rw [h] at P
      dsimp only at P
      have h : (PM.take e1 va).bind _ = some (xs, e2) := h
      obtain ⟨⟨z, e3⟩, hz, h⟩ := Option.bind_eq_some_iff.mp h
      obtain ⟨F3, own3, R3, D3, E3⟩ := V1.take R1 hz
      have E := (E1.addT N1).trans E3
      cases z with
      | list ds =>
        cases h
        cases D3 with
        | lst hf d => exact .inl ⟨_, _, rfl, hf.sq, P _ H1 F3 own3 R3 E (Walk.list R3.wok hf d)⟩
      | tuple ds =>
        cases h
        cases D3 with
        | tup hf d => exact .inr (.inl ⟨_, _, rfl, hf, P _ H1 F3 own3 R3 E (Walk.tup R3.wok hf d)⟩)
      | str t =>
        have h : (if t.length ≤ lineN then some (signsD t, e3) else none) = some (xs, e2) := h
        split at h
        · cases h
          cases D3 with
          | str => exact .inr (.inr ⟨_, rfl, P _ H1 F3 own3 R3 E Walk.str⟩)
        · cases h
      | _ => cases h) fun _ _ q => q⟩
theorem PR.one {a : ME} {e : Env} {k : List Val → Env → Prop} {kx : Ex → Env → Prop} (h : PR (ev c a e) (fun v e1 => k [v] e1) kx) : PR (evs c [a] e) k kx := by
  show PR ((ev c a e).bind fun v e1 => (Res.ok [] e1).bind fun vs e2 => .ok (v :: vs) e2) k kx
  cases q : ev c a e with
  | ok v e1 => rw [q] at h; exact h
  | ex x e1 => rw [q] at h; exact h
  | no => rw [q] at h; exact h
theorem PR.two {a b : ME} {e : Env} {k : List Val → Env → Prop} {kx : Ex → Env → Prop} (h : PR ((ev c a e).bind fun v e1 => (ev c b e1).bind fun u e2 => .ok (v, u) e2) (fun p e1 => k [p.1, p.2] e1) kx) : PR (evs c [a, b] e) k kx := by
  show PR ((ev c a e).bind fun v e1 => (evs c [b] e1).bind fun vs e2 => .ok (v :: vs) e2) k kx
  cases q : ev c a e with
  | ok v e1 =>
    rw [q] at h
    have h : PR ((ev c b e1).bind fun u e2 => .ok (v, u) e2) (fun p e1 => k [p.1, p.2] e1) kx := h
    show PR (((ev c b e1).bind fun u e2 => (Res.ok [] e2).bind fun vs e3 => .ok (u :: vs) e3).bind fun vs e2 => .ok (v :: vs) e2) k kx
    cases q2 : ev c b e1 with
    | ok u e2 => rw [q2] at h; exact h
    | ex x e1 => rw [q2] at h; exact h
    | no => rw [q2] at h; exact h
  | ex x e1 => rw [q] at h; exact h
  | no => rw [q] at h; exact h
theorem RVs.ints1 {K : PySem.W.Frag} {H : Hp} {F W : Fs} {σ : L2.St} {e : Env} {own : Nat → List Addr} {us : List V} {i : Int} {fp : List Addr} (R : Rel K ca σ H e F own) (h : RVs K ca σ H F W us [.d (.int i)] fp) : us = [.int i] := by
  cases h with
  | cons h r d =>
    cases r
    rw [(h.seeF R (x := .int i) rfl).int]
theorem w_rng1 {p : Pos} (hg : Gl X "range") (hm : X.mg "range" = none) (ha : PA X [x] (tIs X.K ca Wx c [a])) (hs : starEach [x] X.env = [(false, eval x X.env)]) : PI X tg (.Call (.Name "range" p) [x] [] pos) (tW X.K ca Wx c (.rng1 a)) :=
  pi_weak (pi_range1 hg hm ha hs) fun σ H R ⟨e, F, own, RR, P⟩ => ⟨e, F, own, RR, PR.one ((PR.bind P).mono (fun v e1 P us H1 F1 own1 fp R1 V1 N1 E1 => by
    cases v with
    | d q =>
      cases q with
      | int j =>
        have P : PR (if -(2 ^ 62) ≤ j ∧ j < 2 ^ 62 then Res.ok (rangeV 0 j.toNat) e1 else .no) _ _ := P
        split at P
        · rename_i q
          exact ⟨j, V1.ints1 R1, q.1, q.2, P _ H1 F1 own1 R1 E1 Walk.rng⟩
        · exact P.elim
      | _ => exact P.elim
    | _ => exact P.elim) fun _ _ q => q)⟩
theorem w_rng2 {p : Pos} (hg : Gl X "range") (hm : X.mg "range" = none) (ha : PA X [x, y] (tIs X.K ca Wx c [a, b])) (hs : starEach [x, y] X.env = [(false, eval x X.env), (false, eval y X.env)]) (hs2 : starEach [y] X.env = [(false, eval y X.env)]) :
    PI X tg (.Call (.Name "range" p) [x, y] [] pos) (tW X.K ca Wx c (.rng2 a b)) :=
  pi_weak (pi_range2 hg hm ha hs hs2) fun σ H R ⟨e, F, own, RR, P⟩ => ⟨e, F, own, RR, PR.two (by
    have P : PR ((ev c a e).bind fun v e1 => (ev c b e1).bind fun u e2 => match v, u with
      | .d (.int i), .d (.int j) => if -(2 ^ 62) ≤ i ∧ i < 2 ^ 62 ∧ -(2 ^ 62) ≤ j ∧ j < 2 ^ 62 then .ok (rangeV i (j - i).toNat) e2 else .no
      | _, _ => .no) _ _ := P
    cases q1 : ev c a e with
    | no => rw [q1] at P; exact P.elim
    | ex _ _ => rw [q1] at P; exact P
    | ok v e1 =>
      rw [q1] at P
      show PR ((ev c b e1).bind fun u e2 => .ok (v, u) e2) _ _
      have P : PR ((ev c b e1).bind fun u e2 => match v, u with
        | .d (.int i), .d (.int j) => if -(2 ^ 62) ≤ i ∧ i < 2 ^ 62 ∧ -(2 ^ 62) ≤ j ∧ j < 2 ^ 62 then .ok (rangeV i (j - i).toNat) e2 else .no
        | _, _ => .no) _ _ := P
      cases q2 : ev c b e1 with
      | no => rw [q2] at P; exact P.elim
      | ex _ _ => rw [q2] at P; exact P
      | ok u e2 =>
        rw [q2] at P
        intro us H1 F1 own1 fp R1 V1 N1 E1
        cases v with
        | d p =>
          cases p with
          | int i =>
            cases u with
            | d p =>
              cases p with
              | int j =>
                have P : PR (if -(2 ^ 62) ≤ i ∧ i < 2 ^ 62 ∧ -(2 ^ 62) ≤ j ∧ j < 2 ^ 62 then Res.ok (rangeV i (j - i).toNat) e2 else .no) _ _ := P
                split at P
                · rename_i q
                  refine ⟨i, j, ?_, q, P _ H1 F1 own1 R1 E1 Walk.rng⟩
                  cases V1 with
                  | cons h r d =>
                    rw [(h.seeF R1 (x := .int i) rfl).int, r.ints1 R1]
                · exact P.elim
              | _ => exact P.elim
            | _ => exact P.elim
          | _ => exact P.elim
        | _ => exact P.elim)⟩
theorem w_enum {p tpos : Pos} {elts : List Expr} {kk : Nat} (hg : Gl X "enumerate") (hm : X.mg "enumerate" = none) (ha : PA X [x] (tIs X.K ca Wx c [a])) (hs : starEach [x] X.env = [(false, eval x X.env)]) :
    PI X (.Tuple elts kk tpos) (.Call (.Name "enumerate" p) [x] [] pos) (tW X.K ca Wx c (.enum a)) :=
  pi_weak (pi_enum hg hm ha hs) fun σ H R ⟨e, F, own, RR, P⟩ => ⟨e, F, own, RR, PR.one ((PR.bind P).mono (fun v e1 P us H1 F1 own1 fp R1 V1 N1 E1 => by
    cases h : walkL e1 v with
    | none => rw [h] at P; exact P.elim
    | some q =>
      obtain ⟨xs, e2⟩ := q
      rw [h] at P
      dsimp only at P
      have h : (PM.take e1 v).bind _ = some (xs, e2) := h
      obtain ⟨⟨z, e3⟩, hz, h⟩ := Option.bind_eq_some_iff.mp h
      cases V1 with
      | cons h1 r d =>
        cases r
        obtain ⟨F3, own3, R3, D3, E3⟩ := h1.take R1 hz
        rw [List.append_nil] at N1
        have E := (E1.addT N1).trans E3
        cases z with
        | list ds =>
          cases h
          cases D3 with
          | lst hf d => exact ⟨_, _, rfl, hf.sq, P _ H1 F3 own3 R3 E (Walk.enum R3.wok hf d)⟩
        | _ => cases h) fun _ _ q => q)⟩
theorem w_zip {p tpos : Pos} {elts : List Expr} {kk : Nat} (hg : Gl X "zip") (hm : X.mg "zip" = none) (ha : PA X [x, y] (tIs X.K ca Wx c [a, b])) (hs : starEach [x, y] X.env = (false, eval x X.env) :: starEach [y] X.env)
    (hpl : (backTo pos (starEach [y] X.env)).any (·.1) = false) : PI X (.Tuple elts kk tpos) (.Call (.Name "zip" p) [x, y] [] pos) (tW X.K ca Wx c (.zip a b)) :=
  pi_weak (RZ.pi_zipA hg hm ha hs hpl) fun σ H R ⟨e, F, own, RR, P⟩ => ⟨e, F, own, RR, PR.two (by
    have P : PR ((ev c a e).bind fun v e1 => (ev c b e1).bind fun u e2 => match takes e2 [v, u] with
      | some ([.list xs, .list ys], e3) => .ok (zipV xs ys) e3
      | some ([.tuple xs, .tuple ys], e3) => .ok (zipV xs ys) e3
      | _ => .no) _ _ := P
    cases q1 : ev c a e with
    | no => rw [q1] at P; exact P.elim
    | ex _ _ => rw [q1] at P; exact P
    | ok v e1 =>
      rw [q1] at P
      show PR ((ev c b e1).bind fun u e2 => .ok (v, u) e2) _ _
      have P : PR ((ev c b e1).bind fun u e2 => match takes e2 [v, u] with
        | some ([.list xs, .list ys], e3) => .ok (zipV xs ys) e3
        | some ([.tuple xs, .tuple ys], e3) => .ok (zipV xs ys) e3
        | _ => .no) _ _ := P
      cases q2 : ev c b e1 with
      | no => rw [q2] at P; exact P.elim
      | ex _ _ => rw [q2] at P; exact P
      | ok u e2 =>
        rw [q2] at P
        intro us H1 F1 own1 fp R1 V1 N1 E1
        have P : PR (match takes e2 [v, u] with
          | some ([.list xs, .list ys], e3) => .ok (zipV xs ys) e3
          | some ([.tuple xs, .tuple ys], e3) => .ok (zipV xs ys) e3
          | _ => .no) _ _ := P
        split at P
        · rename_i xs ys e3 ht
          obtain ⟨F3, own3, R3, D3, E3⟩ := V1.takes R1 ht
          have E := (E1.addT N1).trans E3
          cases D3 with
          | cons d1 r =>
            cases r with
            | cons d2 r =>
              cases r
              cases d1 with
              | lst f1 d1 =>
                cases d2 with
                | lst f2 d2 => exact ⟨_, _, _, _, rfl, .inl ⟨f1.sq, f2.sq, P _ H1 F3 own3 R3 E (Walk.zip R3.wok f1 d1 f2 d2)⟩⟩
        · rename_i xs ys e3 ht
          obtain ⟨F3, own3, R3, D3, E3⟩ := V1.takes R1 ht
          have E := (E1.addT N1).trans E3
          cases D3 with
          | cons d1 r =>
            cases r with
            | cons d2 r =>
              cases r
              cases d1 with
              | tup f1 d1 =>
                cases d2 with
                | tup f2 d2 => exact ⟨_, _, _, _, rfl, .inr ⟨f1, f2, P _ H1 F3 own3 R3 E (Walk.zipT R3.wok f1 d1 f2 d2)⟩⟩
        · exact P.elim)⟩

/-! ### for -/
theorem Rel.step {K : PySem.W.Frag} {σ : L2.St} {H H2 : Hp} {F : Fs} {e : Env} {own : Nat → List Addr} (R : Rel K ca σ H e F own) (h : H2 = H ∨ ∃ p o, H p = none ∧ H2 = upd H p o) : Rel K ca σ H2 e F own ∧ Ext H F (Ow own) H2 F (Ow own) := by
  rcases h with rfl | ⟨p, o, hp, rfl⟩
  · exact ⟨R, .refl⟩
  · exact ⟨R.alloc hp, .alloc hp⟩
theorem s_for {iter : Expr} {body : List Stmt} {it : MI} {t : Tgt} (hp : PassesOwn (model X.prog X.w) X.A X.env X.xe) (hc : X.calm = true) (hi : PI X tg iter (tW X.K ca Wx c it)) (hg : PG X tg (tG X.K ca c t)) (hb : PSs X body (tMs X.K ca Wx c ms))
    (hs : ∀ x, foldedSetIterable iter X.env x = pure x) : PS X (.For tg iter body [] pos) (tM X.K ca Wx c (.for_ t it ms)) :=
  (ps_for hp hc hi hg hb hs).weak fun D σ H ⟨e, F, own, R, P⟩ => by
    refine ⟨e, F, own, R, (PR.bind P).mono (fun xs e1 P J H1 F1 own1 R1 E1 w => ?_) fun _ _ q => q.toX⟩
    refine ⟨fun i m σ2 H2 => m = xs.length - i ∧ i ≤ xs.length ∧ ∃ e2 F2 own2, Rel X.K ca σ2 H2 e2 F2 own2 ∧ Prz c σ σ2 ∧ Ext H1 F1 (Ow own1) H2 F2 (Ow own2) ∧
      GoF X.K ca Wx c σ H F (Ow own) D (forL (fun x e2 => match asg c t (.d x) e2 with
        | some e3 => exs c ms e3
        | none => .no) (xs.drop i) e2), ⟨xs.length, by simp, Nat.zero_le _, e1, F1, own1, R1, .refl, .refl, by rw [List.drop_zero]; exact P⟩, ?_⟩
    rintro i m σ2 H2 ⟨rfl, hi, e2, F2, own2, R2, p2, E2, P2⟩
    by_cases hlt : i < xs.length
    · rw [List.drop_eq_getElem_cons hlt] at P2
      refine .inr ⟨w.go i H2 F2 _ E2 hlt, fun σ' H' => ∃ e2 F2 own2, Rel X.K ca σ' H' e2 F2 own2 ∧ Prz c σ σ' ∧ Ext H1 F1 (Ow own1) H' F2 (Ow own2) ∧
        GoF X.K ca Wx c σ H F (Ow own) D (forL (fun x e2 => match asg c t (.d x) e2 with
          | some e3 => exs c ms e3
          | none => .no) (xs.drop (i + 1)) e2), fun σ' H' q => ⟨xs.length - (i + 1), by omega, rfl, hlt, q⟩, fun v H3 y => ?_⟩
      obtain ⟨dv, hst⟩ := w.yld i _ v H2 F2 _ H3 E2 (List.getElem?_eq_getElem hlt) y
      obtain ⟨R3, E3⟩ := R2.step hst
      have P3 : PR (match asg c t (.d xs[i]) e2 with
        | some e3 => exs c ms e3
        | none => .no) _ _ := PR.bind P2
      cases ha : asg c t (.d xs[i]) e2 with
      | none => rw [ha] at P3; exact P3.elim
      | some e3 =>
        rw [ha] at P3
        refine ⟨.d xs[i], e2, F2, own2, [], e3, R3, .d dv, .nil, fun a m => (by cases m), ha, fun σ4 own4 p4 _ R4 o4 => ?_⟩
        have E4 : Ext H1 F1 (Ow own1) H3 F2 (Ow own4) := (E2.trans E3).trans (Ext.same fun a z => (o4 a z).imp id fun m => by cases m)
        have E5 := E1.trans E4
        refine ⟨e3, F2, own4, R4, PR.mono P3 (fun fl e5 P5 => ?_) fun _ _ q => q.shift (p2.trans p4) E5⟩
        cases fl with
        | nx => exact fun σ' H' F' own' p' R' E' => ⟨e5, F', own', R', (p2.trans p4).trans p', E4.trans E', P5⟩
        | ct => exact fun σ' H' F' own' p' R' E' => ⟨e5, F', own', R', (p2.trans p4).trans p', E4.trans E', P5⟩
        | bk => exact fun σ' H' F' own' p' R' E' => (show QF X.K ca c σ H F (Ow own) D .nx e5 from P5) σ' H' F' own' ((p2.trans p4).trans p') R' (E5.trans E')
        | ret v => exact (show QF X.K ca c σ H F (Ow own) D (.ret v) e5 from P5).shift (p2.trans p4) E5
    · have e : i = xs.length := by omega
      subst e
      rw [List.drop_length] at P2
      exact .inl ⟨w.stop _ H2 F2 _ E2 (Nat.le_refl _), (show QF X.K ca c σ H F (Ow own) D .nx e2 from P2) σ2 H2 F2 own2 p2 R2 (E1.trans E2)⟩
theorem s_while {tt : Expr} {body : List Stmt} (hp : PassesOwn (model X.prog X.w) X.A X.env X.xe) (hc : PT X tt (tIt X.K ca Wx c a)) (hb : PSs X body (tMs X.K ca Wx c ms)) : PS X (.While tt body [] pos) (tM X.K ca Wx c (.while a ms)) :=
  (ps_while hp hc hb).weak fun D σ H ⟨e, F, own, R, P⟩ => by
    refine ⟨fun m σ2 H2 => ∃ e2 F2 own2, Rel X.K ca σ2 H2 e2 F2 own2 ∧ Prz c σ σ2 ∧ Ext H F (Ow own) H2 F2 (Ow own2) ∧
      GoF X.K ca Wx c σ H F (Ow own) D (whileL (fun e1 => (ev c a e1).bind fun v e2 => opt ((see e2 v).bind truD) e2) (fun e1 => exs c ms e1) m e2), ⟨whileFuel, e, F, own, R, .refl, .refl, P⟩, ?_⟩
    rintro m σ2 H2 ⟨e2, F2, own2, R2, p2, E2, P2⟩
    cases m with
    | zero => exact P2.elim
    | succ m =>
      have P3 := PR.bind P2
      refine ⟨e2, F2, own2, R2, (PR.bind P3).mono (fun v e3 P4 => ?_) fun _ _ q => (q.shift p2 E2).toX⟩
      obtain ⟨k, hk, P5⟩ := PR.opt P4
      refine ⟨k, hk, fun H3 F3 own3 R3 E3 => ?_⟩
      have E4 := E2.trans E3
      cases k with
      | false =>
        refine Eq.mpr (if_neg Bool.false_ne_true) ?_
        exact (show QF X.K ca c σ H F (Ow own) D .nx e3 from P5) σ2 H3 F3 own3 p2 R3 E4
      | true =>
        refine Eq.mpr (if_pos rfl) ?_
        refine ⟨fun σ' H' => ∃ e2 F2 own2, Rel X.K ca σ' H' e2 F2 own2 ∧ Prz c σ σ' ∧ Ext H F (Ow own) H' F2 (Ow own2) ∧
          GoF X.K ca Wx c σ H F (Ow own) D (whileL (fun e1 => (ev c a e1).bind fun v e2 => opt ((see e2 v).bind truD) e2) (fun e1 => exs c ms e1) m e2), fun σ' H' q => ⟨m, Nat.lt_succ_self m, q⟩, e3, F3, own3, R3, (PR.bind (show GoF X.K ca Wx c σ H F (Ow own) D ((exs c ms e3).bind _) from P5)).mono (fun fl e5 P6 => ?_) fun _ _ q => q.shift p2 E4⟩
        cases fl with
        | nx => exact fun σ' H' F' own' p' R' E' => ⟨e5, F', own', R', p2.trans p', E4.trans E', P6⟩
        | ct => exact fun σ' H' F' own' p' R' E' => ⟨e5, F', own', R', p2.trans p', E4.trans E', P6⟩
        | bk => exact fun σ' H' F' own' p' R' E' => (show QF X.K ca c σ H F (Ow own) D .nx e5 from P6) σ' H' F' own' (p2.trans p') R' (E4.trans E')
        | ret v => exact (show QF X.K ca c σ H F (Ow own) D (.ret v) e5 from P6).shift p2 E4
end
end PM
end

section
set_option Elab.async false
set_option linter.all false
set_option maxRecDepth 100000
set_option maxHeartbeats 2000000
/-! PMLc2: list comprehensions. -/
namespace PM
open PySem PySem.Spec PyProof.Rows L2
section
variable {K : PySem.W.Frag} {ca : Str → Option Addr} {Wx : Wish} {c : Ctx} {σ σ1 : L2.St} {e e' e1 e2 : Env} {H H' H1 H2 : Hp} {F F' F1 F2 W W' W1 : Fs} {own own1 own2 : Nat → List Addr} {is : List Nat}
theorem Rel.wipes : ∀ {is : List Nat}, Rel K ca σ H e F own → Rel K ca (wipe σ is) H (wipeE e is) F (fun j => if j ∈ is then [] else own j)
  | [], R => by simpa [wipe, wipeE] using R
  | i :: r, R => by
    have q := (Rel.wipes (is := r) R).unset (i := i) (o := none)
    have eo : (fun j => if j = i then [] else if j ∈ r then [] else own j) = fun j => if j ∈ i :: r then ([] : List Addr) else own j := by
      funext j
      by_cases h1 : j = i
      · simp [h1]
      · by_cases h2 : j ∈ r
        · simp [h2]
        · simp [h1, h2]
    rw [eo] at q
    exact q
theorem backE_len : ∀ {is : List Nat}, (backE e1 e2 is).length = e2.length
  | [] => rfl
  | i :: r => by unfold backE; rw [List.length_set, backE_len]
theorem getS_backE : ∀ {is : List Nat} {j : Nat}, getS (backE e1 e2 is) j = if j ∈ is ∧ j < e2.length then getS e1 j else getS e2 j
  | [], j => by simp [backE]
  | i :: r, j => by
    unfold backE
    rw [getS_set, getS_backE, backE_len]
    by_cases h1 : i = j
    · subst h1
      by_cases h2 : i < e2.length
      · simp [h2, getS]
      · simp [h2]
    · simp [h1, Ne.symm h1]
theorem VR.free {u : V} {v : Val} {fp : List Addr} (h : VR K ca H F u v fp) (o : owned v = false) : fp = [] := by
  cases h with
  | d _ => rfl
  | ex _ _ _ => rfl
  | ol _ _ => cases o
  | od _ _ => cases o
theorem Rel.unwipe (R1 : Rel K ca σ H1 e1 F1 own1) (E : Ext H1 F1 (Ow own1) H2 F2 (Ow own2)) (R2 : Rel K ca (wipe σ is) H2 e2 F2 own2) (hf : ∀ i ∈ is, own1 i = []) : Rel K ca σ H2 (backE e1 e2 is) F2 (fun j => if j ∈ is then [] else own2 j) where
  len := by rw [backE_len, R2.len, wipe_length]
  slot := fun j v h => by
    rw [getS_backE] at h
    by_cases q : j ∈ is
    · by_cases l : j < e2.length
      · rw [if_pos ⟨q, l⟩] at h
        obtain ⟨u, hu, r⟩ := R1.slot j v h
        have r2 := r.ext E R1.wok (fun a m => by rw [hf j q] at m; cases m)
        rw [hf j q] at r2
        rw [if_pos q]
        exact ⟨u, hu, r2⟩
      · rw [if_neg fun z => l z.2] at h
        exact absurd (getS_lt h) l
    · rw [if_neg fun z => q z.1] at h
      obtain ⟨u, hu, r⟩ := R2.slot j v h
      rw [if_neg q]
      exact ⟨u, (wipe_some hu).1, r⟩
  non := fun j h => by
    by_cases q : j ∈ is
    · exact if_pos q
    · rw [if_neg q]
      rw [getS_backE, if_neg fun z => q z.1] at h
      exact R2.non j h
  nd := fun j => by
    by_cases q : j ∈ is
    · rw [if_pos q]; exact .nil
    · rw [if_neg q]; exact R2.nd j
  dj := fun i j a m n => by
    by_cases q : i ∈ is
    · rw [if_pos q] at m; cases m
    · by_cases q' : j ∈ is
      · rw [if_pos q'] at n; cases n
      · rw [if_neg q] at m
        rw [if_neg q'] at n
        exact R2.dj i j a m n
  nf := fun i a m => by
    by_cases q : i ∈ is
    · rw [if_pos q] at m; cases m
    · rw [if_neg q] at m
      exact R2.nf i a m
  al := R2.al
theorem Ow.sub (a : Addr) (h : Ow (fun j => if j ∈ is then [] else own j) a) : Ow own a := by
  obtain ⟨j, m⟩ := h
  have m : a ∈ (if j ∈ is then [] else own j) := m
  by_cases q : j ∈ is
  · rw [if_pos q] at m; cases m
  · rw [if_neg q] at m; exact ⟨j, m⟩
/-- a new object of one's own is written -/
theorem Ext.updNew {D : Addr} {o : HO} (E : Ext H F W H1 F1 W1) (hD : H D = none) : Ext H F W (L2.upd H1 D o) F1 W1 where
  keep := fun a x h n => by
    have : a ≠ D := by rintro rfl; rw [hD] at h; cases h
    rw [upd_ne this]
    exact E.keep a x h n
  live := fun a h => by
    by_cases q : a = D
    · subst q; rw [upd_same] at h; cases h
    · rw [upd_ne q] at h; exact E.live a h
  own := E.own
  fr := E.fr
  fr' := E.fr'
theorem Rel.updM {D : Addr} {o : HO} (R : Rel K ca σ H e F own) (hD : Mb H D) (nF : ¬ F D) (nW : ¬ Ow own D) : Rel K ca σ (L2.upd H D o) e F own ∧ ∀ {ws : List V} {ds : List PM.D}, Dens K H F ws ds → Dens K (L2.upd H D o) F ws ds := by
  have E : Ext H F (fun a => a = D) (L2.upd H D o) F (fun _ => False) := (Ext.upd (W := fun a => a = D) rfl).widen (fun _ z => z) fun _ z => z.elim
  have w : Wok H F (fun a => a = D) := fun a z => by subst z; exact ⟨nF, hD⟩
  refine ⟨R.ext E w (fun j a m z => nW ⟨j, z ▸ m⟩) fun a f => ?_, fun {_ _} d => d.ext E w⟩
  by_cases q : a = D
  · subst q; rw [upd_same]; exact fun z => nomatch z
  · rw [upd_ne q]; exact R.al a f
theorem Rel.updD {D : Addr} {us vs : List V} (R : Rel K ca σ H e F own) (hD : H D = some (.lst us)) (nF : ¬ F D) (nW : ¬ Ow own D) : Rel K ca σ (L2.upd H D (.lst vs)) e F own ∧ ∀ {ws : List V} {ds : List PM.D}, Dens K H F ws ds → Dens K (L2.upd H D (.lst vs)) F ws ds :=
  R.updM (.inl ⟨_, hD⟩) nF nW
end
/-- the wish that nothing is raised -/
abbrev WxF : Wish := fun _ _ _ _ => False
/-- the readings of a comprehension's tests -/
def tTs (K : PySem.W.Frag) (ca : Str → Option Addr) (Wx : Wish) (c : Ctx) (cs : List ME) : TT := fun σ H Q => ∃ e F own, Rel K ca σ H e F own ∧
  PR (evt c cs e) (fun k e' => ∀ H' F' own', Rel K ca σ H' e' F' own' → Ext H F (Ow own) H' F' (Ow own') → Q k H') (QX K ca Wx σ H F (Ow own))
section
variable {X : Cx} {ca : Str → Option Addr} {Wx : Wish} {c : Ctx} {x y z tg : Expr} {a b d : ME} {pos : Pos}
theorem pts_weak {xs : List Expr} {t t' : TT} (h : PTs X xs t) (w : ∀ σ H Q, t' σ H Q → t σ H Q) : PTs X xs t' := ⟨fun pins s σ H Q I q => h.run pins s σ H Q I (w σ H Q q)⟩
theorem c_nil : PTs X [] (tTs X.K ca Wx c []) := pts_weak pts_nil fun σ H Q ⟨e, F, own, R, P⟩ => P H F own R .refl
theorem c_one (h : PT X x (tIt X.K ca Wx c a)) : PTs X [x] (tTs X.K ca Wx c [a]) := pts_weak (pts_one h) fun σ H Q ⟨e, F, own, R, P⟩ => ⟨e, F, own, R, by
  have P : PR ((ev c a e).bind fun v e1 => match (see e1 v).bind truD with
    | some true => .ok true e1
    | some false => .ok false e1
    | none => .no) _ _ := P
  exact (PR.bind P).mono (fun v e1 P => by
    cases h : (see e1 v).bind truD with
    | none => rw [h] at P; exact P.elim
    | some k =>
      rw [h] at P
      refine ⟨k, rfl, ?_⟩
      cases k <;> exact P) fun _ _ q => q⟩
/-- a turn of a comprehension -/
def lcStep (c : Ctx) (elt : ME) (t : Tgt) (cs : List ME) (own : List Nat) : D → Env → Res (Option D) := fun x e2 => match asg c t (.d x) e2 with
  | some e3 => (evt c cs e3).bind fun k e4 => if k = true then (ev c elt e4).bind fun v e5 => match take e5 v with
      | some (y, e6) => .ok (some y) (wipeE e6 own)
      | none => .no
    else .ok none (wipeE e4 own)
  | none => .no
theorem noEx_bind {α : Type} {r : Res α} {kx : Ex → Env → Prop} {f : α → Env → Res Val} {k' : Val → Env → Prop} (h : PR ((noEx r).bind f) k' kx) : ∃ a e, r = .ok a e ∧ PR (f a e) k' kx := by
  cases r with
  | ok a e => exact ⟨a, e, rfl, h⟩
  | ex _ _ => exact h.elim
  | no => exact h.elim
theorem bind_ok {α β : Type} {r : Res α} {f : α → Env → Res β} {b : β} {e : Env} (h : r.bind f = .ok b e) : ∃ a e1, r = .ok a e1 ∧ f a e1 = .ok b e := by
  cases r with
  | ok a e => exact ⟨a, e, rfl, h⟩
  | ex _ _ => cases h
  | no => cases h
theorem wipe_only {is js : List Nat} {σ σ' : L2.St} (h : Only js (wipe σ is) σ') (s : ∀ j ∈ js, j ∈ is) : wipe σ' is = wipe σ is := by
  have get : ∀ {is : List Nat} {σ : L2.St} {j : Nat}, (wipe σ is)[j]? = if j ∈ is ∧ j < σ.length then some none else σ[j]? := fun {is} => by
    induction is with
    | nil => intro σ j; simp [wipe]
    | cons i r ih =>
      intro σ j
      unfold wipe
      rw [List.getElem?_set, wipe_length, ih]
      by_cases h1 : i = j
      · subst h1
        by_cases h2 : i < σ.length
        · simp [h2]
        · simp [h2, List.getElem?_eq_none (Nat.le_of_not_lt h2)]
      · simp [h1, Ne.symm h1]
  apply List.ext_getElem?
  intro j
  have hl : σ'.length = σ.length := by rw [h.1, wipe_length]
  rw [get, get, hl]
  by_cases q : j ∈ is
  · by_cases l : j < σ.length
    · simp [q, l]
    · simp [l, List.getElem?_eq_none (Nat.le_of_not_lt l), List.getElem?_eq_none (Nat.le_of_not_lt (hl ▸ l : ¬ j < σ'.length))]
  · have := h.2 j fun z => q (s j z)
    rw [get] at this
    simp only [q, false_and, if_false] at this ⊢
    exact this
theorem lc_w {K : PySem.W.Frag} {it : MI} {t : Tgt} {cs : List ME} {el : ME} {is : List Nat} (htx : ∀ j ∈ tix t, j ∈ is) {σ : L2.St} {H : Hp} {Q : VK} (h : tI K ca Wx c (.lc el t it cs is) σ H Q) :
    tLc (tW K ca Wx c it) (tG K ca c t) (tTs K ca WxF c cs) (tI K ca WxF c el) is σ H Q := by
    obtain ⟨e, F, own, R, P⟩ := h
    refine ⟨e, F, own, R, (PR.bind P).mono (fun xs e1 P J H1 F1 own1 R1 E1 w D hD => ?_) fun _ _ q => q⟩
    split at P
    · rename_i hfree
      obtain ⟨ys, eE, hlp, P⟩ := noEx_bind P
      change lcLoop (lcStep c el t cs is) xs [] (wipeE e1 is) = .ok ys eE at hlp
      have nFD : ¬ F1 D := fun f => R1.al D f hD
      have nWD : ¬ Ow own1 D := fun f => (R1.wok D f).2.some hD
      have Rw := (R1.alloc (p := D) (o := .lst []) hD).wipes (is := is)
      refine ⟨fun i m H2 => m = xs.length - i ∧ i ≤ xs.length ∧ ∃ e2 F2 own2 acc us, Rel K ca (wipe σ is) H2 e2 F2 own2 ∧ H2 D = some (.lst us) ∧ Dens K H2 F2 us acc ∧ ¬ F2 D ∧ ¬ Ow own2 D ∧ Ext H1 F1 (Ow own1) H2 F2 (Ow own2) ∧
        lcLoop (lcStep c el t cs is) (xs.drop i) acc e2 = .ok ys eE, ⟨xs.length, by simp, Nat.zero_le _, wipeE e1 is, F1, _, [], [], Rw, upd_same, .nil, nFD, fun z => nWD (Ow.sub D z),
          (Ext.alloc hD).widen (fun _ z => z) fun a z => .inl (Ow.sub a z), by rw [List.drop_zero]; exact hlp⟩, ?_⟩
      rintro i m H2 ⟨rfl, hi, e2, F2, own2, acc, us, R2, hD2, d2, nF2, nW2, E2, l2⟩
      by_cases hlt : i < xs.length
      · rw [List.drop_eq_getElem_cons hlt] at l2
        obtain ⟨o, e6, hst, l3⟩ := bind_ok l2
        refine .inr ⟨w.go i H2 F2 _ E2 hlt, fun H' => ∃ e2 F2 own2 acc us, Rel K ca (wipe σ is) H' e2 F2 own2 ∧ H' D = some (.lst us) ∧ Dens K H' F2 us acc ∧ ¬ F2 D ∧ ¬ Ow own2 D ∧ Ext H1 F1 (Ow own1) H' F2 (Ow own2) ∧
          lcLoop (lcStep c el t cs is) (xs.drop (i + 1)) acc e2 = .ok ys eE, fun H' q => ⟨xs.length - (i + 1), by omega, rfl, hlt, q⟩, fun v H3 y => ?_⟩
        obtain ⟨dv, hh⟩ := w.yld i _ v H2 F2 _ H3 E2 (List.getElem?_eq_getElem hlt) y
        obtain ⟨R3, E3⟩ := R2.step hh
        have hst : (match asg c t (.d xs[i]) e2 with
          | some e3 => (evt c cs e3).bind fun k e4 => if k = true then (ev c el e4).bind fun v e5 => match take e5 v with
              | some (y, e6) => .ok (some y) (wipeE e6 is)
              | none => .no
            else .ok none (wipeE e4 is)
          | none => Res.no) = .ok o e6 := hst
        cases ha : asg c t (.d xs[i]) e2 with
        | none => rw [ha] at hst; cases hst
        | some e3 =>
          rw [ha] at hst
          obtain ⟨k, e4, hk, hst⟩ := bind_ok hst
          refine ⟨.d xs[i], e2, F2, own2, [], e3, R3, .d dv, .nil, fun a m => (by cases m), ha, fun σ4 own4 p4 s4 R4 o4 => ?_⟩
          have hw := wipe_only s4 htx
          refine ⟨hw, e3, F2, own4, R4, ?_⟩
          have E4 : Ext H2 F2 (Ow own2) H3 F2 (Ow own4) := E3.trans (Ext.same fun a z => (o4 a z).imp id fun m => by cases m)
          rw [hk]
          intro H5 F5 own5 R5 E5
          have E25 := E4.trans E5
          have kD : ∀ {H' F' own'}, Ext H2 F2 (Ow own2) H' F' (Ow own') → H' D = some (.lst us) ∧ ¬ F' D ∧ ¬ Ow own' D := fun {H' F' own'} E => ⟨E.keep _ _ hD2 nW2, fun f => (E.fr' D f).elim nF2 fun z => z.elim nW2 fun z => (by rw [hD2] at z; cases z),
            fun z => (E.own D z).elim nW2 fun z => by rw [hD2] at z; cases z⟩
          cases k with
          | false =>
            refine Eq.mpr (if_neg Bool.false_ne_true) ?_
            cases hst
            obtain ⟨q1, q2, q3⟩ := kD E25
            have Rz := R5.wipes (is := is)
            rw [hw] at Rz
            exact ⟨wipeE e4 is, F5, _, acc, us, Rz, q1, d2.ext E25 R2.wok, q2, fun z => q3 (Ow.sub D z), (E2.trans E25).trans (Ext.same fun a z => .inl (Ow.sub a z)), l3⟩
          | true =>
            refine Eq.mpr (if_pos rfl) ?_
            obtain ⟨vv, e5, hv, hst⟩ := bind_ok (show (ev c el e4).bind _ = .ok o e6 from hst)
            refine ⟨e4, F5, own5, R5, ?_⟩
            rw [hv]
            intro u H6 F6 own6 fp R6 V6 N6 E6
            have hst : (match take e5 vv with
              | some (y, e6) => Res.ok (some y) (wipeE e6 is)
              | none => Res.no) = .ok o e6 := hst
            cases htk : take e5 vv with
            | none => rw [htk] at hst; cases hst
            | some q =>
              obtain ⟨yy, e7⟩ := q
              rw [htk] at hst
              cases hst
              obtain ⟨F7, own7, R7, D7, E7⟩ := V6.take R6 htk
              have E27 := (E25.trans (E6.addT N6)).trans E7
              obtain ⟨q1, q2, q3⟩ := kD E27
              have l3 : (if acc.length < lineN then lcLoop (lcStep c el t cs is) (xs.drop (i + 1)) (acc ++ [yy]) (wipeE e7 is) else Res.no) = .ok ys eE := l3
              split at l3
              · rename_i hlen
                have dd := d2.ext E27 R2.wok
                have Rz := R7.wipes (is := is)
                rw [hw] at Rz
                have q3' : ¬ Ow (fun j => if j ∈ is then [] else own7 j) D := fun z => q3 (Ow.sub D z)
                obtain ⟨Rq, dq⟩ := Rz.updD (vs := us ++ [u]) q1 q2 q3'
                refine ⟨us, q1, by rw [d2.len]; exact hlen, wipeE e7 is, F7, _, acc ++ [yy], us ++ [u], Rq, upd_same, dq (dd.app (.cons D7 .nil)), q2, q3', ?_, l3⟩
                exact ((E2.trans E27).trans (Ext.same fun a z => .inl (Ow.sub a z))).updNew hD
              · cases l3
      · have hi' : i = xs.length := by omega
        subst hi'
        rw [List.drop_length] at l2
        cases l2
        refine .inl ⟨w.stop _ H2 F2 _ E2 (Nat.le_refl _), ?_⟩
        have hf : ∀ i ∈ is, own1 i = [] := fun i m => by
          have q := List.all_eq_true.mp hfree i m
          unfold lcFree at q
          cases h : getS e1 i with
          | none => exact R1.non i h
          | some v =>
            rw [h] at q
            obtain ⟨u, _, r⟩ := R1.slot i v h
            exact r.free (by simpa using (Bool.and_eq_true_iff.mp q).2)
        have Rb := R1.unwipe E2 R2 hf
        have nb : ¬ Ow (fun j => if j ∈ is then [] else own2 j) D := fun z => nW2 (Ow.sub D z)
        refine (show QV K ca σ H F (Ow own) Q (.ol (ys.map .d)) (backE e1 eE is) from P) (.ref D) H2 F2 _ [D] Rb (.val (.ol hD2 d2.vrs) (by simp) fun a m => ?_) (fun a m => ?_) (E1.trans (E2.trans (Ext.same fun a z => .inl (Ow.sub a z))))
        · rw [List.mem_singleton.mp m]; exact ⟨nF2, nb⟩
        · rw [List.mem_singleton.mp m]; exact .inr (E1.live D hD)
    · exact P.elim
theorem e_lc {elt iter : Expr} {ifs : List Expr} {scope : Scope} {ow : List (Str × Nat)} {it : MI} {t : Tgt} {cs : List ME} {el : ME} (htx : ∀ j ∈ tix t, j ∈ ow.map (·.2)) (hc : X.calm = true) (hN : X.N.Nodup) (hi : PI X tg iter (tW X.K ca Wx c it)) (ok : BlkOk X.N X.env.scope scope ow)
    (hg : ∀ (s : Shared) (H : Hp) (C : Addr) (cl : List (Str × Addr)) (fp : List Addr), PG (X.blk s H scope (compEnvC scope cl C X.env) fp) tg (tG X.K ca c t))
    (ht : ∀ (s : Shared) (H : Hp) (C : Addr) (cl : List (Str × Addr)) (fp : List Addr), PTs (X.blk s H scope (compEnvC scope cl C X.env) fp) ifs (tTs X.K ca WxF c cs))
    (he : ∀ (s : Shared) (H : Hp) (C : Addr) (cl : List (Str × Addr)) (fp : List Addr), PE (X.blk s H scope (compEnvC scope cl C X.env) fp) elt (tI X.K ca WxF c el)) (hs : ∀ x, foldedSetIterable iter X.env x = pure x) :
    PE X (.ListComp elt [⟨tg, iter, ifs, 0⟩] scope pos) (tI X.K ca Wx c (.lc el t it cs (ow.map (·.2)))) :=
  (pe_lc hc hN hi ok hg ht he hs).weak fun σ H Q h => lc_w htx h
/-- name = [..], the name a local told on the same line -/
theorem s_setLc {i : Nat} {y : Str} {py spos : Pos} {elt iter : Expr} {ifs : List Expr} {scope : Scope} {ow : List (Str × Nat)} {it : MI} {t : Tgt} {cs : List ME} {el : ME} (htx : ∀ j ∈ tix t, j ∈ ow.map (·.2)) (hc : X.calm = true) (hN : X.N.Nodup) (hy : X.N[i]? = some y) (hyl : X.env.scope.names.lookup y = some .local)
    (hsw : swapsWith (.ListComp elt [⟨tg, iter, ifs, 0⟩] scope pos) (some (.Name y py)) spos.line X.env = pure true) (hi : PI X tg iter (tW X.K ca Wx c it)) (ok : BlkOk X.N X.env.scope scope ow)
    (hg : ∀ (s : Shared) (H : Hp) (C : Addr) (cl : List (Str × Addr)) (fp : List Addr), PG (X.blk s H scope (compEnvC scope cl C X.env) fp) tg (tG X.K ca c t))
    (ht : ∀ (s : Shared) (H : Hp) (C : Addr) (cl : List (Str × Addr)) (fp : List Addr), PTs (X.blk s H scope (compEnvC scope cl C X.env) fp) ifs (tTs X.K ca WxF c cs))
    (he : ∀ (s : Shared) (H : Hp) (C : Addr) (cl : List (Str × Addr)) (fp : List Addr), PE (X.blk s H scope (compEnvC scope cl C X.env) fp) elt (tI X.K ca WxF c el)) (hs : ∀ x, foldedSetIterable iter X.env x = pure x) :
    PS X (.Assign [.Name y py] (.ListComp elt [⟨tg, iter, ifs, 0⟩] scope pos) spos) (tM X.K ca Wx c (.set (.nm i) (.lc el t it cs (ow.map (·.2))))) :=
  (ps_setLc hc hN hy hyl hsw hi ok hg ht he hs).weak fun D σ H h => by
    obtain ⟨e, F, own, R, P⟩ := set_w h
    exact lc_w htx ⟨e, F, own, R, P.mono (fun v e' q u H' F' own' fp R' V' N' E' => nm_w (q u H' F' own' fp R' V' N' E')) fun _ _ q => q⟩
end
end PM
end

section
set_option Elab.async false
set_option linter.all false
set_option maxRecDepth 100000
set_option maxHeartbeats 3200000
/-! PMSet: set(xs) of a list or tuple of texts, any number of them below 1000. -/
namespace PM
open PySem PySem.Spec PyProof.Rows L2
theorem mem_addS {acc : List Str} {x k : Str} : k ∈ addS acc x ↔ k ∈ acc ∨ k = x := by
  unfold addS
  split
  · rename_i h
    exact ⟨.inl, fun z => z.elim id fun e => e ▸ h⟩
  · simp
theorem ded_take {xs : List Str} {i : Nat} (h : i < xs.length) : dedS (xs.take (i + 1)) = addS (dedS (xs.take i)) (xs.getD i Str.empty) := by
  unfold dedS
  rw [List.take_add_one, List.getElem?_eq_getElem h, Option.toList_some, List.foldl_append, List.getD_eq_getElem?_getD, List.getElem?_eq_getElem h]
  rfl
theorem ded_len (xs : List Str) : (dedS xs).length ≤ xs.length := by
  have : ∀ (xs acc : List Str), (xs.foldl addS acc).length ≤ acc.length + xs.length := fun xs => by
    induction xs with
    | nil => intro acc; simp
    | cons x r ih =>
      intro acc
      refine Nat.le_trans (ih (addS acc x)) ?_
      unfold addS
      split <;> simp <;> omega
  simpa [dedS] using this xs []
section
variable {prog : Program} {w : World} {A : Around} {R : Result → Shared → Prop} {I : Addr} {fp wr : List Addr} {G : Array GenState → Array GenState → Prop} {n : Nat} {P : Nat → Value → Prop} {St : Nat → Shared → Prop}
abbrev TxAt (prog : Program) (w : World) (h : Heap) (S : Addr) (l : List Str) : Prop := h.SetOf (PySem.strKind prog w) S (fun k => decide (k ∈ l)) l.length
theorem TxAt.keep {h h' : Heap} {S : Addr} {l : List Str} (x : TxAt prog w h S l) (k : ∀ o, h.get? S = some o → h'.get? S = some o) : TxAt prog w h' S l := by
  obtain ⟨o, es, ep, t, ho, rest⟩ := x
  exact ⟨o, es, ep, t, k o ho, rest⟩
theorem fill_loop (W : WalksS prog w A.in1 I fp wr G n P St) (S : Addr) (hSf : S ∉ fp) (xs : List Str) (hsz : xs.length = n) (hn : n < 1000) (hval : ∀ i v, P i v → ∃ t, v = .str (xs.getD i Str.empty) t) :
    ∀ (k i : Nat) (s : Shared), n - i = k → i ≤ n → St i s → TxAt prog w s.heap S (dedS (xs.take i)) → (∀ s', Moved (S :: wr) G s s' → TxAt prog w s'.heap S (dedS xs) → R (.ok (.ret .none)) s') →
      codeAny (model prog w) A (.builtin "set.update.loop" ⟨[.ref S, .ref I], []⟩) R s := by
  have out : S ∉ wr := fun h => hSf (W.sub _ h)
  have more : ∀ b ∈ wr, b ∈ S :: wr := fun b hb => List.mem_cons_of_mem _ hb
  intro k
  induction k with
  | zero =>
    intro i s hk hi st x hR
    obtain rfl : i = n := by omega
    refine codeAny_builtin F.entry_set_update_loop ?_
    rw [Around.under_plainId F.plain_set_update_loop _]
    show wpAny _ A.in1 (pyNext (.ref I) >>= _) _ _ s
    refine wpAny_bind (W.done s _ _ st fun s' hm => wpAny_pure (hR s' (hm.mono more) ?_))
    rw [List.take_of_length_le (by omega)] at x
    exact x.keep fun o e => hm.heap S o out e
  | succ k ih =>
    intro i s hk hi st x hR
    have hlt : i < n := by omega
    refine codeAny_builtin F.entry_set_update_loop ?_
    rw [Around.under_plainId F.plain_set_update_loop _]
    show wpAny _ A.in1 (pyNext (.ref I) >>= _) _ _ s
    refine wpAny_bind (W.item i s _ _ hlt st fun v s' hP st' hm => ?_)
    obtain ⟨t, rfl⟩ := hval i v hP
    have x' : TxAt prog w s'.heap S (dedS (xs.take i)) := x.keep fun o e => hm.heap S o out e
    show wpAny _ A.in1 (holding [Value.str (xs.getD i Str.empty) t] (setAdd S (.str (xs.getD i Str.empty) t)) >>= _) _ _ s'
    refine wpAny_bind (wpAny_holding ?_)
    unfold setAdd
    refine wpAny_holding (wpAny_bind ((PySem.strKind prog w).pyHash (k := xs.getD i Str.empty) (strKind_is _ _ _ _) ?_))
    have few : (dedS (xs.take i)).length ≤ i := Nat.le_trans (ded_len _) (by simp; omega)
    refine wpAny_setAddHashed_of (knd := PySem.strKind prog w) (s := { s' with toks := s'.toks + 1 }) (strKind_is _ _ _ _) rfl x' (by unfold scanBound; omega) fun h' sb x2 => ?_
    have x3 : TxAt prog w h' S (dedS (xs.take (i + 1))) := by
      rw [ded_take (by omega)]
      refine SetOf_congr x2 (fun k' => ?_) ?_
      · simp only [mem_addS, Bool.decide_or]
      · unfold addS
        by_cases q : xs.getD i Str.empty ∈ dedS (xs.take i)
        · rw [if_pos q, if_pos (by simpa using q)]
        · rw [if_neg q, if_neg (by simpa using q), List.length_append, List.length_singleton]
    refine wpAny_pure ⟨plainId_quiet F.plain_set_update_loop _, ih (i + 1) _ (by omega) hlt (W.frame _ s' _ _ st' (Nat.le_succ _) fun b hb o e => ?_) x3 fun s'' hm'' x'' => ?_⟩
    · rw [sb.2 b (fun z : b = S => hSf (z ▸ hb))]; exact e
    · refine hR s'' (Moved.trans W.gtrans ((hm.mono more).then_heap (Nat.le_succ _) fun b o hb e => ?_) hm'') x''
      rw [sb.2 b (fun z : b = S => hb (z ▸ List.mem_cons_self))]; exact e
end
section
variable {prog : Program} {w : World} {A : Around} {E : Value → Shared → Prop} {s : Shared}
/-- an iterator over the texts xs comes -/
def Comes (prog : Program) (w : World) (A : Around) (h : Heap) (l : Addr) (xs : List Str) : Prop := ∀ (s₁ : Shared) (R : Value → Shared → Prop) (E' : Value → Shared → Prop), (∀ b o, h.get? b = some o → s₁.heap.get? b = some o) →
  (∀ (I : Addr) (P : Nat → Value → Prop) (St : Nat → Heap → Prop) (h2 : Heap), Walks prog w A.in1 I [I, l] [I] xs.length P St → St 0 h2 → (∀ i v, P i v → ∃ t, v = .str (xs.getD i Str.empty) t) → (∀ b o, s₁.heap.get? b = some o → h2.get? b = some o) → s₁.heap.objs.size ≤ I → R (.ref I) { s₁ with heap := h2 }) →
  wpAny (model prog w) A (pyIter (.ref l)) R E' s₁
theorem set_tail {l : Addr} {xs : List Str} {h0 : Heap} {led : Bool} {g : Fin → Shared → Prop} {E₁ E₂ : Value → Shared → Prop} (hn : xs.length < 1000) (hls : l < s.heap.objs.size) (walk : Comes prog w A s.heap l xs)
    (hS : h0.get? s.heap.objs.size = some { cls := .type "set", dict := none, data := .set #[] 0 (.fresh 0 0 led) }) (k0 : ∀ b o, s.heap.get? b = some o → h0.get? b = some o)
    (fin : ∀ h' tk, TxAt prog w h' s.heap.objs.size (dedS xs) → (∀ b o, s.heap.get? b = some o → h'.get? b = some o) → g (.done (.ret .none)) { s with heap := h', toks := tk }) :
    wpAny (model prog w) A (pyIter (.ref l)) (fun a s' => wpAny (model prog w) A (do let _ ← runValue (Code.builtin "set.update.loop" { pos := [Value.ref s.heap.objs.size, a] }); pure ()) (fun _ s' => wpAny (model prog w) A (ret Value.none) g E₁ s') E₁ s') E₂ { s with heap := h0 } := by
  have z0 : s.heap.objs.size < h0.objs.size := Heap.lt_size hS
  refine walk _ _ _ k0 fun I P St h2 W st hv k2 hI => ?_
  have hI : h0.objs.size ≤ I := hI
  refine wpAny_bind (wpAny_runValue ?_)
  have hSf : s.heap.objs.size ∉ [I, l] := by
    simp only [List.mem_cons, List.not_mem_nil, or_false, not_or]
    exact ⟨Nat.ne_of_lt (Nat.lt_of_lt_of_le z0 hI), Nat.ne_of_gt hls⟩
  refine fill_loop W.toS s.heap.objs.size hSf xs rfl hn hv (xs.length - 0) 0 _ (by omega) (Nat.zero_le _) st ?_ fun s' hm x => ?_
  · have e : h2.get? s.heap.objs.size = some { cls := .type "set", dict := none, data := .set #[] 0 (.fresh 0 0 led) } := k2 _ _ hS
    exact SetOf_congr ((PyProof.Rows.setObjOf_fresh (knd := PySem.strKind prog w) led).setOf e (by unfold scanBound; omega)) (fun _ => by simp [dedS]) rfl
  · obtain ⟨h', g', d', tk', os'⟩ := s'
    have eg : g' = s.gens := hm.gens
    have ed : d' = s.drawn := hm.drawn
    have eo : os' = s.os := hm.os
    subst eg ed eo
    show wpAny _ _ _ _ _ _
    refine wpAny_pure ?_
    show wpAny _ _ (ret Value.none) _ _ _
    refine wpAny_pure (fin h' tk' x fun b o e => hm.heap b o ?_ (k2 _ _ (k0 _ _ e)))
    have hb := Heap.lt_size e
    simp only [List.mem_cons, List.not_mem_nil, or_false, not_or]
    exact ⟨Nat.ne_of_lt hb, Nat.ne_of_lt (Nat.lt_trans hb (Nat.lt_of_lt_of_le z0 hI))⟩
/-- set(xs): how its texts are walked is left open -/
theorem set_core {T : String} {l : Addr} {ol : Obj} {xs : List Str} {Q : Value → Shared → Prop} (hol : s.heap.get? l = some ol) (hcl : ol.cls = .type T) (hsls : isSubtype (.type T) (.type "set") = pure false) (hslf : isSubtype (.type T) (.type "frozenset") = pure false)
    (hne : (Value.type T == Value.type "dict") = false) (hn : xs.length < 1000) (walk : Comes prog w A.in1.in1 s.heap l xs)
    (h : ∀ (h' : Heap) (tk : Nat), TxAt prog w h' s.heap.objs.size (dedS xs) → (∀ b o, s.heap.get? b = some o → h'.get? b = some o) → Q (.ref s.heap.objs.size) { s with heap := h', toks := tk }) :
    wpAny (model prog w) A (call (.type "set") [.ref l]) Q E s := by
  obtain ⟨c, tl, hmro⟩ := F.called_set.mro
  have hmade := F.called_set.made
  have hsub := F.called_set.sub
  refine wpAny_call (codeAny_of_tree ?_)
  show wpAny _ _ (callAny (.type "set") _) _ _ _
  refine wpAny_pure ⟨Code.quiet_builtin _ (by decide +kernel), codeAny_builtin F.entry_type_call ?_⟩
  rw [Around.under_plain (weight_type_call_type "set" [.ref l] []) rfl]
  have h1 := F.called_set.notType
  have h2 := F.called_set.canCreate
  have hct := F.typeCall_set_1 (.ref l)
  repeat (any_goals (first | assumption | wp_step))
  refine codeAny_mono (code_set_new_1 (.ref l) (E := E) (Q₁ := fun obj s₁ => ∃ led : Bool, obj = .ref s.heap.objs.size ∧ s₁ = { s with heap := s.heap.push { cls := .type "set", dict := none, data := .set #[] 0 (.fresh 0 0 led) } }) fun led => ⟨led, rfl, rfl⟩) fun r s₁ hr => ?_
  cases r with
  | error e => exact hr
  | ok fl =>
    cases fl with
    | ret obj =>
      obtain ⟨led, rfl, rfl⟩ := hr
      generalize hh0 : s.heap.push { cls := .type "set", dict := none, data := .set #[] 0 (.fresh 0 0 led) } = h0
      have hS : h0.get? s.heap.objs.size = some { cls := .type "set", dict := none, data := .set #[] 0 (.fresh 0 0 led) } := by rw [← hh0]; exact Heap.get?_push_size _ rfl
      have k0 : ∀ b o, s.heap.get? b = some o → h0.get? b = some o := fun b o e => by rw [← hh0]; exact Heap.get?_push_of_some _ e
      have z0 : s.heap.objs.size < h0.objs.size := by rw [← hh0, Heap.size_push]; exact Nat.lt_succ_self _
      have hT : Shared.TypeIs { s with heap := h0 } (.ref s.heap.objs.size) "set" := ⟨_, hS, rfl⟩
      have hTl : Shared.TypeIs { s with heap := h0 } (.ref l) T := ⟨_, k0 _ _ hol, hcl⟩
      have hli := F.called_set.init.lookup
      have hbi := F.called_set.init.bind (.ref s.heap.objs.size)
      repeat (any_goals (first | assumption | wp_step))
      refine codeAny_mono (codeAny_call_builtin (R := wants (fun r s₂ => r = .none ∧ ∃ h' tk, s₂ = { s with heap := h', toks := tk } ∧ TxAt prog w h' s.heap.objs.size (dedS xs) ∧ (∀ b o, s.heap.get? b = some o → h'.get? b = some o)) E) F.called_set.init.plain F.entry_set_init (check_set_init_1 hT ?_)) fun r₂ s₂ hr₂ => ?_
      · unfold Builtin.«set.__init__» noKeywords Builtin.Frozenset.updateFrom
        generalize hPI : pyIter = PI
        wp_walk
        subst hPI
        exact set_tail hn (Heap.lt_size hol) walk hS k0 fun h' tk x k => ⟨rfl, h', tk, rfl, x, k⟩
      · cases r₂ with
        | error e => exact hr₂
        | ok fl₂ =>
          cases fl₂ with
          | ret r =>
            obtain ⟨rfl, h', tk, rfl, hS', hk'⟩ := hr₂
            repeat (any_goals (first | assumption | wp_step))
            exact h _ _ hS' hk'
          | _ => exact hr₂.elim
    | _ => exact hr.elim
theorem comes_list {l : Addr} {items : Array Value} {xs : List Str} {h : Heap} (hh : A.in1.handled = none) (hl : h.IsList l items) (hi : StrsAre items.toList xs) : Comes prog w A h l xs := fun s₁ R E' k hR => by
  have hl1 : s₁.heap.IsList l items := hl.at fun o e => k _ _ e
  have hlt : l < s₁.heap.objs.size := by obtain ⟨o, e, _⟩ := hl1; exact Heap.lt_size e
  have hsz : items.size = xs.length := by rw [← Array.length_toList, StrsAre.len_eq hi]
  refine wpAny_pyIter_list hl1 ?_
  have W := Walks.list (prog := prog) (w := w) hh s₁.heap.objs.size l (Nat.ne_of_lt hlt) items
  rw [hsz] at W
  exact hR s₁.heap.objs.size _ _ _ W ⟨⟨_, Heap.get?_push_size _ rfl, rfl, rfl⟩, hl1.push _⟩ (fun i v hv => SS.strs_at hi i v (by rw [Array.getElem?_toList]; exact hv)) (fun b o e => Heap.get?_push_of_some _ e) (Nat.le_refl _)
theorem comes_tuple {l : Addr} {items : Array Value} {xs : List Str} {h : Heap} (hh : A.in1.handled = none) (hl : h.IsTuple l items) (hi : StrsAre items.toList xs) : Comes prog w A h l xs := fun s₁ R E' k hR => by
  have hl1 : s₁.heap.IsTuple l items := hl.at fun o e => k _ _ e
  have hlt : l < s₁.heap.objs.size := by obtain ⟨o, e, _⟩ := hl1; exact Heap.lt_size e
  have hsz : items.size = xs.length := by rw [← Array.length_toList, StrsAre.len_eq hi]
  refine wpAny_pyIter_tuple hl1 ?_
  have W := Walks.tuple (prog := prog) (w := w) hh s₁.heap.objs.size l (Nat.ne_of_lt hlt) items
  rw [hsz] at W
  exact hR s₁.heap.objs.size _ _ _ W ⟨⟨_, Heap.get?_push_size _ rfl, rfl, rfl⟩, hl1.push _⟩ (fun i v hv => SS.strs_at hi i v (by rw [Array.getElem?_toList]; exact hv)) (fun b o e => Heap.get?_push_of_some _ e) (Nat.le_refl _)
end
section
variable {X : Cx}
def tLenS (K : PySem.W.Frag) (ta : TE) : TE := fun σ H Q => ta σ H fun x H1 => ∃ l, ∃ xs : List Str, x = .ref l ∧ (SqL K H1 l (xs.map V.str) ∨ SqT K H1 l (xs.map V.str)) ∧ xs.length < 1000 ∧ Q (.int (dedS xs).length) H1
/-- len(set(xs)) of texts -/
theorem pe_lenS {a : Expr} {ta : TE} {p p2 q pos : Pos} (hc : X.calm = true) (hg : Gl X "len") (hm : X.mg "len" = none) (hg2 : Gl X "set") (hm2 : X.mg "set" = none) (ha : PE X a ta)
    (na : starEach [a] X.env = (false, eval a X.env) :: starEach [] X.env) : PE X (.Call (.Name "len" p) [.Call (.Name "set" p2) [a] [] q] [] pos) (tLenS X.K ta) := by
  refine ⟨fun pins s σ H Q I h => ?_⟩
  refine Call_ (ld_blt I hg hm boot_len ?_)
  refine PyProof.Rows.callWith_builtin1 (PyProof.Rows.args_cons ?_ rfl) rfl rfl
  refine Call_ (ld_blt I hg2 hm2 boot_set ?_)
  refine PyProof.Rows.callWith_type1 (PyProof.Rows.args_cons (thn (ha.run pins s σ H _ I h) fun v s1 ⟨x, H1, I1, r1, q1⟩ => PyProof.Rows.args_nil ?_) na) na rfl
  obtain ⟨l, xs, rfl, hq, hz, q1⟩ := q1
  cases r1
  have hh : X.A.in1.in1.in1.handled = none := by simp [I1.ok.hd hc]
  have fin : ∀ (h' : Heap) (tk : Nat), TxAt X.prog X.w h' s1.heap.objs.size (dedS xs) → (∀ b o, s1.heap.get? b = some o → h'.get? b = some o) →
      wpAny (model X.prog X.w) X.A (spliced (backTo pos (starEach [] X.env))) (fun vs s₂ => wpAny (model X.prog X.w) X.A (call (.builtin "len") (Value.ref s1.heap.objs.size :: vs)) (EP X pins σ Q) X.xe s₂) X.xe { s1 with heap := h', toks := tk } := fun h' tk x hk => by
    refine PyProof.Rows.args_nil ?_
    obtain ⟨o, es, ep, t, ho, hex, hd, _, _, _, hf, hn⟩ := x
    have I2 : Inv X pins σ H1 { s1 with heap := h', toks := tk } := I1.kept hk
    have few := ded_len xs
    refine call_len_set ho hex hd hf (by rw [hn]; omega) ⟨.int (dedS xs).length, H1, I2.tok _, ⟨_, by rw [hn]⟩, q1⟩
  rcases hq with hq | hq
  · obtain ⟨its, r, pl, _⟩ := I1.list hq
    obtain ⟨o, e, hcls, _⟩ := id pl.isList
    exact set_core e hcls F.sub_list_set F.sub_list_frozenset (by decide) hz (comes_list hh pl.isList (by simpa using strsAre_of r)) fin
  · obtain ⟨its, r, pl, _⟩ := I1.tuple hq
    obtain ⟨o, e, hcls, _⟩ := id (show s1.heap.IsTuple l its.toArray from pl)
    exact set_core e hcls F.sub_tuple_set F.sub_tuple_frozenset (by decide) hz (comes_tuple hh (show s1.heap.IsTuple l its.toArray from pl) (by simpa using strsAre_of r)) fin
end
end PM
end

section
set_option Elab.async false
set_option linter.all false
set_option maxRecDepth 100000
set_option maxHeartbeats 2000000
/-! PMBi: built-in functions by data; isinstance. -/
namespace PM
open PySem PySem.Spec PyProof.Rows L2
section
variable {K : PySem.W.Frag} {ca : Str → Option Addr} {σ : L2.St} {e : Env} {H H' : Hp} {F F' W W' : Fs} {own : Nat → List Addr}
inductive SeeFs (K : PySem.W.Frag) (H : Hp) (F : Fs) : List V → List D → Prop
  | nil : SeeFs K H F [] []
  | cons {u : V} {us : List V} {x : D} {xs : List D} : SeeF K H F u x → SeeFs K H F us xs → SeeFs K H F (u :: us) (x :: xs)
theorem RVs.seeFs (R : Rel K ca σ H e F own) : ∀ {vs : List Val} {us : List V} {fp : List Addr} {xs : List D}, RVs K ca σ H F W us vs fp → PM.sees e vs = some xs → SeeFs K H F us xs
  | [], us, fp, xs, h, s => by
    cases h
    cases s
    exact .nil
  | v :: vs, us, fp, xs, h, s => by
    cases h with
    | cons h r d =>
      unfold PM.sees at s
      cases h1 : PM.see e v with
      | none => rw [h1] at s; cases s
      | some x =>
        cases h2 : PM.sees e vs with
        | none => rw [h1, h2] at s; cases s
        | some ys =>
          rw [h1, h2] at s
          cases s
          exact .cons (h.seeF R h1) (RVs.seeFs R r h2)
theorem SeeF.items {u : V} {x : D} {xs : List D} (h : SeeF K H F u x) (e : PM.items x = some xs) : ∃ p us, u = .ref p ∧ (SqL K H p us ∨ SqT K H p us) ∧ Dens K H F us xs := by
  cases x with
  | list ds =>
    cases e
    obtain ⟨p, us, rfl, hp, d⟩ := h.list
    exact ⟨p, us, rfl, .inl (.inl hp), d⟩
  | tuple ds =>
    cases e
    obtain ⟨p, us, rfl, hp, d⟩ := h.tuple
    exact ⟨p, us, rfl, .inr hp, d⟩
  | _ => cases e
end
abbrev rB (K : PySem.W.Frag) (f : List D → Option Val) : List V → Hp → VK → Prop := fun us H Q => ∃ F ds v, SeeFs K H F us ds ∧ f ds = some v ∧ ∀ u H', Made K H F v u H' → Q u H'
theorem SeeFs.one {K : PySem.W.Frag} {H : Hp} {F : Fs} {us : List V} {x : D} (h : SeeFs K H F us [x]) : ∃ u, us = [u] ∧ SeeF K H F u x := by
  cases h with
  | cons h r => cases r; exact ⟨_, rfl, h⟩
theorem SeeFs.two {K : PySem.W.Frag} {H : Hp} {F : Fs} {us : List V} {x y : D} (h : SeeFs K H F us [x, y]) : ∃ u v, us = [u, v] ∧ SeeF K H F u x ∧ SeeF K H F v y := by
  cases h with
  | cons h r => cases r with | cons h' r => cases r; exact ⟨_, _, rfl, h, h'⟩
/-! ### what the functions tell, each once -/
theorem maxL_ok : ∀ {ns : List Int} {m : Int}, maxL ns = some m → m ∈ ns ∧ ∀ y ∈ ns, y ≤ m
  | [], m, h => by cases h
  | x :: r, m, h => by
    have key : ∀ (r : List Int) (x : Int), (r.foldl (fun a b => if a < b then b else a) x = x ∨ r.foldl (fun a b => if a < b then b else a) x ∈ r) ∧ x ≤ r.foldl (fun a b => if a < b then b else a) x ∧ ∀ y ∈ r, y ≤ r.foldl (fun a b => if a < b then b else a) x := fun r => by
      induction r with
      | nil => intro x; simp
      | cons z r ih =>
        intro x
        rw [List.foldl_cons]
        obtain ⟨h1, h2, h3⟩ := ih (if x < z then z else x)
        refine ⟨?_, ?_, fun y hy => ?_⟩
        · rcases h1 with h1 | h1
          · rw [h1]
            by_cases q : x < z
            · simp [q]
            · simp [q]
          · exact .inr (List.mem_cons_of_mem _ h1)
        · refine Int.le_trans ?_ h2
          split <;> omega
        · rcases List.mem_cons.mp hy with rfl | hy
          · refine Int.le_trans ?_ h2
            split <;> omega
          · exact h3 y hy
    cases h
    obtain ⟨h1, h2, h3⟩ := key r x
    exact ⟨h1.elim (fun q => by rw [q]; exact List.mem_cons_self) (List.mem_cons_of_mem _), fun y hy => (List.mem_cons.mp hy).elim (fun q => q ▸ h2) (h3 y)⟩
theorem minL_ok : ∀ {ns : List Int} {m : Int}, minL ns = some m → m ∈ ns ∧ ∀ y ∈ ns, m ≤ y
  | [], m, h => by cases h
  | x :: r, m, h => by
    have key : ∀ (r : List Int) (x : Int), (r.foldl (fun a b => if b < a then b else a) x = x ∨ r.foldl (fun a b => if b < a then b else a) x ∈ r) ∧ r.foldl (fun a b => if b < a then b else a) x ≤ x ∧ ∀ y ∈ r, r.foldl (fun a b => if b < a then b else a) x ≤ y := fun r => by
      induction r with
      | nil => intro x; simp
      | cons z r ih =>
        intro x
        rw [List.foldl_cons]
        obtain ⟨h1, h2, h3⟩ := ih (if z < x then z else x)
        refine ⟨?_, ?_, fun y hy => ?_⟩
        · rcases h1 with h1 | h1
          · rw [h1]
            by_cases q : z < x
            · simp [q]
            · simp [q]
          · exact .inr (List.mem_cons_of_mem _ h1)
        · refine Int.le_trans h2 ?_
          split <;> omega
        · rcases List.mem_cons.mp hy with rfl | hy
          · refine Int.le_trans h2 ?_
            split <;> omega
          · exact h3 y hy
    cases h
    obtain ⟨h1, h2, h3⟩ := key r x
    exact ⟨h1.elim (fun q => by rw [q]; exact List.mem_cons_self) (List.mem_cons_of_mem _), fun y hy => (List.mem_cons.mp hy).elim (fun q => q ▸ h2) (h3 y)⟩
theorem insI_perm (x : Int) : ∀ l : List Int, (insI x l).Perm (x :: l)
  | [] => .refl _
  | y :: r => by
    unfold insI
    split
    · exact .refl _
    · exact ((insI_perm x r).cons y).trans (.swap x y r)
theorem sortI_perm : ∀ l : List Int, (sortI l).Perm l
  | [] => .refl _
  | x :: r => (insI_perm x _).trans ((sortI_perm r).cons x)
theorem insI_pw (x : Int) : ∀ {l : List Int}, l.Pairwise (· ≤ ·) → (insI x l).Pairwise (· ≤ ·)
  | [], _ => by simp [insI]
  | y :: r, h => by
    unfold insI
    have h1 := List.pairwise_cons.mp h
    split
    · rename_i q
      refine List.pairwise_cons.mpr ⟨fun z hz => ?_, h⟩
      rcases List.mem_cons.mp hz with rfl | hz
      · exact q
      · exact Int.le_trans q (h1.1 z hz)
    · rename_i q
      refine List.pairwise_cons.mpr ⟨fun z hz => ?_, insI_pw x h1.2⟩
      rcases List.mem_cons.mp ((insI_perm x r).mem_iff.mp hz) with rfl | hz
      · omega
      · exact h1.1 z hz
theorem sortI_pw : ∀ l : List Int, (sortI l).Pairwise (· ≤ ·)
  | [] => .nil
  | x :: r => insI_pw x (sortI_pw r)
theorem perm_unique {α : Type} {le : α → α → Prop} (anti : ∀ a b, le a b → le b a → a = b) : ∀ {l m : List α}, l.Perm m → l.Pairwise le → m.Pairwise le → l = m
  | [], m, p, _, _ => by rw [List.nil_perm.mp p]
  | x :: l, [], p, _, _ => by have := p.length_eq; simp at this
  | x :: l, y :: m, p, h, g => by
    obtain ⟨h1, h2⟩ := List.pairwise_cons.mp h
    obtain ⟨g1, g2⟩ := List.pairwise_cons.mp g
    have e : x = y := by
      rcases List.mem_cons.mp (p.mem_iff.mp List.mem_cons_self) with e | hx
      · exact e
      · rcases List.mem_cons.mp (p.mem_iff.mpr List.mem_cons_self) with e | hy
        · exact e.symm
        · exact anti x y (h1 y hy) (g1 x hx)
    subst e
    rw [perm_unique anti (List.perm_cons x |>.mp p) h2 g2]
section
variable {X : Cx}
theorem crB_len : CallR X (.builtin "len") (rB X.K (biD .len)) := by
  intro pins s σ H xs us Q I r ⟨F, ds, v, hs, e, q⟩
  cases ds with
  | nil => cases e
  | cons a t =>
    cases t with
    | cons _ _ => cases a <;> cases e
    | nil =>
      obtain ⟨u, rfl, h⟩ := hs.one
      cases a with
      | str z =>
        have e : (if z.length ≤ lineN then some (Val.d (.int z.length)) else none) = some v := e
        split at e
        · rename_i hl
          cases e
          obtain rfl := h.str
          exact call_len pins s σ H _ us Q I r ⟨_, _, rfl, ⟨hl, rfl⟩, q _ _ (.here (.int _))⟩
        · cases e
      | list zs =>
        cases e
        obtain ⟨p, ws, rfl, hp, d⟩ := h.list
        exact call_len pins s σ H _ us Q I r ⟨_, _, rfl, .inl ⟨ws, .inl hp, rfl⟩, by rw [d.len]; exact q _ _ (.here (.int _))⟩
      | tuple zs =>
        cases e
        obtain ⟨p, ws, rfl, hp, d⟩ := h.tuple
        exact call_len pins s σ H _ us Q I r ⟨_, _, rfl, .inr ⟨ws, hp, rfl⟩, by rw [d.len]; exact q _ _ (.here (.int _))⟩
      | dict zs =>
        cases e
        obtain ⟨p, ws, rfl, hp, d⟩ := h.dict
        have l : ws.length = zs.length := by
          exact d.len
        obtain ⟨u, rfl, ru⟩ := vals1 r
        cases ru
        exact d_len I hp fun t s' I' => ⟨.int ws.length, H, I', ⟨t, rfl⟩, by rw [l]; exact q _ _ (.here (.int _))⟩
      | _ => cases e
theorem crB_all (hc : X.calm = true) : CallR X (.builtin "all") (rB X.K (biD .all)) := by
  intro pins s σ H xs us Q I r ⟨F, ds, v, hs, e, q⟩
  match ds, e with
  | [.list zs], e =>
    obtain ⟨u, rfl, h⟩ := hs.one
    obtain ⟨bs, hb, rfl⟩ := Option.map_eq_some_iff.mp (show (boolsD zs).map (fun bs => Val.d (.bool (bs.all id))) = some v from e)
    obtain ⟨p, ws, rfl, hp, d⟩ := h.list
    obtain rfl := d.bools hb
    exact cr_all hc pins s σ H _ us Q I r ⟨p, bs, rfl, .inl hp, q _ _ (.here (.bl _))⟩
theorem crB_any (hc : X.calm = true) : CallR X (.builtin "any") (rB X.K (biD .any)) := by
  intro pins s σ H xs us Q I r ⟨F, ds, v, hs, e, q⟩
  match ds, e with
  | [.list zs], e =>
    obtain ⟨u, rfl, h⟩ := hs.one
    obtain ⟨bs, hb, rfl⟩ := Option.map_eq_some_iff.mp (show (boolsD zs).map (fun bs => Val.d (.bool (bs.any id))) = some v from e)
    obtain ⟨p, ws, rfl, hp, d⟩ := h.list
    obtain rfl := d.bools hb
    exact cr_any hc pins s σ H _ us Q I r ⟨p, bs, rfl, .inl hp, q _ _ (.here (.bl _))⟩
theorem crB_sum (hc : X.calm = true) : CallR X (.builtin "sum") (rB X.K (biD .sum)) := by
  intro pins s σ H xs us Q I r ⟨F, ds, v, hs, e, q⟩
  match ds, e with
  | [.list zs], e =>
    obtain ⟨u, rfl, h⟩ := hs.one
    obtain ⟨bs, hb, rfl⟩ := Option.map_eq_some_iff.mp (show (intsD zs).map (fun ns => Val.d (.int ns.sum)) = some v from e)
    obtain ⟨p, ws, rfl, hp, d⟩ := h.list
    obtain rfl := d.ints hb
    exact cr_sum hc pins s σ H _ us Q I r ⟨p, bs, rfl, .inl hp, q _ _ (.here (.int _))⟩
theorem crB_max (hc : X.calm = true) : CallR X (.builtin "max") (rB X.K (biD .max)) := by
  intro pins s σ H xs us Q I r ⟨F, ds, v, hs, e, q⟩
  match ds, e with
  | [.list zs], e =>
    obtain ⟨u, rfl, h⟩ := hs.one
    obtain ⟨bs, hb, e⟩ := Option.bind_eq_some_iff.mp (show (intsD zs).bind (fun ns => (maxL ns).map fun m => Val.d (.int m)) = some v from e)
    obtain ⟨M, hM, rfl⟩ := Option.map_eq_some_iff.mp e
    obtain ⟨p, ws, rfl, hp, d⟩ := h.list
    obtain rfl := d.ints hb
    obtain ⟨m1, m2⟩ := maxL_ok hM
    refine cr_max hc pins s σ H _ us Q I r ⟨p, bs, rfl, .inl hp, List.length_pos_of_mem m1, fun m h1 h2 => ?_⟩
    obtain rfl : m = M := Int.le_antisymm (m2 m h1) (h2 M m1)
    exact q _ _ (.here (.int _))
  | [.int i, .int j], e =>
    cases e
    obtain ⟨u, w, rfl, h1, h2⟩ := hs.two
    obtain rfl := h1.int
    obtain rfl := h2.int
    exact call_max2 hc pins s σ H _ us Q I r ⟨i, j, rfl, q _ _ (.here (.int _))⟩
theorem crB_min (hc : X.calm = true) : CallR X (.builtin "min") (rB X.K (biD .min)) := by
  intro pins s σ H xs us Q I r ⟨F, ds, v, hs, e, q⟩
  match ds, e with
  | [.list zs], e =>
    obtain ⟨u, rfl, h⟩ := hs.one
    obtain ⟨bs, hb, e⟩ := Option.bind_eq_some_iff.mp (show (intsD zs).bind (fun ns => (minL ns).map fun m => Val.d (.int m)) = some v from e)
    obtain ⟨M, hM, rfl⟩ := Option.map_eq_some_iff.mp e
    obtain ⟨p, ws, rfl, hp, d⟩ := h.list
    obtain rfl := d.ints hb
    obtain ⟨m1, m2⟩ := minL_ok hM
    refine cr_min hc pins s σ H _ us Q I r ⟨p, bs, rfl, .inl hp, List.length_pos_of_mem m1, fun m h1 h2 => ?_⟩
    obtain rfl : m = M := Int.le_antisymm (h2 M m1) (m2 m h1)
    exact q _ _ (.here (.int _))
  | [.int i, .int j], e =>
    cases e
    obtain ⟨u, w, rfl, h1, h2⟩ := hs.two
    obtain rfl := h1.int
    obtain rfl := h2.int
    exact call_min2 hc pins s σ H _ us Q I r ⟨i, j, rfl, q _ _ (.here (.int _))⟩
theorem crB_abs : CallR X (.builtin "abs") (rB X.K (biD .abs)) := by
  intro pins s σ H xs us Q I r ⟨F, ds, v, hs, e, q⟩
  match ds, e with
  | [.int i], e =>
    cases e
    obtain ⟨u, rfl, h⟩ := hs.one
    obtain rfl := h.int
    exact call_abs pins s σ H _ us Q I r ⟨i, rfl, q _ _ (.here (.int _))⟩
theorem crB_repr (hu : X.A.units + 100 < cLine) (gd : X.A.guards = some []) : CallR X (.builtin "repr") (rB X.K (biD .repr)) := by
  intro pins s σ H xs us Q I r ⟨F, ds, v, hs, e, q⟩
  have key : ∀ (x : D) (a : Addr), ds = [x] → SeeF X.K H F (.ref a) x → xs = [.ref a] → reprV x = some v → wpAny (model X.prog X.w) X.A (call (.builtin "repr") us) (EP X pins σ Q) X.xe s := fun x a _ h ex er => by
    subst ex
    obtain ⟨u, rfl, rx⟩ := vals1 r
    cases rx
    unfold reprV at er
    split at er
    · rename_i c
      simp only [Bool.and_eq_true, decide_eq_true_eq] at c
      obtain ⟨⟨⟨c1, c2⟩, c3⟩, c4⟩ := c
      cases er
      obtain ⟨as, rd⟩ := Dp.reads I x _ _ (Den.dp h.see c1) rfl
      exact repr_of_reads' rd c2 (PyData.noDict_hsm (PyData.hasDict_of_canLay x c1)) gd (by omega) (fun b o z => z) (fun h' u tk k => ⟨.str _, H, I.kept (t' := tk) k, ⟨u, rfl⟩, q _ _ (.here (.str _))⟩) c4
    · cases er
  match ds, e with
  | [.list zs], e =>
    obtain ⟨u, rfl, h⟩ := hs.one
    obtain ⟨p, ws, rfl, hp, d⟩ := h.list
    exact key _ p rfl h rfl e
  | [.tuple zs], e =>
    obtain ⟨u, rfl, h⟩ := hs.one
    obtain ⟨p, ws, rfl, hp, d⟩ := h.tuple
    exact key _ p rfl h rfl e
theorem crB_int : CallR X (.type "int") (rB X.K (biD .int)) := by
  intro pins s σ H xs us Q I r ⟨F, ds, v, hs, e, q⟩
  match ds, e with
  | [.int i], e =>
    cases e
    obtain ⟨u, rfl, h⟩ := hs.one
    obtain rfl := h.int
    exact call_int1 pins s σ H _ us Q I r (.inl ⟨i, rfl, q _ _ (.here (.int _))⟩)
  | [.bool i], e =>
    cases e
    obtain ⟨u, rfl, h⟩ := hs.one
    obtain rfl := h.bl
    exact call_int1 pins s σ H _ us Q I r (.inr ⟨i, rfl, q _ _ (.here (.int _))⟩)
theorem crB_str : CallR X (.type "str") (rB X.K (biD .str)) := by
  intro pins s σ H xs us Q I r ⟨F, ds, v, hs, e, q⟩
  match ds, e with
  | [.int i], e =>
    have e : (if i.natAbs.log2 < 1920 then some (Val.d (.str (toString i : String))) else none) = some v := e
    split at e
    · rename_i hl
      cases e
      obtain ⟨u, rfl, h⟩ := hs.one
      obtain rfl := h.int
      exact call_str_int pins s σ H _ us Q I r ⟨i, rfl, hl, q _ _ (.here (.str _))⟩
    · cases e
theorem crB_list : CallR X (.type "list") (rB X.K (biD .list)) := by
  intro pins s σ H xs us Q I r ⟨F, ds, v, hs, e, q⟩
  match ds, e with
  | [a], e =>
    obtain ⟨zs, hz, rfl⟩ := Option.map_eq_some_iff.mp (show (items a).map (fun xs => Val.ol (xs.map .d)) = some v from e)
    obtain ⟨u, rfl, h⟩ := hs.one
    obtain ⟨p, ws, rfl, hp, d⟩ := h.items hz
    exact call_list_of pins s σ H _ us Q I r ⟨p, ws, rfl, hp, fun l hl => q _ _ (.lst hl d)⟩
theorem crB_tuple : CallR X (.type "tuple") (rB X.K (biD .tuple)) := by
  intro pins s σ H xs us Q I r ⟨F, ds, v, hs, e, q⟩
  match ds, e with
  | [a], e =>
    obtain ⟨zs, hz, rfl⟩ := Option.map_eq_some_iff.mp (show (items a).map (fun xs => Val.d (.tuple xs)) = some v from e)
    obtain ⟨u, rfl, h⟩ := hs.one
    obtain ⟨p, ws, rfl, hp, d⟩ := h.items hz
    refine call_tuple_of pins s σ H _ us Q I r ⟨p, ws, rfl, ?_⟩
    rcases hp with hp | hp
    · exact .inl ⟨hp, fun l hl => q _ _ (.tup hl d)⟩
    · exact .inr ⟨hp, q _ _ (.here (.tup hp d))⟩
/-! ### sorted texts -/
theorem ltS_irrefl (x : Str) : ltS x x = false := by unfold ltS; simp
theorem ltS_trans {x y z : Str} (h : ltS x y = true) (g : ltS y z = true) : ltS x z = true := by
  unfold ltS at *
  rw [decide_eq_true_eq] at *
  exact List.lt_trans h g
theorem ltS_total {x y : Str} (h : ltS x y = false) (g : ltS y x = false) : x = y := by
  unfold ltS at *
  rw [decide_eq_false_iff_not] at *
  have e : x.cps.toList = y.cps.toList := List.le_antisymm (List.not_lt.mp g) (List.not_lt.mp h)
  cases x
  cases y
  simp only [Str.mk.injEq]
  exact Array.toList_inj.mp e
theorem leS_total (x y : Str) : leS x y = true ∨ leS y x = true := by
  unfold leS
  cases h : ltS y x with
  | false => exact .inl rfl
  | true =>
    cases g : ltS x y with
    | false => exact .inr rfl
    | true => have := ltS_trans h g; rw [ltS_irrefl] at this; cases this
theorem leS_trans {x y z : Str} (h : leS x y = true) (g : leS y z = true) : leS x z = true := by
  unfold leS at *
  rw [Bool.not_eq_true'] at *
  cases q : ltS z x with
  | false => rfl
  | true =>
    cases q2 : ltS x y with
    | true => rw [ltS_trans q q2] at g; cases g
    | false => rw [ltS_total q2 h, g] at q; cases q
theorem leS_anti {x y : Str} (h : leS x y = true) (g : leS y x = true) : x = y := by
  unfold leS at *
  rw [Bool.not_eq_true'] at *
  exact ltS_total g h
theorem insS_perm (x : Str) : ∀ l : List Str, (insS x l).Perm (x :: l)
  | [] => .refl _
  | y :: r => by
    unfold insS
    split
    · exact .refl _
    · exact ((insS_perm x r).cons y).trans (.swap x y r)
theorem sortS_perm : ∀ l : List Str, (sortS l).Perm l
  | [] => .refl _
  | x :: r => (insS_perm x _).trans ((sortS_perm r).cons x)
theorem insS_pw (x : Str) : ∀ {l : List Str}, l.Pairwise (fun a b => leS a b = true) → (insS x l).Pairwise (fun a b => leS a b = true)
  | [], _ => by simp [insS]
  | y :: r, h => by
    unfold insS
    have h1 := List.pairwise_cons.mp h
    split
    · rename_i q
      refine List.pairwise_cons.mpr ⟨fun z hz => ?_, h⟩
      rcases List.mem_cons.mp hz with rfl | hz
      · exact q
      · exact leS_trans q (h1.1 z hz)
    · rename_i q
      refine List.pairwise_cons.mpr ⟨fun z hz => ?_, insS_pw x h1.2⟩
      rcases List.mem_cons.mp ((insS_perm x r).mem_iff.mp hz) with rfl | hz
      · exact (leS_total z y).resolve_left q
      · exact h1.1 z hz
theorem sortS_pw : ∀ l : List Str, (sortS l).Pairwise (fun a b => leS a b = true)
  | [] => .nil
  | x :: r => insS_pw x (sortS_pw r)
theorem rising_pw : ∀ {r : List Str} {p : Str}, risingS p r = true → (p :: r).Pairwise (fun a b => leS a b = true)
  | [], p, _ => by simp
  | x :: r, p, h => by
    unfold risingS at h
    rw [Bool.and_eq_true] at h
    have h1 : leS p x = true := by
      unfold leS ltS
      rw [← ltCps_eq]
      exact h.1
    have ih := rising_pw h.2
    refine List.pairwise_cons.mpr ⟨fun z hz => ?_, ih⟩
    rcases List.mem_cons.mp hz with rfl | hz
    · exact h1
    · exact leS_trans h1 ((List.pairwise_cons.mp ih).1 z hz)
theorem sorted_pw : ∀ {l : List Str}, sortedS l = true → l.Pairwise (fun a b => leS a b = true)
  | [], _ => .nil
  | x :: r, h => rising_pw h
theorem crB_sorted : CallR X (.builtin "sorted") (rB X.K (biD .sorted)) := by
  intro pins s σ H xs us Q I r ⟨F, ds, v, hs, e, q⟩
  match ds, e with
  | [.list zs], e =>
    obtain ⟨u, rfl, h⟩ := hs.one
    obtain ⟨p, ws, rfl, hp, d⟩ := h.list
    have e : (match intsD zs with
      | some ns => some (olI (sortI ns))
      | none => match strsD zs with
        | some ss => if ss.length < 64 then some (olS (sortS ss)) else none
        | none => none) = some v := e
    cases hi : intsD zs with
    | some ns =>
      rw [hi] at e
      cases e
      obtain rfl := d.ints hi
      refine cr_sortedI pins s σ H _ us Q I r ⟨p, ns, rfl, .inl hp, fun ns' l h1 h2 hl => ?_⟩
      obtain rfl : ns' = sortI ns := perm_unique (fun a b => Int.le_antisymm) (h1.trans (sortI_perm ns).symm) h2 (sortI_pw ns)
      have := Made.lst (K := X.K) (F := F) (H := H) hl (Dens.ofInts (sortI ns))
      rw [List.map_map] at this
      exact q _ _ this
    | none =>
      rw [hi] at e
      dsimp only at e
      cases ht : strsD zs with
      | none => rw [ht] at e; cases e
      | some ss =>
        rw [ht] at e
        dsimp only at e
        split at e
        · rename_i h64
          cases e
          obtain rfl := d.strs ht
          refine cr_sortedS pins s σ H _ us Q I r ⟨p, ss, rfl, .inl hp, h64, fun ns' l h1 h2 hl => ?_⟩
          obtain rfl : ns' = sortS ss := perm_unique (fun a b => leS_anti) (h1.trans (sortS_perm ss).symm) (sorted_pw h2) (sortS_pw ss)
          have := Made.lst (K := X.K) (F := F) (H := H) hl (Dens.ofStrs (sortS ss))
          rw [List.map_map] at this
          exact q _ _ this
        · cases e
end
section
variable {X : Cx} {ca : Str → Option Addr} {Wx : Wish} {c : Ctx} {x y : Expr} {xs : List Expr} {es : List ME} {a : ME} {pos p p2 : Pos} {nm : Str} {id : String} {b : Bi}
theorem bi_w {f : List D → Option Val} {g : List Val → Env → Res Val} (hg : ∀ vs e, g vs e = match sees e vs with
    | some ds => opt (f ds) e
    | none => .no) {σ : L2.St} {H : Hp} {Q : VK} {e : Env} {F : Fs} {own : Nat → List Addr} (R : Rel X.K ca σ H e F own) (P : PR ((evs c es e).bind g) (QV X.K ca σ H F (Ow own) Q) (QX X.K ca Wx σ H F (Ow own))) :
    tIs X.K ca Wx c es σ H (fun us H1 => rB X.K f us H1 Q) :=
  rd_list (r := fun us H1 => rB X.K f us H1 Q) Ext.refl R P fun vs e2 us H2 F2 own2 fp R2 V2 N2 E2 E P => by
    rw [hg] at P
    cases h1 : sees e2 vs with
    | none => rw [h1] at P; exact P.elim
    | some ds =>
      rw [h1] at P
      obtain ⟨v, hv, P⟩ := PR.opt P
      exact ⟨F2, ds, v, RVs.seeFs R2 V2 h1, hv, QV.made P R2 E⟩
theorem pm_biB (hc : CallR X (.builtin id) (rB X.K (biD b))) (hg : Gl X nm) (hm : X.mg nm = none) (hv : bootBuiltins nm = some (.builtin id)) (hn : nm ≠ "__name__") (hdb : (nm == ("__debug__" : Str)) = false) (ha : PA X (x :: xs) (tIs X.K ca Wx c es))
    (he : starEach (x :: xs) X.env = (false, eval x X.env) :: starEach xs X.env) (hpl : (backTo pos (starEach xs X.env)).any (·.1) = false) : PE X (.Call (.Name nm p) (x :: xs) [] pos) (tI X.K ca Wx c (.bi b es)) :=
  (pe_callB hc hg hm hv ha hn hdb he hpl).weak fun σ H Q ⟨e, F, own, R, P⟩ => bi_w (fun _ _ => rfl) R P
theorem pm_biT (hc : CallR X (.type id) (rB X.K (biD b))) (hg : Gl X nm) (hm : X.mg nm = none) (hv : bootBuiltins nm = some (.type id)) (hn : nm ≠ "__name__") (hdb : (nm == ("__debug__" : Str)) = false) (ha : PA X (x :: xs) (tIs X.K ca Wx c es))
    (he : starEach (x :: xs) X.env = (false, eval x X.env) :: starEach xs X.env) (hpl : (backTo pos (starEach xs X.env)).any (·.1) = false) : PE X (.Call (.Name nm p) (x :: xs) [] pos) (tI X.K ca Wx c (.bi b es)) :=
  (pe_callTy hc hg hm hv ha hn hdb he hpl).weak fun σ H Q ⟨e, F, own, R, P⟩ => bi_w (fun _ _ => rfl) R P
theorem PR.one' {a : ME} {e : Env} {g : List Val → Env → Res Val} {k : Val → Env → Prop} {kx : Ex → Env → Prop} (h : PR ((evs c [a] e).bind g) k kx) : PR ((ev c a e).bind fun v e1 => g [v] e1) k kx := by
  have h : PR (((ev c a e).bind fun v e1 => (Res.ok [] e1).bind fun vs e2 => .ok (v :: vs) e2).bind g) k kx := h
  cases q : ev c a e with
  | ok v e1 => rw [q] at h; exact h
  | ex x e1 => rw [q] at h; exact h
  | no => rw [q] at h; exact h
theorem pm_lenset {q : Pos} (hc : X.calm = true) (hg : Gl X "len") (hm : X.mg "len" = none) (hg2 : Gl X "set") (hm2 : X.mg "set" = none) (ha : PE X x (tI X.K ca Wx c a)) (na : starEach [x] X.env = (false, eval x X.env) :: starEach [] X.env) :
    PE X (.Call (.Name "len" p) [.Call (.Name "set" p2) [x] [] q] [] pos) (tI X.K ca Wx c (.bi .lenset [a])) :=
  (pe_lenS hc hg hm hg2 hm2 ha na).weak fun σ H Q ⟨e, F, own, R, P⟩ => rd_one (r := fun u H1 => ∃ l, ∃ xs : List Str, u = .ref l ∧ (SqL X.K H1 l (xs.map V.str) ∨ SqT X.K H1 l (xs.map V.str)) ∧ xs.length < 1000 ∧ Q (.int (dedS xs).length) H1) R (PR.one' P) fun va e2 u H2 F2 own2 fp R2 V2 N2 E2 P => by
    have P : PR (match sees e2 [va] with
      | some ds => opt (biD .lenset ds) e2
      | none => .no) _ _ := P
    unfold sees at P
    cases h1 : see e2 va with
    | none => rw [h1] at P; exact P.elim
    | some z =>
      rw [h1] at P
      obtain ⟨v, hv, P⟩ := PR.opt (show PR (opt (biD .lenset [z]) e2) _ _ from P)
      obtain ⟨zs, hz, hv⟩ := Option.bind_eq_some_iff.mp (show (items z).bind (fun xs => (strsD xs).bind fun ss => if ss.length < 1000 then some (Val.d (.int (dedS ss).length)) else none) = some v from hv)
      obtain ⟨ss, hs, hv⟩ := Option.bind_eq_some_iff.mp hv
      split at hv
      · rename_i hl
        cases hv
        obtain ⟨l, us, rfl, hq, d⟩ := (V2.seeF R2 h1).items hz
        obtain rfl := d.strs hs
        exact ⟨l, ss, rfl, hq, hl, QV.scal P R2 E2 (.int _)⟩
      · cases hv
/-! ### isinstance -/
def TN : List String := ["NoneType", "bool", "int", "str", "list", "tuple", "dict", "ValueError", "Exception", "object"]
def TD : List String := ["NoneType", "bool", "int", "str", "list", "tuple", "dict"]
def isT (t n : String) : Bool := t == n || n == "object" || (t == "bool" && n == "int")
theorem kit_bt (K : PySem.W.Frag) : (TD.all fun t => TN.all fun n => PySem.W.kitOne K (.type t) (.type n) == some (isT t n)) = true := by
  unfold TD TN
  simp only [List.all_cons, List.all_nil]
  unfold PySem.W.kitOne PySem.W.kitCls
  kernel_rfl
def tyNm : D → String
  | .none => "NoneType"
  | .bool _ => "bool"
  | .int _ => "int"
  | .str _ => "str"
  | .list _ => "list"
  | .tuple _ => "tuple"
  | .dict _ => "dict"
theorem tyNm_in (x : D) : tyNm x ∈ TD := by cases x <;> simp [tyNm, TD]
theorem SeeF.ty {K : PySem.W.Frag} {H : Hp} {F : Fs} {u : V} {x : D} (h : SeeF K H F u x) : TyX K H u (.type (tyNm x)) := by
  cases x with
  | none => obtain rfl := h.non; exact .base .non
  | bool _ => obtain rfl := h.bl; exact .base (.bl _)
  | int _ => obtain rfl := h.int; exact .base (.int _)
  | str _ => obtain rfl := h.str; exact .base (.str _)
  | list _ =>
    obtain ⟨p, us, rfl, hp, d⟩ := h.list
    rcases hp with hp | ⟨o, hp⟩
    · exact .base (.lst hp)
    · exact .base (.frz hp)
  | tuple _ =>
    obtain ⟨p, us, rfl, hp, d⟩ := h.tuple
    rcases hp with (hp | ⟨o, hp⟩) | hp
    · exact .base (.tup hp)
    · exact .fTuple hp
    · obtain ⟨o, its, n, h1, h2, _⟩ := hp
      exact .kTuple h1 h2
  | dict _ =>
    obtain ⟨p, us, rfl, hp, d⟩ := h.dict
    rcases hp with hp | ⟨o, hp⟩
    · exact .base (.dK hp)
    · exact .fDict hp
end
end PM
end

section
set_option Elab.async false
set_option linter.all false
set_option maxRecDepth 100000
set_option maxHeartbeats 2000000
/-! PMIsi: isinstance of data and of caught exceptions. -/
namespace PM
open PySem PySem.Spec PyProof.Rows L2
/-- what the classes must say -/
structure ClsK (K : PySem.W.Frag) (ca : Str → Option Addr) (sub : Str → Str → Bool) : Prop where
  exc : ∀ c C, ca c = some C → ExcC K C
  ecl : ∀ c C c' C', ca c = some C → ca c' = some C' → PySem.W.kitOne K (.ref C) (.ref C') = some (sub c c')
  ebt : ∀ c C n, ca c = some C → n ∈ TN → PySem.W.kitOne K (.ref C) (.type n) = some (excBases.contains n)
  dcl : ∀ t c C, t ∈ TD → ca c = some C → PySem.W.kitOne K (.type t) (.ref C) = some false
inductive TyA (K : PySem.W.Frag) (H : Hp) : V → Value → Prop
  | x {u : V} {t : Value} : TyX K H u t → TyA K H u t
  | e {a C : Addr} : H a = some (exO (.ref C) none a) → ExcC K C → TyA K H (.ref a) (.ref C)
section
variable {X : Cx} {pins : List (Addr × Obj)} {σ : L2.St} {H : Hp} {s : Shared}
theorem kit_ofA {x : V} {u t : Value} (I : Inv X pins σ H s) (rx : RelV x u) (ty : TyA X.K H x t) : ∃ P : Heap → Prop, PySem.W.KitX X.K u t P ∧ P s.heap ∧ u ≠ .builtin "__main__.__loader__#opaque" := by
  cases ty with
  | x ty => exact kit_of I rx ty
  | @e a C h F =>
    cases rx
    obtain ⟨⟨oe, vs, he, hz, hd⟩, _⟩ := (show ObjOk X.prog X.w H s.heap a (exO (.ref C) none a) from I.hok a _ h)
    refine ⟨_, PySem.W.handS_kitx_exc (ox := oe) F.hg F.hk F.hs F.hd F.ha F.hn F.ht F.hm, ?_, fun z => nomatch z⟩
    obtain ⟨oc, od, oda, osl⟩ := oe
    obtain ⟨h1, h2⟩ := hz
    dsimp only at h1 h2 hd
    subst h1 h2 hd
    exact ⟨he, rfl, rfl, trivial⟩
theorem call_isA : CallR X (.builtin "isinstance") (fun xs H Q => ∃ (x c : V) (t u : Value) (b : Bool), xs = [x, c] ∧ ClsV c u ∧ TyA X.K H x t ∧ PySem.W.kitOne X.K t u = some b ∧ Q (.bl b) H) := by
  intro pins s σ H xs us Q I r h
  obtain ⟨x, c, t, u, b, rfl, k, ty, e, q⟩ := h
  obtain ⟨u1, u2, rfl, r1, r2⟩ := vals2 r
  have e2 := k.eq r2
  subst e2
  obtain ⟨P, Z, p, hx⟩ := kit_ofA I r1 ty
  exact PySem.W.kia_one Z I.kIn p e hx fun tk => ⟨.bl b, H, I.tok tk, rfl, q⟩
theorem call_isTA : CallR X (.builtin "isinstance") (fun xs H Q => ∃ (x : V) (tp : Addr) (cs : List V) (t : Value) (us : List Value) (b : Bool), xs = [x, .ref tp] ∧ H tp = some (.tup cs) ∧ Paired ClsV cs us ∧ TyA X.K H x t ∧ PySem.W.kitAny X.K t us = some b ∧ Q (.bl b) H) := by
  intro pins s σ H xs us Q I r h
  obtain ⟨x, tp, cs, t, ws, b, rfl, hT, k, ty, e, q⟩ := h
  obtain ⟨u1, u2, rfl, r1, r2⟩ := vals2 r
  cases (show u2 = Value.ref tp from r2)
  obtain ⟨P, Z, p, hx⟩ := kit_ofA I r1 ty
  obtain ⟨_, its, rv, o, h1, h2, n, h3⟩ := (show ObjOk X.prog X.w H s.heap tp (.tup cs) from I.hok tp _ hT)
  have e3 := ClsV.all k rv
  subst e3
  obtain ⟨oc, od, dt, sl⟩ := o
  simp only at h2 h3
  subst h2 h3
  exact PySem.W.kia_tup Z I.kIn p h1 e hx fun tk => ⟨.bl b, H, I.tok tk, rfl, q⟩
end
/-- the value of a class that is named -/
def tyV (ca : Str → Option Addr) : Ty → Option V
  | .bt n => if n ∈ TN then some (.ty n) else none
  | .cl c => (ca c).map V.ref
def tyU : V → Value
  | .ty n => .type n
  | .ref C => .ref C
  | _ => .none
theorem tyV_cls {ca : Str → Option Addr} {t : Ty} {v : V} (h : PM.tyV ca t = some v) : ClsV v (tyU v) := by
  cases t with
  | bt n =>
    have h : (if n ∈ TN then some (V.ty n) else none) = some v := h
    split at h
    · cases h; exact .ty n
    · cases h
  | cl c =>
    obtain ⟨C, _, rfl⟩ := Option.map_eq_some_iff.mp (show (ca c).map V.ref = some v from h)
    exact .own C
section
variable {K : PySem.W.Frag} {ca : Str → Option Addr} {sub : Str → Str → Bool}
theorem isiD_eq (x : D) {n : String} (h : n ∈ TN) : isiD x n = isT (tyNm x) n := by
  cases x <;> (simp only [isiD, isT, tyNm]; revert h; simp only [TN, List.mem_cons, List.not_mem_nil, or_false]; rintro (rfl | rfl | rfl | rfl | rfl | rfl | rfl | rfl | rfl | rfl) <;> decide)
theorem kit_dat (F : ClsK K ca sub) (x : D) {t : Ty} {v : V} (h : PM.tyV ca t = some v) : PySem.W.kitOne K (.type (tyNm x)) (tyU v) = some (tyD t x) := by
  cases t with
  | bt n =>
    have h : (if n ∈ TN then some (V.ty n) else none) = some v := h
    split at h
    · rename_i hn
      cases h
      have k := List.all_eq_true.mp (List.all_eq_true.mp (kit_bt K) _ (tyNm_in x)) _ hn
      rw [show tyD (.bt n) x = isiD x n from rfl, isiD_eq x hn]
      exact beq_iff_eq.mp k
    · cases h
  | cl c =>
    obtain ⟨C, hC, rfl⟩ := Option.map_eq_some_iff.mp (show (ca c).map V.ref = some v from h)
    exact F.dcl _ c C (tyNm_in x) hC
theorem kit_exc (F : ClsK K ca sub) {c : Str} {C : Addr} (hc : ca c = some C) {t : Ty} {v : V} (h : PM.tyV ca t = some v) : PySem.W.kitOne K (.ref C) (tyU v) = some (tyE sub c t) := by
  cases t with
  | bt n =>
    have h : (if n ∈ TN then some (V.ty n) else none) = some v := h
    split at h
    · rename_i hn
      cases h
      exact F.ebt c C n hc hn
    · cases h
  | cl c' =>
    obtain ⟨C', hC, rfl⟩ := Option.map_eq_some_iff.mp (show (ca c').map V.ref = some v from h)
    exact F.ecl c C c' C' hc hC
theorem kit_any {t : Value} {f : Ty → Bool} : ∀ {ts : List Ty} {vs : List V}, (∀ ty v, PM.tyV ca ty = some v → PySem.W.kitOne K t (tyU v) = some (f ty)) → ts.mapM (PM.tyV ca) = some vs → PySem.W.kitAny K t (vs.map tyU) = some (ts.any f)
  | [], vs, _, h => by cases h; rfl
  | ty :: ts, vs, k, h => by
    rw [List.mapM_cons] at h
    obtain ⟨v, hv, h⟩ := Option.bind_eq_some_iff.mp h
    obtain ⟨ws, hw, h⟩ := Option.bind_eq_some_iff.mp h
    cases h
    rw [List.map_cons]
    unfold PySem.W.kitAny
    rw [k ty v hv, List.any_cons]
    cases q : f ty with
    | true => rfl
    | false => exact kit_any k hw
end
section
variable {X : Cx} {ca : Str → Option Addr} {Wx : Wish} {c : Ctx} {x y : Expr} {es : List ME} {a : ME} {pos p p2 : Pos}
/-- the seen value and its answers -/
theorem isi_seen {σ : L2.St} {e : Env} {H : Hp} {F W : Fs} {own : Nat → List Addr} {u : V} {v : Val} {fp : List Addr} {ts : List Ty} {b : Bool} (G : ClsK X.K ca c.sub) (R : Rel X.K ca σ H e F own) (h : RV X.K ca σ H F W u v fp) (s : isiV c e v ts = some b) :
    ∃ t f, TyA X.K H u t ∧ (∀ ty v, PM.tyV ca ty = some v → PySem.W.kitOne X.K t (tyU v) = some (f ty)) ∧ b = ts.any f := by
  have dat : (PM.see e v).map (fun x => ts.any fun t => tyD t x) = some b → ∃ t f, TyA X.K H u t ∧ (∀ ty v, PM.tyV ca ty = some v → PySem.W.kitOne X.K t (tyU v) = some (f ty)) ∧ b = ts.any f := fun s => by
    obtain ⟨z, hz, rfl⟩ := Option.map_eq_some_iff.mp s
    exact ⟨_, fun t => tyD t z, .x (h.seeF R hz).ty, fun ty v hv => kit_dat G z hv, rfl⟩
  cases v with
  | ex cc fs =>
    cases fs with
    | cons _ _ => cases s
    | nil =>
    cases s
    cases h with
    | val r _ _ =>
      cases r with
      | @ex a C _ _ d hc ha hx =>
        rcases hx with ⟨_, rfl⟩ | ⟨ne, _⟩
        · exact ⟨_, fun t => tyE c.sub cc t, .e ha (G.exc _ _ hc), fun ty v hv => kit_exc G hc hv, rfl⟩
        · exact absurd rfl ne
  | d z => exact dat s
  | ol z => exact dat s
  | od z => exact dat s
  | pk z => exact dat s
theorem mapM_len {α β : Type} {f : α → Option β} : ∀ {l : List α} {m : List β}, l.mapM f = some m → m.length = l.length
  | [], m, h => by cases h; rfl
  | x :: l, m, h => by
    rw [List.mapM_cons] at h
    obtain ⟨v, hv, h⟩ := Option.bind_eq_some_iff.mp h
    obtain ⟨ws, hw, h⟩ := Option.bind_eq_some_iff.mp h
    cases h
    rw [List.length_cons, List.length_cons, mapM_len hw]
theorem paired {ca : Str → Option Addr} : ∀ {ts : List Ty} {vs : List V}, ts.mapM (PM.tyV ca) = some vs → Paired ClsV vs (vs.map tyU)
  | [], vs, h => by cases h; exact .nil
  | t :: ts, vs, h => by
    rw [List.mapM_cons] at h
    obtain ⟨v, hv, h⟩ := Option.bind_eq_some_iff.mp h
    obtain ⟨ws, hw, h⟩ := Option.bind_eq_some_iff.mp h
    cases h
    exact .cons (tyV_cls hv) (paired hw)
/-- isinstance(x, T) -/
theorem pm_isi1 {t : Ty} {v : V} (G : ClsK X.K ca c.sub) (hg : Gl X "isinstance") (hm : X.mg "isinstance" = none) (ha : PE X x (tI X.K ca Wx c a)) (hy : PE X y (tC v)) (hv : PM.tyV ca t = some v)
    (he : starEach [x, y] X.env = (false, eval x X.env) :: starEach [y] X.env) (he2 : starEach [y] X.env = (false, eval y X.env) :: starEach [] X.env) (hpl : (backTo pos (starEach [y] X.env)).any (·.1) = false) :
    PE X (.Call (.Name "isinstance" p) [x, y] [] pos) (tI X.K ca Wx c (.isi a [t])) :=
  (pe_callB call_isA hg hm boot_isinstance (pa_cons ha (pa_cons hy pa_nil he2) he) (by decide) (by decide) he hpl).weak fun σ H Q ⟨e, F, own, R, P⟩ => by
    refine rd_one (r := fun u H1 => ∃ (x c : V) (t u' : Value) (b : Bool), [u, v] = [x, c] ∧ ClsV c u' ∧ TyA X.K H1 x t ∧ PySem.W.kitOne X.K t u' = some b ∧ Q (.bl b) H1) R P fun va e2 u H2 F2 own2 fp R2 V2 N2 E2 P => ?_
    obtain ⟨w, hw, P⟩ := PR.opt P
    obtain ⟨b, hb, rfl⟩ := Option.map_eq_some_iff.mp hw
    obtain ⟨ty, f, h1, h2, rfl⟩ := isi_seen G R2 V2 hb
    exact ⟨u, v, ty, tyU v, f t, rfl, tyV_cls hv, h1, h2 t v hv, by simpa using QV.scal P R2 E2 (.bl _)⟩
/-- isinstance(x, (T, ..)) -/
theorem pm_isiT {ts : List Ty} {vs : List V} {ys : List Expr} {k : Nat} {te : TA} (G : ClsK X.K ca c.sub) (hg : Gl X "isinstance") (hm : X.mg "isinstance" = none) (ha : PE X x (tI X.K ca Wx c a)) (hy : PA X ys te) (hte : ∀ σ H Q, Q vs H → te σ H Q) (hv : ts.mapM (PM.tyV ca) = some vs) (hl : vs.length ≤ sizeLine)
    (he : starEach [x, .Tuple ys k p2] X.env = (false, eval x X.env) :: starEach [.Tuple ys k p2] X.env) (he2 : starEach [.Tuple ys k p2] X.env = (false, eval (.Tuple ys k p2) X.env) :: starEach [] X.env) (hpl : (backTo pos (starEach [.Tuple ys k p2] X.env)).any (·.1) = false) :
    PE X (.Call (.Name "isinstance" p) [x, .Tuple ys k p2] [] pos) (tI X.K ca Wx c (.isi a ts)) :=
  (pe_callB call_isTA hg hm boot_isinstance (pa_cons ha (pa_cons (pe_tup hy) pa_nil he2) he) (by decide) (by decide) he hpl).weak fun σ H Q ⟨e, F, own, R, P⟩ => by
    refine rd_one (r := fun u H1 => tTup te σ H1 fun w H2 => ∃ (x : V) (tp : Addr) (cs : List V) (t : Value) (us : List Value) (b : Bool), [u, w] = [x, .ref tp] ∧ H2 tp = some (.tup cs) ∧ Paired ClsV cs us ∧ TyA X.K H2 x t ∧ PySem.W.kitAny X.K t us = some b ∧ Q (.bl b) H2) R P fun va e2 u H2 F2 own2 fp R2 V2 N2 E2 P => ?_
    obtain ⟨w, hw, P⟩ := PR.opt P
    obtain ⟨b, hb, rfl⟩ := Option.map_eq_some_iff.mp hw
    refine hte _ _ _ ⟨hl, fun q hq => ?_⟩
    have R3 := R2.alloc (p := q) (o := .tup vs) hq
    have E3 : Ext H2 F2 (Ow own2) (upd H2 q (.tup vs)) F2 (Ow own2) := Ext.alloc hq
    obtain ⟨ty, f, h1, h2, rfl⟩ := isi_seen G R3 (V2.ext E3 R2.wok) hb
    exact ⟨u, q, vs, ty, vs.map tyU, ts.any f, rfl, upd_same, paired hv, h1, kit_any h2 hv, QV.scal P R3 (E2.trans E3) (.bl _)⟩
end
end PM
end

section
set_option Elab.async false
set_option linter.all false
set_option maxRecDepth 100000
set_option maxHeartbeats 2000000
/-! PMMt: methods; what a slot owns, changed. -/
namespace PM
open PySem PySem.Spec PyProof.Rows L2
section
variable {K : PySem.W.Frag} {ca : Str → Option Addr} {σ : L2.St} {e : Env} {H H' : Hp} {F F' W W' : Fs} {own : Nat → List Addr}
theorem VRs.appD : ∀ {us : List V} {vs : List Val} {fp : List Addr} {ws : List V} {ds : List D}, VRs K ca H F us vs fp → Dens K H F ws ds → VRs K ca H F (us ++ ws) (vs ++ ds.map .d) fp
  | _, _, _, _, _, .nil, d => d.vrs
  | _, _, _, _, _, .cons h r, d => .cons h (VRs.appD r d)
theorem Rel.mutL {i : Nat} {vs : List Val} (R : Rel K ca σ H e F own) (h : getS e i = some (.ol vs)) : ∃ p us fp, σ[i]? = some (some (.ref p)) ∧ H p = some (.lst us) ∧ own i = p :: fp ∧ VRs K ca H F us vs fp ∧
    ∀ us' vs', (VRs K ca H F us' vs' fp) → Rel K ca σ (upd H p (.lst us')) (e.set i (some (.ol vs'))) F own ∧ Ext H F (Ow own) (upd H p (.lst us')) F (Ow own) := by
  obtain ⟨u, hu, r⟩ := R.slot i _ h
  generalize hfp : own i = fpi at r
  cases r with
  | @ol p us _ fp hp r =>
    refine ⟨p, us, fp, hu, hp, rfl, r, fun us' vs' r' => ?_⟩
    have nd : (p :: fp).Nodup := hfp ▸ R.nd i
    have np : p ∉ fp := (List.nodup_cons.mp nd).1
    have mi : p ∈ own i := by rw [hfp]; exact List.mem_cons_self
    have E : Ext H F (fun a => a = p) (upd H p (.lst us')) F (fun a => a = p) := Ext.upd rfl
    have w : Wok H F (fun a => a = p) := fun a z => by subst z; exact ⟨R.nf i _ mi, .inl ⟨_, hp⟩⟩
    have r2 : VRs K ca (upd H p (.lst us')) F us' vs' fp := r'.ext E w fun a m z => np (z ▸ m)
    have al : ∀ a, F a → (upd H p (.lst us')) a ≠ none := fun a f => by
      by_cases q : a = p
      · subst q; rw [upd_same]; exact fun z => nomatch z
      · rw [upd_ne q]; exact R.al a f
    have R2 := R.put (i := i) (u := .ref p) (v := .ol vs') (fp := p :: fp) (W := fun a => a ∈ own i) (W' := fun _ => False) (F' := F) (H' := upd H p (.lst us')) (List.getElem?_eq_some_iff.mp hu).1
      (E.widen (U := fun a => a ∈ own i) (U' := fun _ => False) (fun a z => by subst z; exact mi) fun _ z => z.elim)
      (fun a m => R.wok a ⟨i, m⟩) (fun j a ne m z => ne (R.dj j i a m z)) (.ol upd_same r2) nd (fun a m => ⟨R.nf i a (hfp ▸ m), .inl (hfp ▸ m)⟩) al
    rw [σset_self hu] at R2
    have eo : (fun j => if j = i then p :: fp else own j) = own := by
      funext j
      by_cases q : j = i
      · subst q; rw [if_pos rfl, hfp]
      · rw [if_neg q]
    rw [eo] at R2
    exact ⟨R2, E.widen (fun a z => by subst z; exact ⟨i, mi⟩) fun a z => .inl z⟩
theorem Dens.dropLast {us : List V} {ds : List D} (h : Dens K H F us ds) : Dens K H F us.dropLast ds.dropLast := by
  rw [List.dropLast_eq_take, List.dropLast_eq_take, h.len]
  exact h.take _
theorem Dens.set {us : List V} {ds : List D} {u : V} {x : D} : ∀ {j : Nat}, Dens K H F us ds → Den K H F u x → Dens K H F (us.set j u) (ds.set j x)
  | _, .nil, _ => .nil
  | 0, .cons _ r, d => .cons d r
  | j + 1, .cons h r, d => .cons h (Dens.set r d)
end
section
variable {X : Cx} {ca : Str → Option Addr} {Wx : Wish} {c : Ctx} {x y : Expr} {xs : List Expr} {es : List ME} {a : ME} {pos apos : Pos} {nm : Str} {i : Nat}
theorem list_extend_tupleA (l : Addr) (items : Array Value) (n : Nat) (b : Addr) (items2 : Array Value) (n2 : Nat) (dd : Option Addr) (sl : Array (Option Value)) (hs0 : ¬(!items.isEmpty && Builtin.List.listTooLong (items.size + items2.size)) = true) (hs1 : items.size ≤ sizeLine) (hs2 : items.size + items2.size ≤ sizeLine + 1) :
    Meets (Builtin.«list.extend» ⟨[.ref l, .ref b], []⟩) (fun _ R s => s.heap.get? l = some { cls := .type "list", dict := none, data := .seq items n, slots := #[] } ∧ s.heap.get? b = some { cls := .type "tuple", dict := dd, data := .seq items2 n2, slots := sl } ∧ R (.ok (.ret Value.none)) { s with heap := s.heap.update l (Obj.mapSeq fun x => x ++ items2), toks := s.toks }) :=
  .of_wp fun prog w A R s h => by
    obtain ⟨hp, g, d, tk, os⟩ := s; obtain ⟨hl, hb, h⟩ := h; have f1 := AutoSeq1.idx_int; have f2 := AutoSeq1.sub_tuple_tuple; have f3 := AutoSeq1.sub_list_list; have f4 := AutoSeq1.sub_tuple_list; have f5 := AutoSeq1.sub_list_tuple;
    have hz' : (items ++ items2).size ≤ sizeLine + 1 := by rw [Array.size_append]; exact hs2
    wp_walk using (wpAny_updateSeq hl rfl (hz := hs1) (_hz' := hz')), wpAny_loadPart' hl, wpAny_loadPart' hb; exact ⟨_, rfl, h⟩
/-- extend by a list that is read -/
theorem mt_extendR : MtM X "list.extend" (fun x vs H Q => ∃ l b xs zs, x = .ref l ∧ vs = [.ref b] ∧ H l = some (.lst xs) ∧ (Rd H b (.lst zs) ∨ SqT X.K H b zs) ∧ xs.length + zs.length ≤ sizeLine ∧ Q .non (upd H l (.lst (xs ++ zs)))) := by
  intro pins s σ H x vs v us Q I rx rv h
  obtain ⟨l, b, xs, zs, rfl, rfl, hH, hB, hz, q⟩ := h
  cases rx
  obtain ⟨u, rfl, ru⟩ := rv.one
  cases ru
  obtain ⟨z, its, n, r, hl, e⟩ := I.lstM hH
  rcases hB with hB | hB
  rotate_left
  · obtain ⟨its2, r2, ⟨⟨cls, dd, data, sl⟩, e2, hc2, n2, hd2⟩, z2⟩ := I.tuple hB
    simp only at hc2 hd2
    subst hc2 hd2
    have hl2 := r2.length
    have hsz : its.toArray.size + its2.toArray.size ≤ sizeLine := by rw [List.size_toArray, List.size_toArray]; omega
    have hlong : ¬ (!its.toArray.isEmpty && Builtin.List.listTooLong (its.toArray.size + its2.toArray.size)) = true := by
      rw [notLongL hsz, Bool.and_false]
      exact Bool.false_ne_true
    refine call_meets PySem.F.slot_list_extend ⟨_, e, rfl⟩ PySem.F.entry_list_extend (PySem.F.args_list_extend_2 _ _)
      (list_extend_tupleA l its.toArray n b its2.toArray n2 _ _ hlong (by rw [List.size_toArray]; omega) (by omega)) ⟨e, e2, ?_⟩
    refine ⟨.non, _, I.lset (its' := its ++ its2) hH e (by simp) (r.append r2) ?_, rfl, q⟩
    rw [List.length_append]
    omega
  obtain ⟨z2, its2, n2, r2, e2⟩ := hB.ok I.hok
  have hl2 := r2.length
  have hsz : its.toArray.size + its2.toArray.size ≤ sizeLine := by rw [List.size_toArray, List.size_toArray]; omega
  have hlong : ¬ (!its.toArray.isEmpty && Builtin.List.listTooLong (its.toArray.size + its2.toArray.size)) = true := by
    rw [notLongL hsz, Bool.and_false]
    exact Bool.false_ne_true
  refine call_meets PySem.F.slot_list_extend ⟨_, e, rfl⟩ PySem.F.entry_list_extend (PySem.F.args_list_extend_2 _ _)
    (AutoSeq1.list_extend_list_list_0 l its.toArray n b its2.toArray n2 hlong (by rw [List.size_toArray]; omega) (by omega)) ⟨e, e2, ?_⟩
  refine ⟨.non, _, I.lset (its' := its ++ its2) hH e (by simp) (r.append r2) ?_, rfl, q⟩
  rw [List.length_append]
  omega
/-- what a list method makes of it -/
def MuR (K : PySem.W.Frag) (ca : Str → Option Addr) (m : Mu) (r : V → List V → Hp → VK → Prop) : Prop := ∀ (H : Hp) (F : Fs) (p : Addr) (us ws : List V) (vs : List Val) (fp : List Addr) (ds : List D) (w o' : Val) (Q : VK), H p = some (.lst us) → VRs K ca H F us vs fp → Dens K H F ws ds → muV m (.ol vs) ds = some (w, o') →
  (∀ u us' vs' x, o' = .ol vs' → w = .d x → Den K H F u x → VRs K ca H F us' vs' fp → Q u (upd H p (.lst us'))) → r (.ref p) ws H Q
theorem mu_append : MuR X.K ca .append rAppend := by
  intro H F p us ws vs fp ds w o' Q hp r d hm q
  match ds, hm with
  | [x], hm =>
    have hm : (if vs.length < lineN then some (Val.d .none, Val.ol (vs ++ [.d x])) else none) = some (w, o') := hm
    split at hm
    · rename_i hl
      cases hm
      have l := d.len
      match ws, l with
      | [y], _ =>
        exact ⟨p, us, y, rfl, rfl, hp, by rw [r.len]; exact hl, q .non _ _ .none rfl rfl .non (r.appD d)⟩
    · cases hm
theorem mu_extend : MuR X.K ca .extend (fun x vs H Q => ∃ l b xs zs, x = .ref l ∧ vs = [.ref b] ∧ H l = some (.lst xs) ∧ (Rd H b (.lst zs) ∨ SqT X.K H b zs) ∧ xs.length + zs.length ≤ sizeLine ∧ Q .non (upd H l (.lst (xs ++ zs)))) := by
  intro H F p us ws vs fp ds w o' Q hp r d hm q
  match ds, hm with
  | [.list zs], hm =>
    have hm : (if vs.length + zs.length ≤ lineN then some (Val.d .none, Val.ol (vs ++ zs.map .d)) else none) = some (w, o') := hm
    split at hm
    · rename_i hl
      cases hm
      cases d with
      | cons d t =>
        cases t
        cases d with
        | lst hf dd => exact ⟨p, _, us, _, rfl, rfl, hp, .inl hf.rd, by rw [r.len, dd.len]; exact hl, q .non _ _ .none rfl rfl .non (r.appD dd)⟩
    · cases hm
  | [.tuple zs], hm =>
    have hm : (if vs.length + zs.length ≤ lineN then some (Val.d .none, Val.ol (vs ++ zs.map .d)) else none) = some (w, o') := hm
    split at hm
    · rename_i hl
      cases hm
      cases d with
      | cons d t =>
        cases t
        cases d with
        | tup hf dd => exact ⟨p, _, us, _, rfl, rfl, hp, .inr hf, by rw [r.len, dd.len]; exact hl, q .non _ _ .none rfl rfl .non (r.appD dd)⟩
    · cases hm
theorem mu_pop : MuR X.K ca .pop rPop := by
  intro H F p us ws vs fp ds w o' Q hp r d hm q
  match ds, hm with
  | [], hm =>
    obtain ⟨es, he, hm⟩ := Option.bind_eq_some_iff.mp (show (allD vs).bind (fun ds => match ds.getLast? with
      | some x => some (Val.d x, Val.ol (ds.dropLast.map .d))
      | none => none) = some (w, o') from hm)
    cases hx : es.getLast? with
    | none => rw [hx] at hm; cases hm
    | some x =>
      rw [hx] at hm
      cases hm
      cases d
      obtain ⟨dd, rfl⟩ := r.dens he
      rw [List.getLast?_eq_getElem?] at hx
      obtain ⟨u, hu, du⟩ := dd.get hx
      exact ⟨p, us, u, rfl, rfl, hp, by rw [dd.len]; exact hu, q u _ _ x rfl rfl du dd.dropLast.vrs⟩
theorem mu_clear : MuR X.K ca .clear rClear := by
  intro H F p us ws vs fp ds w o' Q hp r d hm q
  match ds, hm with
  | [], hm =>
    obtain ⟨es, he, hm⟩ := Option.map_eq_some_iff.mp (show (allD vs).map (fun _ => (Val.d .none, Val.ol [])) = some (w, o') from hm)
    cases hm
    cases d
    obtain ⟨dd, rfl⟩ := r.dens he
    exact ⟨p, us, rfl, rfl, hp, q .non _ _ .none rfl rfl .non .nil⟩
theorem mu_w {m : Mu} {r : V → List V → Hp → VK → Prop} (hr : MuR X.K ca m r) (hl : ∀ o ds, muV m o ds ≠ none → ∃ vs, o = .ol vs) (ho : ∀ o ds w o', muV m o ds = some (w, o') → ∃ x vs', w = .d x ∧ o' = .ol vs') {σ : L2.St} {H : Hp} {Q : VK}
    (h : tI X.K ca Wx c (.mu m i es) σ H Q) : tVar i σ H fun x H1 => (∃ p us, x = .ref p ∧ H1 p = some (.lst us)) ∧ tIs X.K ca Wx c es σ H1 fun us H2 => r x us H2 Q := by
  obtain ⟨e, F, own, R, P⟩ := h
  have P : PR (if isOl (getS e i) = true then (evs c es e).bind fun vs e1 => match takes e1 vs with
    | some (ds, e2) => match getS e2 i with
      | some o => match muV m o ds with
        | some (r, o') => .ok r (e2.set i (some o'))
        | none => .no
      | none => .no
    | none => .no
    else .no) _ _ := P
  split at P
  · rename_i h0
    cases h1 : getS e i with
    | none => rw [h1] at h0; cases h0
    | some o =>
      cases o with
      | ol vs0 =>
        obtain ⟨p, us0, fp0, hu, hp, _⟩ := R.mutL h1
        refine ⟨.ref p, hu, ⟨p, us0, rfl, hp⟩, rd_list (r := fun us H2 => r (.ref p) us H2 Q) Ext.refl R P fun vs e2 us H2 F2 own2 fp R2 V2 N2 E2 E P => ?_⟩
        cases h2 : takes e2 vs with
        | none => rw [h2] at P; exact P.elim
        | some q =>
          obtain ⟨ds, e3⟩ := q
          rw [h2] at P
          dsimp only at P
          cases h3 : getS e3 i with
          | none => rw [h3] at P; exact P.elim
          | some o =>
            rw [h3] at P
            dsimp only at P
            cases h4 : muV m o ds with
            | none => rw [h4] at P; exact P.elim
            | some q =>
              obtain ⟨w, o'⟩ := q
              rw [h4] at P
              dsimp only at P
              obtain ⟨F3, own3, R3, D3, E3⟩ := V2.takes R2 h2
              obtain ⟨vs3, rfl⟩ := hl o ds (by rw [h4]; exact fun z => nomatch z)
              obtain ⟨p', us3, fp3, hu3, hp3, ho3, r3, mk⟩ := R3.mutL h3
              rw [hu] at hu3
              cases hu3
              obtain ⟨x, vs', rfl, rfl⟩ := ho _ _ _ _ h4
              refine hr H2 F3 p us3 us vs3 fp3 ds _ _ Q hp3 r3 D3 h4 fun u us' vs'' y eo ew du r' => ?_
              cases eo
              cases ew
              obtain ⟨R4, E4⟩ := mk us' vs' r'
              exact QV.scal P R4 (((E.addT N2).trans E3).trans E4) (du.ext E4 R3.wok)
      | _ => rw [h1] at h0; cases h0
  · exact P.elim
theorem pm_mu {id : String} {m : Mu} {r : V → List V → Hp → VK → Prop} (hr : MuR X.K ca m r) (hl : ∀ o ds, muV m o ds ≠ none → ∃ vs, o = .ol vs) (ho : ∀ o ds w o', muV m o ds = some (w, o') → ∃ x vs', w = .d x ∧ o' = .ol vs')
    (slot : Slot "list" nm id) (hty : typeOf (.builtin id) = pure (.type "method_descriptor")) (hm : MtM X id r) (hx : PE X x (tVar i)) (ha : PA X (y :: xs) (tIs X.K ca Wx c es))
    (hbase : attributeBase x nm X.env (eval x X.env) = eval x X.env)
    (hfew : ((backTo pos (starEach (y :: xs) X.env)).all (fun x => !x.1) && (backToKw pos (keywordEach [] X.env)).all (fun x => x.1.isSome)
      && decide ((y :: xs).length + ([] : List Keyword).length + (if ([] : List Keyword).isEmpty then 0 else 1) < 30)) = true)
    (hline : (apos.endLine == pos.line) = true) (hs : starEach (y :: xs) X.env = (false, eval y X.env) :: starEach xs X.env) (hplain : (backTo pos (starEach xs X.env)).any (·.1) = false) :
    PE X (.Call (.Attribute x nm apos) (y :: xs) [] pos) (tI X.K ca Wx c (.mu m i es)) :=
  (pe_bm (T := "list") PySem.F.plainAttrs_list slot hty hm hx ha hbase hfew hline hs hplain).weak fun σ H Q h => by
    obtain ⟨v, hv, ⟨p, us, rfl, hp⟩, t⟩ := mu_w hr hl ho h
    exact ⟨_, hv, .inl ⟨rfl, _, .inl (.inl hp)⟩, t⟩
theorem pm_mu0 {id : String} {m : Mu} {r : V → List V → Hp → VK → Prop} (hr : MuR X.K ca m r) (hl : ∀ o ds, muV m o ds ≠ none → ∃ vs, o = .ol vs) (ho : ∀ o ds w o', muV m o ds = some (w, o') → ∃ x vs', w = .d x ∧ o' = .ol vs')
    (slot : Slot "list" nm id) (hty : typeOf (.builtin id) = pure (.type "method_descriptor")) (hm : MtM X id r) (hx : PE X x (tVar i))
    (hbase : attributeBase x nm X.env (eval x X.env) = eval x X.env) (hline : (apos.endLine == pos.line) = true) :
    PE X (.Call (.Attribute x nm apos) [] [] pos) (tI X.K ca Wx c (.mu m i [])) :=
  (pe_bm0 (T := "list") PySem.F.plainAttrs_list slot hty hm hx hbase hline).weak fun σ H Q h => by
    obtain ⟨v, hv, ⟨p, us, rfl, hp⟩, e, F, own, R, P⟩ := mu_w hr hl ho h
    exact ⟨_, hv, .inl ⟨rfl, _, .inl (.inl hp)⟩, P [] H F own [] R .nil (fun a m => by cases m) Ext.refl⟩
end
end PM
end

section
set_option Elab.async false
set_option linter.all false
set_option maxRecDepth 100000
set_option maxHeartbeats 2000000
/-! PMMt2: methods of texts; stores into lists; name op= e; raise; try; a, b = x, y. -/
namespace PM
open PySem PySem.Spec PyProof.Rows L2
section
variable {X : Cx} {ca : Str → Option Addr} {Wx : Wish} {c : Ctx} {x y z : Expr} {xs : List Expr} {es : List ME} {a b : ME} {pos apos : Pos} {nm : Str} {i : Nat}
theorem pm_mt1 {id : String} {m : Mt} {r : V → List V → Hp → VK → Prop} (hr : ∀ (H : Hp) (F : Fs) (t : Str) (u : V) (d : D) (v : Val) (Q : VK), SeeF X.K H F u d → mtD m (.str t) [d] = some v → (∀ u H', Made X.K H F v u H' → Q u H') → r (.str t) [u] H Q)
    (slot : Slot "str" nm id) (hty : typeOf (.builtin id) = pure (.type "method_descriptor")) (hm : MtR X id r) (ho : PE X x (tI X.K ca Wx c a)) (ha : PE X y (tI X.K ca Wx c b))
    (hs : starEach [y] X.env = [(false, eval y X.env)]) (hbase : attributeBase x nm X.env (eval x X.env) = eval x X.env) (hline : (apos.endLine == pos.line) = true) :
    PE X (.Call (.Attribute x nm apos) [y] [] pos) (tI X.K ca Wx c (.mt m a [b])) :=
  (pe_m1 slot hty hm ho ha hs hbase hline).weak fun σ H Q ⟨e, F, own, R, P⟩ => by
    refine rd_one (r := fun u H1 => (∃ a, u = .str a) ∧ tI X.K ca Wx c b σ H1 fun y H2 => r u [y] H2 Q) R P fun va e1 u H1 F1 own1 fp1 R1 V1 N1 E1 P => ?_
    cases va with
    | d q =>
      cases q with
      | str t =>
        obtain rfl := (V1.seeF R1 (x := .str t) rfl).str
        refine ⟨⟨t, rfl⟩, rd_next (r := fun y H2 => r (.str t) [y] H2 Q) E1 R1 (PR.one' (g := fun vs e2 => match sees e2 vs with
          | some ds => opt (mtD m (.str t) ds) e2
          | none => .no) P) fun vb e2 w H2 F2 own2 fp2 R2 V2 N2 E2 E P => ?_⟩
        have P : PR (match sees e2 [vb] with
          | some ds => opt (mtD m (.str t) ds) e2
          | none => .no) _ _ := P
        unfold sees at P
        cases h1 : see e2 vb with
        | none => rw [h1] at P; exact P.elim
        | some d =>
          rw [h1] at P
          obtain ⟨v, hv, P⟩ := PR.opt (show PR (opt (mtD m (.str t) [d]) e2) _ _ from P)
          exact hr H2 F2 t w d v Q (V2.seeF R2 h1) hv (QV.made P R2 E)
      | _ => exact P.elim
    | _ => exact P.elim
theorem pm_mt0 {id : String} {m : Mt} {r : V → List V → Hp → VK → Prop} (hr : ∀ (H : Hp) (F : Fs) (t : Str) (v : Val) (Q : VK), mtD m (.str t) [] = some v → (∀ u H', Made X.K H F v u H' → Q u H') → r (.str t) [] H Q)
    (slot : Slot "str" nm id) (hty : typeOf (.builtin id) = pure (.type "method_descriptor")) (hm : MtR X id r) (ho : PE X x (tI X.K ca Wx c a))
    (hbase : attributeBase x nm X.env (eval x X.env) = eval x X.env) (hline : (apos.endLine == pos.line) = true) :
    PE X (.Call (.Attribute x nm apos) [] [] pos) (tI X.K ca Wx c (.mt m a [])) :=
  (pe_m0 slot hty hm ho hbase hline).weak fun σ H Q ⟨e, F, own, R, P⟩ => by
    refine rd_one (r := fun u H1 => (∃ a, u = .str a) ∧ r u [] H1 Q) R P fun va e1 u H1 F1 own1 fp1 R1 V1 N1 E1 P => ?_
    cases va with
    | d q =>
      cases q with
      | str t =>
        obtain rfl := (V1.seeF R1 (x := .str t) rfl).str
        obtain ⟨v, hv, P⟩ := PR.opt (show PR (opt (mtD m (.str t) []) e1) _ _ from P)
        exact ⟨⟨t, rfl⟩, hr H1 F1 t v Q hv (QV.made P R1 E1)⟩
      | _ => exact P.elim
    | _ => exact P.elim
theorem pm_join (ho : PE X x (tI X.K ca Wx c a)) (ha : PE X y (tI X.K ca Wx c b)) (hs : starEach [y] X.env = [(false, eval y X.env)]) (hbase : attributeBase x "join" X.env (eval x X.env) = eval x X.env) (hline : (apos.endLine == pos.line) = true) :
    PE X (.Call (.Attribute x "join" apos) [y] [] pos) (tI X.K ca Wx c (.mt .join a [b])) :=
  pm_mt1 (fun H F t u d v Q h e q => by
    obtain ⟨zs, hz, e⟩ := Option.bind_eq_some_iff.mp (show (items d).bind (fun xs => (strsD xs).bind fun ss => if (ss.map (·.length)).sum + ss.length * t.length ≤ 16777216 then some (Val.d (.str (Txt.join t ss))) else none) = some v from e)
    obtain ⟨ss, hss, e⟩ := Option.bind_eq_some_iff.mp e
    split at e
    · rename_i hl
      cases e
      obtain ⟨p, us, rfl, hp, d⟩ := h.items hz
      obtain rfl := d.strs hss
      exact ⟨t, p, ss, rfl, rfl, hp, hl, q _ _ (.here (.str _))⟩
    · cases e) PySem.F.slot_str_join PySem.F.type_str_join mt_join ho ha hs hbase hline
theorem pm_upper (ho : PE X x (tI X.K ca Wx c a)) (hbase : attributeBase x "upper" X.env (eval x X.env) = eval x X.env) (hline : (apos.endLine == pos.line) = true) :
    PE X (.Call (.Attribute x "upper" apos) [] [] pos) (tI X.K ca Wx c (.mt .upper a [])) :=
  pm_mt0 (fun H F t v Q e q => by
    have e : (if t.length ≤ 5592405 then some (Val.d (.str (Txt.upper t))) else none) = some v := e
    split at e
    · rename_i hl
      cases e
      exact ⟨t, rfl, rfl, hl, q _ _ (.here (.str _))⟩
    · cases e) PySem.F.slot_str_upper PySem.F.type_str_upper mt_upper ho hbase hline
/-! ### xs[i] = v -/
theorem s_setixL {k : ME} (hv : PE X y (tI X.K ca Wx c a)) (hx : PE X x (tVar i)) (hk : PE X z (tI X.K ca Wx c k)) (hs : swapsWithSole [.Subscript x z apos] y pos.line X.env = pure false) (hw : swappedStores [.Subscript x z apos] y X.env = pure none)
    (h1 : (assignEach [.Subscript x z apos] X.env).map (·.2) = [assign (.Subscript x z apos) X.env])
    (hasg : ∀ v, assign (.Subscript x z apos) X.env v = (do
      let ov ← holding [v] (eval x X.env)
      let iv ← holding [v, ov] (eval z X.env)
      standAt apos
      holding [v, ov, iv] (setItem ov iv v)
      release [v, ov, iv] [])) :
    PS X (.Assign [.Subscript x z apos] y pos) (tM X.K ca Wx c (.setix i k a)) :=
  (ps_asg hv (pg_sub hx hk set_list hasg) hs hw h1).weak fun D σ H ⟨e, F, own, R, P⟩ =>
    sd_one (r := fun u H1 => gSub (tVar i) (tI X.K ca Wx c k) rSetL u σ H1 D.nx) R P fun va e2 u H2 F2 own2 fp R2 V2 N2 E2 P => by
      cases h1 : take e2 va with
      | none => rw [h1] at P; exact P.elim
      | some q =>
        obtain ⟨d, e3⟩ := q
        rw [h1] at P
        dsimp only at P
        obtain ⟨F3, own3, R3, D3, E3⟩ := V2.take R2 h1
        have E23 := (E2.addT N2).trans E3
        split at P
        · rename_i h0
          cases hi : getS e3 i with
          | none => rw [hi] at h0; cases h0
          | some o =>
            cases o with
            | ol vs0 =>
              obtain ⟨p, us0, fp0, hu, hp, _⟩ := R3.mutL hi
              refine ⟨.ref p, hu, sd_next (r := fun w H4 => rSetL (.ref p) w u H4 fun H5 => D.nx σ H5) E23 R3 P fun vk e4 w H4 F4 own4 fp4 R4 V4 N4 E4 P => ?_⟩
              have P : GoF X.K ca Wx c σ H F (Ow own) D (match see e4 vk, getS e4 i with
                | some kd, some o => match setIx o kd d with
                  | some o' => .ok .nx (e4.set i (some o'))
                  | none => .no
                | _, _ => .no) := P
              cases hk : see e4 vk with
              | none => rw [hk] at P; exact P.elim
              | some kd =>
                cases ho : getS e4 i with
                | none => rw [hk, ho] at P; exact P.elim
                | some o =>
                  rw [hk, ho] at P
                  dsimp only at P
                  cases hx : setIx o kd d with
                  | none => rw [hx] at P; exact P.elim
                  | some o' =>
                    rw [hx] at P
                    cases o with
                    | ol vs =>
                      obtain ⟨ds, hd, hx⟩ := Option.bind_eq_some_iff.mp (show (allD vs).bind (fun ds => match kd with
                        | .int i => (L2.ixN ds.length i).map fun j => Val.ol ((ds.set j d).map .d)
                        | _ => none) = some o' from hx)
                      cases kd with
                      | int n =>
                        obtain ⟨j, hj, rfl⟩ := Option.map_eq_some_iff.mp (show (L2.ixN ds.length n).map (fun j => Val.ol ((ds.set j d).map .d)) = some o' from hx)
                        obtain ⟨p', us, fpx, hu4, hp4, ho4, r4, mk⟩ := R4.mutL ho
                        rw [hu] at hu4
                        cases hu4
                        obtain ⟨dd, rfl⟩ := r4.dens hd
                        obtain rfl := (V4.seeF R4 hk).int
                        have du := D3.ext E4 R3.wok
                        obtain ⟨R5, E5⟩ := mk (us.set j u) _ (dd.set du).vrs
                        exact ⟨p, us, n, j, rfl, rfl, hp4, by rw [dd.len]; exact hj, P σ _ F4 own4 .refl R5 ((E23.trans E4).trans E5)⟩
                      | _ => cases hx
                    | _ => cases hx
            | _ => rw [hi] at h0; cases h0
        · exact P.elim
end
end PM
end

section
set_option Elab.async false
set_option linter.all false
set_option maxRecDepth 100000
set_option maxHeartbeats 2000000
/-! PMMt3: name op= e; a, b = x, y; raise; try: .. except C as n: y = n. -/
namespace PM
open PySem PySem.Spec PyProof.Rows L2
section
variable {K : PySem.W.Frag} {ca : Str → Option Addr} {c : Ctx} {σ : L2.St} {e e' : Env} {H H' : Hp} {F F' W W' : Fs} {own : Nat → List Addr}
theorem RVs.stowAll : ∀ {vs : List Val} {us : List V} {fp : List Addr} {vs' : List Val} {e e' : Env} {F : Fs} {own : Nat → List Addr}, Rel K ca σ H e F own → RVs K ca σ H F (Ow own) us vs fp → PM.stowAll e vs = some (vs', e') →
    ∃ F' own' fp', Rel K ca σ H e' F' own' ∧ VRs K ca H F' us vs' fp' ∧ fp'.Nodup ∧ (∀ a ∈ fp', ¬ F' a ∧ ¬ Ow own' a) ∧ (∀ a ∈ fp', a ∈ fp) ∧ Ext H F (fun a => Ow own a ∨ a ∈ fp) H F' (Ow own')
  | [], us, fp, vs', e, e', F, own, R, h, t => by
    cases h
    cases t
    exact ⟨F, own, [], R, .nil, .nil, fun a m => (by cases m), fun a m => (by cases m), Ext.same fun a z => .inl (.inl z)⟩
  | v :: vs, us, fp, vs', e, e', F, own, R, h, t => by
    cases h with
    | @cons u us v vs fp gp h r d =>
      obtain ⟨⟨v', e1⟩, h1, t⟩ := Option.bind_eq_some_iff.mp (show (PM.stow e v).bind (fun p => (PM.stowAll p.2 vs).map fun q => (p.1 :: q.1, q.2)) = some (vs', e') from t)
      obtain ⟨⟨ws, e2⟩, h2, t⟩ := Option.map_eq_some_iff.mp t
      cases t
      obtain ⟨F1, own1, fp1, R1, r1, n1, f1, s1, E1⟩ := h.stow R h1
      have w1 := R.wok.addT h
      have rr : RVs K ca σ H F1 (Ow own1) us vs gp := (r.widen (gp := fp) fun a m z => d a z m).ext E1 w1
      obtain ⟨F2, own2, fp2, R2, r2, n2, f2, s2, E2⟩ := RVs.stowAll R1 rr h2
      have w2 := R1.wok.addTs rr
      have dj : ∀ a ∈ fp1, ¬ (Ow own1 a ∨ a ∈ gp) := fun a m z => z.elim (f1 a m).2 (d a (s1 a m))
      have r1' : VR K ca H F2 u v' fp1 := r1.ext E2 w2 dj
      have fr : ∀ a ∈ fp1, ¬ F2 a ∧ ¬ Ow own2 a := fun a m => ⟨fun f => (E2.fr' a f).elim (f1 a m).1 fun z => z.elim (dj a m) (r1.mb a m).some, fun w => (E2.own a w).elim (dj a m) (r1.mb a m).some⟩
      refine ⟨F2, own2, fp1 ++ fp2, R2, .cons r1' r2, List.nodup_append.mpr ⟨n1, n2, fun a m b m' => ?_⟩, fun a m => (List.mem_append.mp m).elim (fr a) (f2 a), fun a m => ?_, ?_⟩
      · rintro rfl
        exact d a (s1 a m) (s2 a m')
      · exact (List.mem_append.mp m).elim (fun m => List.mem_append_left _ (s1 a m)) fun m => List.mem_append_right _ (s2 a m)
      · have E1' : Ext H F (fun a => Ow own a ∨ a ∈ fp ++ gp) H F1 (fun a => Ow own1 a ∨ a ∈ gp) := by
          refine E1.widen (fun a z => z.elim .inl fun m => .inr (List.mem_append_left _ m)) fun a z => z.elim (fun z => ?_) fun m => .inl (.inr (List.mem_append_right _ m))
          exact (E1.own a z).imp (fun z => z.elim .inl fun m => .inr (List.mem_append_left _ m)) id
        exact E1'.trans E2
def setsσ (σ : L2.St) : List Nat → List V → L2.St
  | i :: is, u :: us => setsσ (σ.set i (some u)) is us
  | _, _ => σ
theorem setAll_ok : ∀ {is : List Nat} {vs : List Val} {us : List V} {fp : List Addr} {σ : L2.St} {e e' : Env} {own : Nat → List Addr}, Rel K ca σ H e F own → VRs K ca H F us vs fp → fp.Nodup → (∀ a ∈ fp, ¬ F a ∧ ¬ Ow own a) → setAll c is vs e = some e' →
    is.length = us.length ∧ Prz c σ (setsσ σ is us) ∧ ∃ own', Rel K ca (setsσ σ is us) H e' F own' ∧ ∀ a, Ow own' a → Ow own a ∨ a ∈ fp
  | [], vs, us, fp, σ, e, e', own, R, h, nd, f, s => by
    cases vs with
    | nil =>
      cases h
      cases s
      exact ⟨rfl, .refl, own, R, fun a z => .inl z⟩
    | cons _ _ => cases s
  | i :: is, vs, us, fp, σ, e, e', own, R, h, nd, f, s => by
    cases vs with
    | nil => cases s
    | cons v vs =>
      cases h with
      | @cons u us v vs fp gp h r =>
        obtain ⟨e1, h1, s⟩ := Option.bind_eq_some_iff.mp (show (setSl c e i v).bind (fun e1 => setAll c is vs e1) = some e' from s)
        obtain ⟨n1, n2, n3⟩ := List.nodup_append.mp nd
        obtain ⟨p1, own1, R1, o1⟩ := R.sets h n1 (fun a m => f a (List.mem_append_left _ m)) h1
        obtain ⟨l, p2, own2, R2, o2⟩ := setAll_ok R1 r n2 (fun a m => ⟨(f a (List.mem_append_right _ m)).1, fun z => (o1 a z).elim (f a (List.mem_append_right _ m)).2 fun z => n3 a z a m rfl⟩) s
        exact ⟨by rw [List.length_cons, List.length_cons, l], p1.trans p2, own2, R2, fun a z => (o2 a z).elim (fun z => (o1 a z).imp id (List.mem_append_left _)) fun m => .inr (List.mem_append_right _ m)⟩
end
section
variable {X : Cx} {ca : Str → Option Addr} {Wx : Wish} {c : Ctx} {x y z : Expr} {xs : List Expr} {es : List ME} {a b : ME} {pos apos p pt : Pos} {nm : Str} {i j l : Nat} {k k2 : Nat} {pt2 : Pos}
theorem par_w {is : List Nat} {D : Ends} {σ : L2.St} {H : Hp} (h : tM X.K ca Wx c (.par is es) D σ H) : tIs X.K ca Wx c es σ H fun us H1 => is.length = us.length ∧ D.nx (setsσ σ is us) H1 := by
  obtain ⟨e, F, own, R, P⟩ := h
  refine sd_list (r := fun us H1 => is.length = us.length ∧ D.nx (setsσ σ is us) H1) R P fun vs e2 us H2 F2 own2 fp R2 V2 N2 E2 P => ?_
  cases h1 : stowAll e2 vs with
  | none => rw [h1] at P; exact P.elim
  | some q =>
    obtain ⟨vs', e3⟩ := q
    rw [h1] at P
    dsimp only at P
    cases h2 : setAll c is vs' e3 with
    | none => rw [h2] at P; exact P.elim
    | some e4 =>
      rw [h2] at P
      obtain ⟨F3, own3, fp3, R3, r3, n3, f3, s3, E3⟩ := V2.stowAll R2 h1
      obtain ⟨l, p, own4, R4, o4⟩ := setAll_ok R3 r3 n3 f3 h2
      exact ⟨l, P _ H2 F3 own4 p R4 ((E2.addT N2).trans ⟨E3.keep, E3.live, fun a z => (o4 a z).elim (E3.own a) fun m => .inl (.inr (s3 a m)), E3.fr, E3.fr'⟩)⟩
theorem s_par2 {n1 n2 : Str} {px py : Pos} (hc : X.calm = true) (hN : X.N.Nodup) (hi : X.N[i]? = some n1) (hj : X.N[j]? = some n2) (hij : i ≠ j) (hx : X.env.scope.names.lookup n1 = some .local) (hy : X.env.scope.names.lookup n2 = some .local)
    (ha : PA X [x, y] (tIs X.K ca Wx c es)) (hw : swappedStores [.Tuple [.Name n1 px, .Name n2 py] k pt] (.Tuple [x, y] k2 pt2) X.env = pure (some [n1, n2]))
    (hs : swapsWithSole [.Tuple [.Name n1 px, .Name n2 py] k pt] (.Tuple [x, y] k2 pt2) pos.line X.env = pure false) :
    PS X (.Assign [.Tuple [.Name n1 px, .Name n2 py] k pt] (.Tuple [x, y] k2 pt2) pos) (tM X.K ca Wx c (.par [i, j] es)) :=
  (ps_par hc hN hi hj hij hx hy ha hw hs).weak fun D σ H h => by
    obtain ⟨e, F, own, R, P⟩ := par_w h
    exact ⟨e, F, own, R, P.mono (fun vs e' q u H' F' own' fp R' V' N' E' => by
      obtain ⟨l, q⟩ := q u H' F' own' fp R' V' N' E'
      match u, l with
      | [v, w], _ => exact ⟨v, w, rfl, q⟩) fun _ _ q => q⟩
theorem s_par3 {n1 n2 n3 : Str} {px py pz : Pos} (hc : X.calm = true) (hN : X.N.Nodup) (hi : X.N[i]? = some n1) (hj : X.N[j]? = some n2) (hl : X.N[l]? = some n3) (hij : i ≠ j) (hil : i ≠ l) (hjl : j ≠ l) (hx : X.env.scope.names.lookup n1 = some .local) (hy : X.env.scope.names.lookup n2 = some .local) (hz : X.env.scope.names.lookup n3 = some .local)
    (ha : PA X [x, y, z] (tIs X.K ca Wx c es)) (hw : swappedStores [.Tuple [.Name n1 px, .Name n2 py, .Name n3 pz] k pt] (.Tuple [x, y, z] k2 pt2) X.env = pure (some [n1, n2, n3]))
    (hs : swapsWithSole [.Tuple [.Name n1 px, .Name n2 py, .Name n3 pz] k pt] (.Tuple [x, y, z] k2 pt2) pos.line X.env = pure false) :
    PS X (.Assign [.Tuple [.Name n1 px, .Name n2 py, .Name n3 pz] k pt] (.Tuple [x, y, z] k2 pt2) pos) (tM X.K ca Wx c (.par [i, j, l] es)) :=
  (ps_par3 hc hN hi hj hl hij hil hjl hx hy hz ha hw hs).weak fun D σ H h => by
    obtain ⟨e, F, own, R, P⟩ := par_w h
    exact ⟨e, F, own, R, P.mono (fun vs e' q u H' F' own' fp R' V' N' E' => by
      obtain ⟨l, q⟩ := q u H' F' own' fp R' V' N' E'
      match u, l with
      | [v, w, o], _ => exact ⟨v, w, o, rfl, q⟩) fun _ _ q => q⟩
theorem s_aug {op : Operator} (ho : op = .Add ∨ op = .Sub) (hN : X.N.Nodup) (hi : X.N[i]? = some nm) (hx : Loc X.env.scope nm) (hf : X.fn nm = true ∨ X.env.scope.names.lookup nm = some .local) (ha : PE X x (tI X.K ca Wx c a)) :
    PS X (.AugAssign (.Name nm p) op x pos) (tM X.K ca Wx c (.aug i op a)) := by
  have key : ∀ (f : Int → Int → Int), (∀ i j, augD op (.int i) (.int j) = some (.int (f i j))) → (∀ x y z, augD op x y = some z → ∃ i j, x = .int i ∧ y = .int j) → ∀ D σ H, tM X.K ca Wx c (.aug i op a) D σ H → tAug i (tI X.K ca Wx c a) (ipI f) D σ H := fun f h1 h2 D σ H ⟨e, F, own, R, P⟩ => by
    have P : GoF X.K ca Wx c σ H F (Ow own) D (match getS e i with
      | some (.d x) => (ev c a e).bind fun v e1 => match see e1 v with
        | some y => match augD op x y with
          | some z => match setSl c e1 i (.d z) with
            | some e2 => .ok .nx e2
            | none => .no
          | none => .no
        | none => .no
      | _ => .no) := P
    cases hs : getS e i with
    | none => rw [hs] at P; exact P.elim
    | some o =>
      rw [hs] at P
      cases o with
      | d q =>
        dsimp only at P
        obtain ⟨u, hu, r⟩ := R.slot i _ hs
        have hd : Den X.K H F u q := by
          generalize own i = fp at r
          cases r with | d h => exact h
        refine ⟨u, hu, sd_one (r := fun y H1 => ipI f u y H1 fun z H2 => D.nx (σ.set i (some z)) H2) R P fun va e2 w H2 F2 own2 fp R2 V2 N2 E2 P => ?_⟩
        cases h3 : see e2 va with
        | none => rw [h3] at P; exact P.elim
        | some y =>
          rw [h3] at P
          dsimp only at P
          cases h4 : augD op q y with
          | none => rw [h4] at P; exact P.elim
          | some z =>
            rw [h4] at P
            dsimp only at P
            obtain ⟨m, n, rfl, rfl⟩ := h2 _ _ _ h4
            rw [h1] at h4
            cases h4
            cases h5 : setSl c e2 i (.d (.int (f m n))) with
            | none => rw [h5] at P; exact P.elim
            | some e3 =>
              rw [h5] at P
              obtain rfl := (SeeF.den hd).int
              obtain rfl := (V2.seeF R2 h3).int
              obtain ⟨p, own', R', o'⟩ := R2.sets (u := .int (f m n)) (.d (.int _)) .nil (fun a m => by cases m) h5
              exact ⟨m, n, rfl, rfl, P _ H2 F2 own' p R' (E2.trans (Ext.same fun a z => (o' a z).imp id fun m => by cases m))⟩
      | _ => exact P.elim
  rcases ho with rfl | rfl
  · refine (ps_aug hN hi hx ha ip_add hf).weak (key (fun i j => i + j) (fun _ _ => rfl) fun x y z h => ?_)
    cases x <;> cases y <;> first | exact ⟨_, _, rfl, rfl⟩ | cases h
  · refine (ps_aug hN hi hx ha ip_sub hf).weak (key (fun i j => i - j) (fun _ _ => rfl) fun x y z h => ?_)
    cases x <;> cases y <;> first | exact ⟨_, _, rfl, rfl⟩ | cases h
/-! ### raise -/
/-- an own exception class without an __init__ of its own -/
structure ExcPl (K : PySem.W.Frag) (C : Addr) : Prop where
  q : ∃ B newId initId bmB, ExcBaseFacts B newId initId bmB ∧ PySem.W.excIn K C bmB newId = true
  keep : PySem.W.keepIn K (.ref C) = true
  sub : PySem.W.subIn K (.ref C) (.type "BaseException") = some true
  ty : PySem.W.typeIn K (.ref C) = some (.type "type")
theorem s_raise {C : Addr} (E : ExcPl X.K C) (hca : ca nm = some C) (hfl : c.flds nm = []) (hc : X.calm = true) (tk : L2.Takes X Wx) (hm : X.mg nm = some (.ref C)) (hg : Gl X nm) (hdb : (nm == ("__debug__" : Str)) = false) (ha : PA X (x :: xs) (tIs X.K ca Wx c es))
    (he : starEach (x :: xs) X.env = (false, eval x X.env) :: starEach xs X.env) (hpl : (backTo pos (starEach xs X.env)).any (·.1) = false) :
    PS X (.Raise (some (.Call (.Name nm p) (x :: xs) [] pos)) none apos) (tM X.K ca Wx c (.raise nm es)) := by
  obtain ⟨B, newId, initId, bmB, h1, h2⟩ := E.q
  refine (L2.ps_raise hc tk (pmk_ownA h1 h2 hm E.keep (raises_own E.sub E.ty) hg ha hdb he hpl)).weak fun D σ H ⟨e, F, own, R, P⟩ => ?_
  refine sd_list (r := fun us H1 => us.length ≤ sizeLine ∧ Wx (.ref C) none σ H1) R P fun vs e2 us H2 F2 own2 fp R2 V2 N2 E2 P => ?_
  cases h3 : takes e2 vs with
  | none => rw [h3] at P; exact P.elim
  | some q =>
    obtain ⟨ds, e3⟩ := q
    rw [h3] at P
    dsimp only at P
    obtain ⟨F3, own3, R3, D3, E3⟩ := V2.takes R2 h3
    split at P
    · rename_i hz
      have ex : excOf c nm ds = ⟨nm, []⟩ := by unfold excOf; rw [hfl]; rfl
      rw [ex] at P
      exact ⟨by rw [D3.len]; exact hz, P (.ref C) none σ H2 F3 own3 .refl R3 ⟨C, hca, rfl, .inl ⟨rfl, rfl⟩⟩ ((E2.addT N2).trans E3)⟩
    · exact P.elim
end
/-! ### try: .. except C as n: y = n -/
abbrev Cx.hot (X : Cx) (a : Addr) (pn : List (Addr × Obj)) : Cx := { X with A := X.A.mark (some (.ref a)), calm := false, pn := pn, xe := fun _ _ => False }
section
variable {X : Cx} {pins : List (Addr × Obj)} {σ : L2.St} {H : Hp} {s : Shared}
theorem Inv.hot (I : Inv X pins σ H s) (a : Addr) : Inv (Cx.hot X a (X.pn ++ pins)) [] σ H s :=
  ⟨⟨I.ok.mod, I.ok.kind, I.ok.glob, I.ok.blt, I.ok.above, I.ok.inj, I.ok.has, I.ok.cab, (fun z => absurd (show false = true from z) Bool.false_ne_true), I.ok.frames, I.ok.stk, I.ok.exf, I.ok.bs, I.ok.bsz, I.ok.noex, I.ok.exfs, I.ok.funs, I.ok.frf⟩, I.os, I.bare, I.base, I.loc, I.cell, I.free, I.freeC,
    fun p hp => I.pin p (by rw [List.append_nil] at hp; exact hp), I.hok, I.len⟩
theorem Inv.unhot {a : Addr} {pn' : List (Addr × Obj)} (I : Inv (Cx.hot X a (X.pn ++ pins)) pn' σ H s) (ok : X.Ok) : Inv X pins σ H s :=
  ⟨ok, I.os, I.bare, I.base, I.loc, I.cell, I.free, I.freeC, fun p hp => I.pin p (List.mem_append_left _ hp), I.hok, I.len⟩
end
/-- what the clause wishes: the caught object stands in y's slot -/
def wSet (K : PySem.W.Frag) (cv : Value) (i j : Nat) (Wout : Wish) (D : Ends) : Wish := fun cls d σ H => ∃ b, PySem.W.exmOne K cls cv = some b ∧
  (b = true → ∀ a, H a = none → D.nx (((σ.set i (some (.ref a))).set j (some (.ref a))).set i none) (upd H a (exO cls d a))) ∧ (b = false → Wout cls d σ H)
section
variable {X : Cx} {nm y n : Str} {cv : Value} {i j : Nat} {body : List Stmt} {p1 p2 p3 p4 pos pos' : Pos} {tb : Wish → TS} {Wout : Wish}
theorem ps_try_set (hs : X.stack = X.env :: X.outer) (hf : X.env.frame = some X.env.locals) (hN : X.N.Nodup) (hi : X.N[i]? = some n) (hj : X.N[j]? = some y) (hln : X.env.kindOf n = some .local) (hly : X.env.kindOf y = some .local) (hc : Names X nm cv) (tk : L2.Takes X Wout)
    (hd1 : (n == ("__debug__" : Str)) = false) (hd2 : (n == ("__classdict__" : Str)) = false) (hsw : swapsWith (.Name n p3) (some (.Name y p2)) p4.line X.env = pure false)
    (hb : ∀ (W : Wish) (pn : List (Addr × Obj)) (xe : Value → Shared → Prop), L2.Takes (X.tr pn xe) W → PassesOwn (model X.prog X.w) X.A X.env xe → PSs (X.tr pn xe) body (tb W)) :
    PS X (.Try body [.ExceptHandler (some (.Name nm p1)) (some n) [.Assign [.Name y p2] (.Name n p3) p4] pos'] [] [] pos) (fun D σ H => tb (wSet X.K cv i j Wout D) D σ H) := by
  refine ⟨fun pins s σ H D I h => ?_⟩
  have ok := I.ok
  have hfr : X.A.frames = some (X.env :: X.outer) := by rw [ok.frames, hs]
  refine wpAny_Try_except ?_
  refine wpAny_mono ((hb (wSet X.K cv i j Wout D) (X.pn ++ pins) (fun e s₁ => wpAny (model X.prog X.w) X.A (noteFrame e X.env) (fun _ s₂ => wpAny (model X.prog X.w) X.A (setFlight e none) (fun _ s₃ =>
    wpAny (model X.prog X.w) X.A (handleBy e X.env [.ExceptHandler (some (.Name nm p1)) (some n) [.Assign [.Name y p2] (.Name n p3) p4] pos']) (SP X pins D) X.xe s₃) X.xe s₂) X.xe s₁) (fun u s' xx => ?_) PassesOwn.looking).run [] s σ H D (I.toTry _) h) (fun f s1 hsp => ?_) (fun e s1 he => he)
  · obtain ⟨a, B, sI, pins', σ', H', cls, d, rfl, J', nb, up, sky, na, os, ag, b, hb1, hyes, hno⟩ := xx
    have J : Inv X pins σ' H' sI := J'.ofTry ok
    have sky' : Sky B (X.env :: X.outer) a (Zc cls d) X.env.locals s'.heap := by rw [← hs]; exact sky
    show wpAny (model X.prog X.w) X.A (noteFrame (.ref a) X.env) _ _ _
    refine Sky.land Zc.steady hfr hf sky' fun h3 fl3 up3 => ?_
    have J3 : Inv X pins σ' H' { s' with heap := h3 } := J.landed nb fl3.1 (up.trans up3) os ag
    obtain ⟨oe3, vs3, he3, hz3, hd3⟩ := fl3.there
    have notFr : ∀ {h : Heap} {o : Obj} {vs : Array Value}, h.FunFrames B (X.env :: X.outer) → h.get? a = some o → o.data = .fields vs → a ∉ frs (X.env :: X.outer) := fun {h o vs} ff e dd hm => by
      obtain ⟨_, o', e', hnf⟩ := ff.mem hm
      rw [e] at e'; cases e'
      exact hnf _ dd
    have nfr := notFr fl3.2.2.1 he3 hd3
    -- the exception's object is not among ours
    have nI : sI.heap.get? a = none := by
      cases q : sI.heap.get? a with
      | none => rfl
      | some o =>
        have z := nb a o q (by rw [hs]; exact nfr)
        rw [fl3.2.1] at z
        cases z
    refine wpAny_handleBy_cons (codeAny_handlers_test ?_) (by intro q; cases q)
    have LT : PySem.W.Looks (model X.prog X.w) h3 (typeOf (.ref a)) cls := fun A Q E s k q => wpAny_typeOf_ref (k _ _ he3) (by rw [hz3.1]; exact q)
    have LM := PySem.W.exm_one (M := model X.prog X.w) (J3.kIn) LT hb1
    have S3 := Inv.hot J3 a
    have test : ∀ {Q : Value → Shared → Prop} {E : Value → Shared → Prop}, Q cv { s' with heap := h3 } → wpAny (model X.prog X.w) (X.A.mark (some (.ref a))) (eval (.Name nm p1) X.env) Q E { s' with heap := h3 } := fun {Q E} q => by
      obtain ⟨hg, hdbg, hm | ⟨hm, hv, hnn⟩⟩ := hc
      · exact ld_glob (X := Cx.hot X a (X.pn ++ pins)) S3 hg hm q hdbg
      · exact ld_blt (X := Cx.hot X a (X.pn ++ pins)) S3 hg hm hv q hnn hdbg
    refine test (LM.here ?_)
    cases b with
    | true =>
      refine codeAny_handlers_suite_as ?_
      refine HandSPX.lands_againZ fl3 fun h4 fl4 up4 => ?_
      obtain ⟨oe4, vs4, he4, hz4, hd4⟩ := fl4.there
      -- our state without the object, then with it
      obtain ⟨G, g1, g2⟩ := restrict h4 fun b => decide (b ≠ a)
      have gk : ∀ b o, b ≠ a → h4.get? b = some o → G.get? b = some o := fun b o hb e => by
        rw [g1 b (decide_eq_true hb)]; exact e
      have ga : G.get? a = none := g2 a (decide_eq_false fun z => z rfl)
      have gs : ∀ b o, G.get? b = some o → h4.get? b = some o := fun b o e => by
        by_cases q : b = a
        · subst q; rw [ga] at e; cases e
        · rw [g1 b (decide_eq_true q)] at e; exact e
      have JG : Inv X pins σ' H' { s' with heap := G } := J.landed (s' := { s' with heap := G }) nb (fun b o e => gk b o (fun z => by subst z; rw [fl4.2.1] at e; cases e) (fl4.1 b o e))
        (fun b o e hnf => by
          obtain ⟨sl, q⟩ := ((up.trans up3).trans up4) b o e hnf
          exact ⟨sl, gk b _ (fun z => by subst z; rw [nI] at e; cases e) q⟩) os ag
      have J4 : Inv X pins σ' (upd H' a (exO cls d a)) { s' with heap := h4 } := JG.laidN (h' := h4) (t' := s'.toks) gs ga na ⟨⟨oe4, vs4, he4, hz4, hd4⟩, ⟨oe4, he4⟩, fun h1 h2 ⟨oe, vs, q1, q2, q3⟩ k => ⟨oe, vs, k _ q1, q2, q3⟩⟩
      have S4 := Inv.hot J4 a
      refine store_ok (X := Cx.hot X a (X.pn ++ pins)) (v := .ref a) S4 hN hi (.inl hln) rfl (fun s5 S5 => ?_) (.inr hln)
      have suite : PSs (Cx.hot X a (X.pn ++ pins)) [.Assign [.Name y p2] (.Name n p3) p4] (tAsg (tVar i) (gName j)) := pss_one (ps_set hN hj (.inl hly) (pe_var hi (.inl hln) hd1 hd2) hsw (.inr hly))
      have at' : (σ'.set i (some (V.ref a)))[i]? = some (some (.ref a)) := by
        have : i < σ'.length := by rw [J.len]; exact (List.getElem?_eq_some_iff.mp hi).1
        rw [List.getElem?_set_self this]
      refine wpAny_mono (suite.run [] s5 _ _ { nx := fun σ2 H2 => D.nx (σ2.set i none) H2, rt := fun _ _ => False } S5 ⟨.ref a, at', hyes rfl a na⟩) (fun f s6 hsp => ?_) (fun _ _ z => False.elim z)
      cases f with
      | next =>
        obtain ⟨σ6, H6, S6, q6⟩ := hsp
        exact gone_ok (Inv.unhot S6 ok) hN hi hln fun s7 J7 => ⟨_, _, J7, q6⟩
      | brk => obtain ⟨_, _, _, q⟩ := hsp; exact False.elim q
      | cont => obtain ⟨_, _, _, q⟩ := hsp; exact False.elim q
      | ret u => obtain ⟨_, _, _, _, _, q⟩ := hsp; exact False.elim q
    | false =>
      show wpAny _ X.A (handleBy (.ref a) X.env []) _ _ _
      refine wpAny_handleBy_nil ?_
      obtain ⟨k1, k2, k3, oe, vs, T, oT, ts', he, hz, hd, h1, hr⟩ := id fl3
      unfold PySem.passOn
      refine wpAny_bind (wpAny_field he hd h1 ?_)
      rw [if_neg (show ¬ ((Value.ref T == Value.none) = true) from by simp)]
      have fin : wpAny (model X.prog X.w) X.A (setFlight (.ref a) X.env.frame) (fun _ s4 => wpAny (model X.prog X.w) X.A (throw (.ref a) : Sem PySem.Flow) (SP X pins D) X.xe s4) X.xe { s' with heap := h3 } := by
        rw [hf]
        refine HandSPX.setFlight_upZ fl3 fun h4 hh4 up4 => wpAny_throw (tk _ _ ?_)
        exact ⟨a, B, sI, pins, σ', H', cls, d, rfl, J, nb, (up.trans up3).trans up4, .inr (.inr (by rw [hs]; exact hh4)), na, os, ag, hno rfl⟩
      first
        | exact wpAny_bind (wpAny_pure (wpAny_bind fin))
        | exact wpAny_bind fin
  · cases f with
    | next =>
      obtain ⟨σ', H', J', q⟩ := hsp
      exact wpAny_execs_nil ⟨σ', H', J'.ofTry ok, q⟩
    | brk =>
      obtain ⟨σ', H', J', q⟩ := hsp
      exact ⟨σ', H', J'.ofTry ok, q⟩
    | cont =>
      obtain ⟨σ', H', J', q⟩ := hsp
      exact ⟨σ', H', J'.ofTry ok, q⟩
    | ret u =>
      obtain ⟨v, σ', H', J', r, q⟩ := hsp
      exact ⟨v, σ', H', J'.ofTry ok, r, q⟩
end
section
variable {X : Cx} {ca : Str → Option Addr} {Wx : Wish} {c : Ctx} {nm y n : Str} {cv : Value} {i j : Nat} {body : List Stmt} {msb : List MS} {p1 p2 p3 p4 pos pos' : Pos}
theorem s_try (hex : ∀ k C, ca k = some C → PySem.W.exmOne X.K (.ref C) cv = some (c.sub k nm)) (hs : X.stack = X.env :: X.outer) (hf : X.env.frame = some X.env.locals) (hN : X.N.Nodup) (hi : X.N[i]? = some n) (hj : X.N[j]? = some y) (hln : X.env.kindOf n = some .local) (hly : X.env.kindOf y = some .local)
    (hc : Names X nm cv) (tk : L2.Takes X Wx) (hd1 : (n == ("__debug__" : Str)) = false) (hd2 : (n == ("__classdict__" : Str)) = false) (hsw : swapsWith (.Name n p3) (some (.Name y p2)) p4.line X.env = pure false)
    (hb : ∀ (W : Wish) (pn : List (Addr × Obj)) (xe : Value → Shared → Prop), L2.Takes (X.tr pn xe) W → PassesOwn (model X.prog X.w) X.A X.env xe → PSs (X.tr pn xe) body (tMs X.K ca W c msb)) :
    PS X (.Try body [.ExceptHandler (some (.Name nm p1)) (some n) [.Assign [.Name y p2] (.Name n p3) p4] pos'] [] [] pos) (tM X.K ca Wx c (.tryset msb nm i j)) :=
  (ps_try_set (tb := fun W => tMs X.K ca W c msb) hs hf hN hi hj hln hly hc tk hd1 hd2 hsw hb).weak fun D σ H ⟨e, F, own, R, P⟩ => by
    refine ⟨e, F, own, R, ?_⟩
    have P : GoF X.K ca Wx c σ H F (Ow own) D (match exs c msb e with
      | .ex z e1 => if c.sub z.c nm = true then match setSl c e1 j (.ex z.c z.fs) with
          | some e2 => match setSl c e2 i (.ex z.c z.fs) with
            | some e3 => .ok .nx (e3.set i none)
            | none => .no
          | none => .no
        else .ex z e1
      | r => r) := P
    cases hx : exs c msb e with
    | ok fl e1 => rw [hx] at P; exact P
    | no => rw [hx] at P; exact P
    | ex z e1 =>
      rw [hx] at P
      dsimp only at P
      intro cls d σ' H' F' own' pz R' ⟨C, hC, hcls, xd⟩ E'
      subst hcls
      refine ⟨c.sub z.c nm, hex _ _ hC, fun hb a ha => ?_, fun hb => ?_⟩
      · rw [if_pos hb] at P
        cases h2 : setSl c e1 j (.ex z.c z.fs) with
        | none => rw [h2] at P; exact P.elim
        | some e2 =>
          rw [h2] at P
          dsimp only at P
          cases h3 : setSl c e2 i (.ex z.c z.fs) with
          | none => rw [h3] at P; exact P.elim
          | some e3 =>
            rw [h3] at P
            have EA : Ext H' F' (Ow own') (upd H' a (exO (.ref C) d a)) F' (Ow own') := Ext.alloc ha
            have RA := R'.alloc (p := a) (o := exO (.ref C) d a) ha
            have r : VR X.K ca (upd H' a (exO (.ref C) d a)) F' (.ref a) (.ex z.c z.fs) [] := .ex hC upd_same (xd.ext EA R'.wok)
            obtain ⟨q1, own1, R1, o1⟩ := RA.sets r .nil (fun a m => by cases m) h2
            obtain ⟨q2, own2, R2, o2⟩ := R1.sets r .nil (fun a m => by cases m) h3
            have R3 := R2.unset (i := i) (o := none)
            have pi : c.pr[i]? ≠ some true := (setSl_some h3).1
            have eσ : ((σ'.set j (some (V.ref a))).set i (some (V.ref a))).set i none = ((σ'.set i (some (V.ref a))).set j (some (V.ref a))).set i none := by
              by_cases ij : i = j
              · subst ij; rfl
              · rw [List.set_comm _ _ ij]
            rw [eσ] at R3
            refine (show QF X.K ca c σ H F (Ow own) D .nx (e3.set i none) from P) _ _ F' _ ?_ R3 ((E'.trans EA).trans (Ext.same fun b z => ?_))
            · rw [← eσ]
              exact ((pz.trans q1).trans q2).trans (Prz.set pi)
            · obtain ⟨k, z⟩ := z
              have z : b ∈ (if k = i then [] else own2 k) := z
              by_cases q : k = i
              · rw [if_pos q] at z; cases z
              · rw [if_neg q] at z
                exact ((o2 b ⟨k, z⟩).elim (fun z => (o1 b z).elim .inl fun m => by cases m) fun m => by cases m)
      · rw [if_neg (by rw [hb]; exact Bool.false_ne_true)] at P
        exact (show QXs X.K ca Wx c σ H F (Ow own) z e1 from P) (.ref C) d σ' H' F' own' pz R' ⟨C, hC, rfl, xd⟩ E'
end
end PM
end

section
set_option Elab.async false
set_option linter.all false
set_option maxRecDepth 100000
set_option maxHeartbeats 2000000
/-! PMDic: displays of dicts. -/
namespace PM
open PySem PySem.Spec PyProof.Rows L2
section
variable {K : PySem.W.Frag} {ca : Str → Option Addr} {H : Hp} {F : Fs}
theorem DKs.app {us vs : List (Key × V)} {xs ys : List (Key × D)} (h : DKs K H F us xs) (g : DKs K H F vs ys) : DKs K H F (us ++ vs) (xs ++ ys) := by
  induction h with
  | nil => exact g
  | cons d _ ih => exact .cons d ih
theorem DKs.any {us : List (Key × V)} {xs : List (Key × D)} (h : DKs K H F us xs) (k : Key) : (us.any fun kv => decide (kv.1 = k)) = (xs.any fun kv => decide (kv.1 = k)) := by
  induction h with
  | nil => rfl
  | cons d _ ih => rw [List.any_cons, List.any_cons, ih]
theorem DKs.over {us : List (Key × V)} {xs : List (Key × D)} (h : DKs K H F us xs) {k : Key} {u : V} {x : D} (d : Den K H F u x) : DKs K H F (us.map fun kv => if kv.1 = k then (kv.1, u) else kv) (xs.map fun kv => if kv.1 = k then (kv.1, x) else kv) := by
  induction h with
  | nil => exact .nil
  | @cons k' u' us x' xs dd _ ih =>
    rw [List.map_cons, List.map_cons]
    dsimp only
    split
    · exact .cons d ih
    · exact .cons dd ih
theorem DKs.len {us : List (Key × V)} {xs : List (Key × D)} (h : DKs K H F us xs) : us.length = xs.length := by
  induction h with
  | nil => rfl
  | cons _ _ ih => rw [List.length_cons, List.length_cons, ih]
theorem DKs.put {us : List (Key × V)} {xs : List (Key × D)} (h : DKs K H F us xs) {k : Key} {u : V} {x : D} (d : Den K H F u x) : DKs K H F (L2.putK us k u) (PM.putK xs k x) := by
  unfold L2.putK PM.putK
  rw [h.any k]
  split
  · exact h.over d
  · exact h.app (.cons d .nil)
theorem DKs.ext {H' : Hp} {F' W W' : Fs} (E : Ext H F W H' F' W') (w : Wok H F W) {us : List (Key × V)} {xs : List (Key × D)} (h : DKs K H F us xs) : DKs K H' F' us xs := by
  induction h with
  | nil => exact .nil
  | cons d _ ih => exact .cons (d.ext E w) ih
theorem DKs.merge {us vs : List (Key × V)} {xs ys : List (Key × D)} (h : DKs K H F vs ys) : ∀ {us : List (Key × V)} {xs : List (Key × D)}, DKs K H F us xs → DKs K H F (L2.mergeK us vs) (PM.mergeD xs ys) := by
  induction h with
  | nil => intro us xs g; exact g
  | cons d _ ih => intro us xs g; exact ih (g.put d)
/-- keys and values in a row -/
def flatV : List (V × V) → List V
  | [] => []
  | (k, v) :: r => k :: v :: flatV r
theorem twos_ok : ∀ {ps : List (V × V)} {ds : List D} {kds : List (Key × D)}, Dens K H F (flatV ps) ds → twosK ds = some kds → ∃ kvs : List (Key × V), ps = kvs.map (fun kv => (kV kv.1, kv.2)) ∧ DKs K H F kvs kds
  | [], ds, kds, d, h => by
    cases d
    cases h
    exact ⟨[], rfl, .nil⟩
  | (k, v) :: r, ds, kds, d, h => by
    cases d with
    | cons dk d =>
      cases d with
      | @cons _ _ xv _ dv d =>
        rename_i xk xs
        obtain ⟨k', hk, h⟩ := Option.bind_eq_some_iff.mp (show (dKey xk).bind (fun k => (twosK xs).map ((k, xv) :: ·)) = some kds from h)
        obtain ⟨rest, hr, rfl⟩ := Option.map_eq_some_iff.mp h
        obtain ⟨kvs, rfl, q⟩ := twos_ok d hr
        obtain rfl := kV_of (.den dk) hk
        exact ⟨(k', v) :: kvs, rfl, .cons dv q⟩
end
def flatM : List (ME × ME) → List ME
  | [] => []
  | (k, v) :: r => k :: v :: flatM r
section
variable {K : PySem.W.Frag} {ca : Str → Option Addr} {Wx : Wish} {c : Ctx}
theorem tIs.mono {es : List ME} {σ : L2.St} {H : Hp} {Q Q' : List V → Hp → Prop} (h : tIs K ca Wx c es σ H Q) (i : ∀ us H2, Q us H2 → Q' us H2) : tIs K ca Wx c es σ H Q' := by
  obtain ⟨e, F, own, R, P⟩ := h
  exact ⟨e, F, own, R, P.mono (fun v e q u H1 F1 own1 fp R1 V1 N1 E1 => i _ _ (q u H1 F1 own1 fp R1 V1 N1 E1)) fun _ _ q => q⟩
theorem pairs_w : ∀ {kvs : List (ME × ME)} {σ : L2.St} {H : Hp} {T : List (V × V) → Hp → Prop}, tIs K ca Wx c (flatM kvs) σ H (fun us H2 => ∀ ps, us = flatV ps → T ps H2) → tPairs (kvs.map fun p => (tI K ca Wx c p.1, tI K ca Wx c p.2)) σ H T
  | [], σ, H, Q, h => by
    obtain ⟨e, F, own, R, P⟩ := h
    exact P [] H F own [] R .nil (fun a m => by cases m) Ext.refl [] rfl
  | (k, v) :: r, σ, H, Q, h => by
    obtain ⟨e, F, own, R, P⟩ := cons_w h
    refine ⟨e, F, own, R, P.mono (fun vk e1 q u H1 F1 own1 fp R1 V1 N1 E1 => ?_) fun _ _ q => q⟩
    obtain ⟨e, F, own, R, P⟩ := cons_w (q u H1 F1 own1 fp R1 V1 N1 E1)
    refine ⟨e, F, own, R, P.mono (fun vk e1 q w H1 F1 own1 fp R1 V1 N1 E1 => ?_) fun _ _ q => q⟩
    exact pairs_w ((q w H1 F1 own1 fp R1 V1 N1 E1).mono fun us H2 q ps e => q ((u, w) :: ps) (by rw [e]; rfl))
end
section
variable {X : Cx} {ca : Str → Option Addr} {Wx : Wish} {c : Ctx} {pos : Pos}
theorem pm_dic {keys : List (Option Expr)} {values : List Expr} {kvs : List (ME × ME)} (h : PPs X pos keys values (kvs.map fun p => (tI X.K ca Wx c p.1, tI X.K ca Wx c p.2))) (hall : keys.all (·.isSome) = true) (hl : keys.length = values.length) (h0 : keys ≠ []) (h15 : keys.length ≤ 15) :
    PE X (.Dict keys values pos) (tI X.K ca Wx c (.dic (flatM kvs))) :=
  (pe_disp h hall hl h0 h15).weak fun σ H Q ⟨e, F, own, R, P⟩ p hp => by
    have RA := R.alloc (p := p) (o := .dK []) hp
    have EA : Ext H F (Ow own) (upd H p (.dK [])) F (Ow own) := Ext.alloc hp
    obtain ⟨nF, nW⟩ := R.free hp
    refine pairs_w (rd_list (r := fun us H2 => ∀ ps, us = flatV ps → H2 p = some (.dK []) ∧ ∃ kvs : List (Key × V), ps = kvs.map (fun kv => (kV kv.1, kv.2)) ∧ kvs.length ≤ 15 ∧ Q (.ref p) (upd H2 p (.dK (mergeK [] kvs)))) EA RA P fun vs e2 us H2 F2 own2 fp R2 V2 N2 E2 E P ps hps => ?_)
    subst hps
    cases h1 : takes e2 vs with
    | none => rw [h1] at P; exact P.elim
    | some q =>
      obtain ⟨ds, e3⟩ := q
      rw [h1] at P
      dsimp only at P
      cases h2 : twosK ds with
      | none => rw [h2] at P; exact P.elim
      | some kds =>
        rw [h2] at P
        dsimp only at P
        split at P
        · rename_i h15'
          obtain ⟨F3, own3, R3, D3, E3⟩ := V2.takes R2 h1
          have E23 := (E2.addT N2).trans E3
          have hD : H2 p = some (.dK []) := E23.keep _ _ upd_same nW
          have nF3 : ¬ F3 p := fun f => (E23.fr' p f).elim nF fun z => z.elim nW fun z => by rw [upd_same] at z; cases z
          have nW3 : ¬ Ow own3 p := fun f => (E23.own p f).elim nW fun z => by rw [upd_same] at z; cases z
          obtain ⟨kvs', rfl, dk⟩ := twos_ok D3 h2
          obtain ⟨R4, _⟩ := R3.updM (o := .dK (mergeK [] kvs')) (.inr ⟨_, hD⟩) nF3 nW3
          refine ⟨hD, kvs', rfl, by rw [dk.len]; exact h15', ?_⟩
          have dm : DKs X.K H2 F3 (mergeK [] kvs') (mergeD [] kds) := DKs.merge (us := []) (xs := []) dk .nil
          have dm' : DKs X.K (upd H2 p (.dK (mergeK [] kvs'))) F3 (mergeK [] kvs') (mergeD [] kds) :=
            dm.ext (W := fun a => a = p) (W' := fun _ => False) ((Ext.upd (W := fun a => a = p) rfl).widen (fun _ z => z) fun _ z => z.elim) fun a z => by subst z; exact ⟨nF3, .inr ⟨_, hD⟩⟩
          refine (show QV X.K ca σ H F (Ow own) Q (.od (liftK (mergeD [] kds))) e3 from P) (.ref p) _ F3 own3 [p] R4 (.val (.od upd_same dm'.vrk) (by simp) fun a m => ?_) (fun a m => ?_) (((EA.trans E23)).updNew hp)
          · rw [List.mem_singleton.mp m]; exact ⟨nF3, nW3⟩
          · rw [List.mem_singleton.mp m]; exact .inr hp
        · exact P.elim
end
end PM
end

section
set_option Elab.async false
set_option linter.all false
set_option maxRecDepth 100000
set_option maxHeartbeats 2000000
/-! PMTab: d.get(k), d.update(pairs), written dicts of the module, calls without arguments. -/
namespace PM
open PySem PySem.Spec PyProof.Rows L2
/-- a written dict of the module, its keys texts -/
def TabK (K : PySem.W.Frag) (w : World) (p : Addr) (kvs : List (Str × D)) : Prop :=
  ∃ es n, KDict K w p es n ∧ ∀ z : Str, ∃ r : Option Value, PySem.W.nsIn K p z = some r ∧ (∀ d, kvs.lookup z = some d → ∃ u v, r = some u ∧ RelV v u ∧ Cst K v d) ∧ (kvs.lookup z = none → r = none)
/-! ### d.update(pairs) -/
theorem call_upd_pairs {prog : Program} {w : World} {A : Around} {E : Value → Shared → Prop} {s : Shared} {d l : Addr} {ol : Obj} {items : Array Value} {n : Nat} {acc prs : List (Key × Value)} {Q : Value → Shared → Prop} (hh : A.handled = none) (hm : s.heap.DictOf (mixKind prog w) d acc) (hdl : d ≠ l)
    (hl : s.heap.get? l = some ol) (hc : ol.cls = .type "list") (hd : ol.dict = none) (hdat : ol.data = .seq items n) (hsz : items.size = prs.length) (hln : acc.length + prs.length ≤ sizeLine)
    (ht : ∀ (j : Nat) (q : Key × Value), prs[j]? = some q → ∃ (b : Addr) (u : Value), items[j]? = some (.ref b) ∧ b ≠ d ∧ IsTup s.heap b #[u, q.2] ∧ keyIs q.1 u = true)
    (h : ∀ h' tk, h'.DictOf (mixKind prog w) d (merged acc prs) → (∀ b o, b ≠ d → s.heap.get? b = some o → h'.get? b = some o) → Q .none { s with heap := h', toks := tk }) :
    wpAny (model prog w) A (call (.builtin "dict.update") [.ref d, .ref l]) Q E s := by
  refine call_meetsIn PySem.F.slot_dict_update hm.typeIs PySem.F.entry_dict_update (PySem.F.args_dict_update_2 _ _)
    (S := fun A' R s' => A' = A ∧ s' = s ∧ ∀ h' tk, h'.DictOf (mixKind prog w) d (merged acc prs) → (∀ b o, b ≠ d → s.heap.get? b = some o → h'.get? b = some o) → R (.ok (.ret .none)) { s with heap := h', toks := tk })
    (fun A' R s' hS => ?_) ⟨rfl, rfl, h⟩
  obtain ⟨rfl, rfl, hR⟩ := hS
  refine meets_dict_update_arg hm.typeIs ?_
  unfold Builtin.Dict.updateFrom
  refine wpAny_bind (wpAny_typeOf (T := "list") ⟨ol, hl, hc⟩ ?_)
  rw [if_pos (by first | decide | rfl | simp)]
  refine wpAny_bind (miss_list hl hc hdat hd hh fun h1 tk1 hk1 => ?_)
  rw [if_pos (show (none : Option Value).isNone = true from rfl)]
  refine wpAny_bind (wpAny_rule ?_)
  have hl1 : h1.IsList l items := ⟨ol, hk1 _ _ hl, hc, n, hdat⟩
  have hm1 : h1.DictOf (mixKind prog w) d acc := hm.at fun o e => hk1 _ _ e
  have hd1 : d < h1.objs.size := by
    obtain ⟨o, _, _, ho, _⟩ := hm1
    exact Heap.lt_size ho
  have hll : l < h1.objs.size := Heap.lt_size (hk1 _ _ hl)
  refine wpAny_bind (wpAny_pyIter_list hl1 ?_)
  have k2 : ∀ b o, h1.get? b = some o → (h1.push { cls := .type "list_iterator", data := .fields #[.ref l, .int 0 0] }).get? b = some o := fun b o e => Heap.get?_push_of_some _ e
  have key := upd_loop (prog := prog) (w := w) (A := A') (R := R) (S := d) (I := h1.objs.size) (l := l) (items := items) (res := Value.none) hh
    (Nat.ne_of_lt hll) (Nat.ne_of_lt hd1) hdl prs 0 acc 0 0
    { s' with heap := h1.push { cls := .type "list_iterator", data := .fields #[.ref l, .int 0 0] }, toks := tk1 } (by rw [hsz, Nat.zero_add]) hln
    (fun j q e => by
      obtain ⟨b, u, e1, e0, e2, e3⟩ := ht j q e
      have hb : b < h1.objs.size := by
        obtain ⟨o, ho, _⟩ := e2
        exact Heap.lt_size (hk1 _ _ ho)
      exact ⟨b, u, by rw [Nat.zero_add]; exact e1, e0, Nat.ne_of_lt hb, e2.keeps fun c o z => k2 _ _ (hk1 _ _ z), e3⟩)
    ⟨_, Heap.get?_push_size _ rfl, rfl, rfl⟩ (hl1.at fun o e => k2 _ _ e) (hm1.at fun o e => k2 _ _ e)
    (fun h' tk hd' k => hR h' tk hd' fun b o hb e => by
      have e1 := hk1 _ _ e
      exact k b o hb (Nat.ne_of_lt (Heap.lt_size e1)) (k2 _ _ e1))
  first
    | exact wpAny_pure ⟨plainId_quiet ud_plain _, key⟩
    | exact wpAny_bind (wpAny_pure (wpAny_pure ⟨plainId_quiet ud_plain _, key⟩))
section
variable {X : Cx}
theorem mt_update (hcalm : X.calm = true) : MtM X "dict.update" (fun x vs H Q => ∃ (d a : Addr) (ps : List Addr) (acc kvs : List (Key × V)), x = .ref d ∧ vs = [.ref a] ∧ H d = some (.dK acc) ∧ SqL X.K H a (ps.map V.ref) ∧ Paired (fun p kv => SqT X.K H p [kV kv.1, kv.2]) ps kvs ∧
    acc.length + kvs.length ≤ sizeLine ∧ Q .non (upd H d (.dK (L2.mergeK acc kvs)))) := by
  intro pins s σ H x xs v us Q I rx r q
  obtain ⟨d, a, ps, acc, kvs, rfl, rfl, hH, hq, hp, hz, q⟩ := q
  cases rx
  obtain ⟨u, rfl, ru⟩ := r.one
  cases ru
  obtain ⟨its, rv, pl, hz2⟩ := I.list hq
  have ei := refs_at rv
  subst ei
  obtain ⟨prs, rel, hl, hpr⟩ := pairs_of I hp
  obtain ⟨o, n, ho, hc, hd, hdat⟩ := pl
  obtain ⟨z, hsys, vs0, r0, dd⟩ := dk_of I.hok hH
  obtain ⟨od, _, _, hod, hcd, _⟩ := id dd
  have hne : d ≠ a := fun e => by
    subst e
    rw [ho] at hod
    cases hod
    have q1 := hcd.1
    rw [hc] at q1
    injection q1 with q2
    exact absurd q2 (by decide)
  have kl : kvs.length = prs.length := rel.length
  have al : acc.length = vs0.length := r0.length
  refine call_upd_pairs (prs := prs) (acc := vs0) (I.ok.hd hcalm) dd hne ho hc hd hdat (by simp [hl]) (by omega) (fun j q' e => ?_) fun h' tk hd' k => ?_
  · obtain ⟨b, u, e1, e2, e3⟩ := hpr j q' e
    refine ⟨b, u, by simp [e1], fun eb => ?_, e2, e3⟩
    subst eb
    obtain ⟨o2, ho2, hc2, _⟩ := e2
    rw [hod] at ho2
    cases ho2
    have q1 := hcd.1
    rw [hc2] at q1
    injection q1 with q2
    exact absurd q2 (by decide)
  · have he : ∃ q, h'.get? d = some q := let ⟨q, _, _, hq, _⟩ := hd'; ⟨q, hq⟩
    have hlen : (L2.mergeK acc kvs).length ≤ sizeLine := Nat.le_trans (length_mergeK kvs acc) hz
    have I' : Inv X pins σ (upd H d (.dK (L2.mergeK acc kvs))) { s with heap := h', toks := tk } :=
      I.write (x := d) (e := d) (by rw [hH]; exact True.intro) (.inl rfl) (fun b q hb z => k b q hb z) he (dk_new hlen hsys (rel.merge r0) hd')
    exact ⟨.non, _, I', rfl, q⟩
end
end PM
end

section
set_option Elab.async false
set_option linter.all false
set_option maxRecDepth 100000
set_option maxHeartbeats 2000000
/-! PMChk: a checker: does this text of the machine tell that text of the program? Its soundness. -/
namespace PM
open PySem PySem.Spec PyProof.Rows L2
inductive GK where
  | fn (i np : Nat)
  | val (v : V) (d : D)
  | cls (pl : Bool)
  | tab (kvs : List (Str × D))
  | con (d : D)
  | no
structure CC where
  N : List Str
  sc : Scope
  own : Scope
  G : List (Str × GK)
def CC.blk (C : CC) (scope : Scope) : CC := { C with sc := relS scope C.sc, own := scope }
inductive Task where
  | E (e : Expr) (m : ME)
  | A (es : List Expr) (ms : List ME)
  | O (e : Option Expr) (m : Option ME)
  | T (e : Expr) (m : ME)
  | W (e : Expr) (m : ME)
  | I (tg it : Expr) (m : MI)
  | G (tg : Expr) (t : Tgt)
  | Gs (tg : List Expr) (t : List Tgt)
  | Ts (es : List Expr) (ms : List ME)
  | P (ks : List (Option Expr)) (vs : List Expr) (kvs : List (ME × ME))
def GOk (X : Cx) (ca : Str → Option Addr) (c : Ctx) (x : Str) : GK → Prop
  | .no => X.mg x = none
  | .val v d => ∃ u, X.mg x = some u ∧ RelV v u ∧ Cst X.K v d
  | .con d => ∃ v u, X.mg x = some u ∧ RelV v u ∧ Cst X.K v d
  | .tab kvs => ∃ p, X.mg x = some (.ref p) ∧ TabK X.K X.w p kvs
  | .cls pl => ∃ C, ca x = some C ∧ X.mg x = some (.ref C) ∧ (pl = true → ExcPl X.K C ∧ c.flds x = []) ∧ ∀ k C', ca k = some C' → PySem.W.exmOne X.K (.ref C') (.ref C) = some (c.sub k x)
  | .fn i np => ∃ fa fd ps kk, X.mg x = some (.ref fa) ∧ PySem.W.keepIn X.K (.ref fa) = true ∧ Binds X.K fd ps [] ∧ Room kk X.A ∧ FnG X.prog X.w X.K X.mg X.base kk fa fd ps (spF X.K ca np (c.call i)) ∧
    ∀ as, (∀ r a, c.call i as ≠ .ok r a) ∧ (∀ r a, c.call i as ≠ .ex r a) ∨ as.length = np
structure CxOk (C : CC) (ca : Str → Option Addr) (Wx : Wish) (c : Ctx) (X : Cx) : Prop where
  N : X.N = C.N
  nd : C.N.Nodup
  sc : X.env.scope = C.sc
  fn : ∀ x, C.own.names.lookup x = some .cell → X.fn x = true
  kind : C.sc.kind = .function
  calm : X.calm = true
  un : X.A.units + 100 < cLine
  tk : L2.Takes X Wx
  G : ∀ x k, C.G.lookup x = some k → GOk X ca c x k
  cls : ClsK X.K ca c.sub
  gd : X.A.guards = some []
def Sem (ca : Str → Option Addr) (Wx : Wish) (c : Ctx) (X : Cx) : Task → Prop
  | .E e m => PE X e (tI X.K ca Wx c m)
  | .A es ms => PA X es (tIs X.K ca Wx c ms)
  | .O e m => PO X e (tIo X.K ca Wx c m)
  | .T e m => PT X e (tIt X.K ca Wx c m)
  | .W e m => PW X e (tIt X.K ca Wx c m)
  | .I tg it m => PI X tg it (tW X.K ca Wx c m)
  | .G tg t => PG X tg (tG X.K ca c t)
  | .Gs tg t => PGs X tg (tGs X.K ca c t)
  | .Ts es ms => PTs X es (tTs X.K ca Wx c ms)
  | .P ks vs kvs => ∀ pos, PPs X pos ks vs (kvs.map fun p => (tI X.K ca Wx c p.1, tI X.K ca Wx c p.2))
abbrev Rec := CC → Task → Bool
def Sound (rec : Rec) : Prop := ∀ C t, rec C t = true → ∀ ca Wx c X, CxOk C ca Wx c X → Sem ca Wx c X t

/-! ### data -/
mutual
def sameD : D → D → Bool
  | .none, .none => true
  | .bool a, .bool b => a == b
  | .int a, .int b => decide (a = b)
  | .str a, .str b => decide (a = b)
  | .list a, .list b => sameDs a b
  | .tuple a, .tuple b => sameDs a b
  | .dict a, .dict b => sameKs a b
  | _, _ => false
def sameDs : List D → List D → Bool
  | [], [] => true
  | a :: r, b :: s => sameD a b && sameDs r s
  | _, _ => false
def sameKs : List (D × D) → List (D × D) → Bool
  | [], [] => true
  | (a, x) :: r, (b, y) :: s => sameD a b && sameD x y && sameKs r s
  | _, _ => false
end
mutual
theorem sameD_ok : ∀ {a b : D}, sameD a b = true → a = b
  | .none, b, h => by cases b <;> first | rfl | cases h
  | .bool a, b, h => by
    cases b with
    | bool b => rw [show a = b from by simpa [sameD] using h]
    | _ => cases h
  | .int a, b, h => by
    cases b with
    | int b => rw [show a = b from by simpa [sameD] using h]
    | _ => cases h
  | .str a, b, h => by
    cases b with
    | str b => rw [show a = b from by simpa [sameD] using h]
    | _ => cases h
  | .list a, b, h => by
    cases b with
    | list b => rw [sameDs_ok (show sameDs a b = true from h)]
    | _ => cases h
  | .tuple a, b, h => by
    cases b with
    | tuple b => rw [sameDs_ok (show sameDs a b = true from h)]
    | _ => cases h
  | .dict a, b, h => by
    cases b with
    | dict b => rw [sameKs_ok (show sameKs a b = true from h)]
    | _ => cases h
theorem sameDs_ok : ∀ {a b : List D}, sameDs a b = true → a = b
  | [], b, h => by cases b <;> first | rfl | cases h
  | a :: r, b, h => by
    cases b with
    | cons b s =>
      have h : (sameD a b && sameDs r s) = true := h
      rw [Bool.and_eq_true] at h
      rw [sameD_ok h.1, sameDs_ok h.2]
    | nil => cases h
theorem sameKs_ok : ∀ {a b : List (D × D)}, sameKs a b = true → a = b
  | [], b, h => by cases b <;> first | rfl | cases h
  | (a, x) :: r, b, h => by
    cases b with
    | cons b s =>
      obtain ⟨b, y⟩ := b
      have h : (sameD a b && sameD x y && sameKs r s) = true := h
      rw [Bool.and_eq_true, Bool.and_eq_true] at h
      rw [sameD_ok h.1.1, sameD_ok h.1.2, sameKs_ok h.2]
    | nil => cases h
end
def sameT : List (Str × D) → List (Str × D) → Bool
  | [], [] => true
  | (a, x) :: r, (b, y) :: s => decide (a = b) && sameD x y && sameT r s
  | _, _ => false
theorem sameT_ok : ∀ {a b : List (Str × D)}, sameT a b = true → a = b
  | [], b, h => by cases b <;> first | rfl | cases h
  | (a, x) :: r, b, h => by
    cases b with
    | cons b s =>
      obtain ⟨b, y⟩ := b
      have h : (decide (a = b) && sameD x y && sameT r s) = true := h
      rw [Bool.and_eq_true, Bool.and_eq_true] at h
      rw [of_decide_eq_true h.1.1, sameD_ok h.1.2, sameT_ok h.2]
    | nil => cases h
/-! ### small looks -/
def vis (C : CC) (x : Str) : Bool := match C.sc.names.lookup x with
  | some .local => true
  | some .cell => true
  | some .free => true
  | _ => false
def isG (C : CC) (x : Str) : Bool := decide (C.sc.names.lookup x = some .globalImplicit)
def dbg (x : Str) : Bool := !(x == ("__debug__" : Str)) && !(x == ("__classdict__" : Str)) && !decide (x = ("__name__" : Str))
def star : Expr → Bool
  | .Starred .. => true
  | _ => false
def noStars (es : List Expr) : Bool := es.all fun e => !star e
/-- a written dict's name -/
def isTab (C : CC) (x : Str) (kvs : List (Str × D)) : Bool := isG C x && dbg x && match C.G.lookup x with
  | some (.tab kvs') => sameT kvs kvs'
  | _ => false
def isNo (C : CC) (x : Str) : Bool := isG C x && dbg x && match C.G.lookup x with
  | some .no => true
  | _ => false
section
variable {C : CC} {ca : Str → Option Addr} {Wx : Wish} {c : Ctx} {X : Cx} {x : Str}
theorem vis_ok (K : CxOk C ca Wx c X) (h : vis C x = true) : Vis X.env.scope x := by
  unfold vis at h
  unfold Vis
  rw [K.sc]
  split at h <;> first | exact .inl ‹_› | exact .inr (.inl ‹_›) | exact .inr (.inr ‹_›) | cases h
theorem gl_ok (K : CxOk C ca Wx c X) (h : isG C x = true) : Gl X x := by
  unfold isG at h
  show X.env.scope.names.lookup x = _
  rw [K.sc]
  exact of_decide_eq_true h
theorem dbg_ok (h : dbg x = true) : (x == ("__debug__" : Str)) = false ∧ (x == ("__classdict__" : Str)) = false ∧ x ≠ "__name__" := by
  unfold dbg at h
  simp only [Bool.and_eq_true, Bool.not_eq_true', decide_eq_false_iff_not] at h
  exact ⟨h.1.1, h.1.2, h.2⟩
theorem isNo_ok (K : CxOk C ca Wx c X) (h : isNo C x = true) : Gl X x ∧ X.mg x = none ∧ (x == ("__debug__" : Str)) = false ∧ x ≠ "__name__" := by
  unfold isNo at h
  rw [Bool.and_eq_true, Bool.and_eq_true] at h
  obtain ⟨⟨h1, h2⟩, h3⟩ := h
  obtain ⟨d1, d2, d3⟩ := dbg_ok h2
  refine ⟨gl_ok K h1, ?_, d1, d3⟩
  split at h3
  · exact K.G _ _ ‹_›
  · cases h3
theorem isTab_ok {kvs : List (Str × D)} (K : CxOk C ca Wx c X) (h : isTab C x kvs = true) : Gl X x ∧ (x == ("__debug__" : Str)) = false ∧ ∃ p, X.mg x = some (.ref p) ∧ TabK X.K X.w p kvs := by
  unfold isTab at h
  rw [Bool.and_eq_true, Bool.and_eq_true] at h
  obtain ⟨⟨h1, h2⟩, h3⟩ := h
  obtain ⟨d1, d2, d3⟩ := dbg_ok h2
  refine ⟨gl_ok K h1, d1, ?_⟩
  split at h3
  · rename_i kvs' hl
    rw [sameT_ok h3]
    exact K.G _ _ hl
  · cases h3
theorem star_cons {e : Expr} {es : List Expr} {env : PySem.Env} (h : star e = false) : starEach (e :: es) env = (false, eval e env) :: starEach es env := by
  cases e <;> first | rfl | cases h
theorem star_asg {e : Expr} {es : List Expr} {env : PySem.Env} (h : star e = false) : (assignEach (e :: es) env).map (·.2) = assign e env :: (assignEach es env).map (·.2) := by
  cases e <;> first | rfl | cases h
theorem noStars_cons {e : Expr} {es : List Expr} (h : noStars (e :: es) = true) : star e = false ∧ noStars es = true := by
  unfold noStars at h
  rw [List.all_cons, Bool.and_eq_true, Bool.not_eq_true'] at h
  exact h
theorem noStars_any {env : PySem.Env} {pos : Pos} : ∀ {es : List Expr}, noStars es = true → (backTo pos (starEach es env)).any (·.1) = false
  | [], _ => rfl
  | e :: es, h => by
    obtain ⟨h1, h2⟩ := noStars_cons h
    rw [star_cons h1]
    show (false || (backTo pos (starEach es env)).any (·.1)) = false
    rw [noStars_any h2]
    rfl
theorem noStars_all {env : PySem.Env} {pos : Pos} : ∀ {es : List Expr}, noStars es = true → (backTo pos (starEach es env)).all (fun x => !x.1) = true
  | [], _ => rfl
  | e :: es, h => by
    obtain ⟨h1, h2⟩ := noStars_cons h
    rw [star_cons h1]
    show (true && (backTo pos (starEach es env)).all (fun x => !x.1)) = true
    rw [noStars_all h2]
    rfl
theorem noStars_len {env : PySem.Env} : ∀ {es : List Expr}, noStars es = true → (assignEach es env).length = es.length ∧ (assignEach es env).findIdx? (·.1) = none
  | [], _ => ⟨rfl, rfl⟩
  | e :: es, h => by
    obtain ⟨h1, h2⟩ := noStars_cons h
    obtain ⟨l, f⟩ := noStars_len (env := env) h2
    have : assignEach (e :: es) env = (false, assign e env) :: assignEach es env := by cases e <;> first | rfl | cases h1
    rw [this, List.length_cons, List.length_cons, l, List.findIdx?_cons, f]
    exact ⟨rfl, rfl⟩
end
/-! ### names, constants -/
def ckConst (k : Const) (d : D) : Bool := match k, d with
  | .none, .none => true
  | .bool a, .bool b => a == b
  | .int a, .int b => decide (a = b)
  | .str a, .str b => decide (a = b)
  | _, _ => false
def ckName (C : CC) (x : Str) (m : ME) : Bool := dbg x && match m with
  | .v i => decide (C.N[i]? = some x) && vis C x
  | .c d => isG C x && match C.G.lookup x with
    | some (.val _ d') => sameD d d'
    | some (.con d') => sameD d d'
    | _ => false
  | _ => false
section
variable {C : CC} {ca : Str → Option Addr} {Wx : Wish} {c : Ctx} {X : Cx} {x : Str}
theorem ckConst_ok {k : Const} {j : Nat} {pos : Pos} {d : D} (h : ckConst k d = true) : PE X (.Constant k j pos) (tI X.K ca Wx c (.c d)) := by
  unfold ckConst at h
  split at h
  · exact pm_c pe_non fun _ _ => .non
  · rw [beq_iff_eq] at h; subst h; exact pm_c pe_bl fun _ _ => .bl _
  · have h := of_decide_eq_true h; subst h; exact pm_c pe_int fun _ _ => .int _
  · have h := of_decide_eq_true h; subst h; exact pm_c pe_str fun _ _ => .str _
  · cases h
theorem ckName_ok {m : ME} {pos : Pos} (K : CxOk C ca Wx c X) (h : ckName C x m = true) : PE X (.Name x pos) (tI X.K ca Wx c m) := by
  unfold ckName at h
  rw [Bool.and_eq_true] at h
  obtain ⟨hd, h⟩ := h
  obtain ⟨d1, d2, d3⟩ := dbg_ok hd
  split at h
  · rw [Bool.and_eq_true] at h
    exact pm_v (pe_var (by rw [K.N]; exact of_decide_eq_true h.1) (vis_ok K h.2) d1 d2)
  · rw [Bool.and_eq_true] at h
    obtain ⟨hg, h⟩ := h
    split at h
    · rename_i v d' hl
      obtain ⟨u, hu, r, hc⟩ := K.G _ _ hl
      rw [sameD_ok h]
      exact pm_c (pe_glob (gl_ok K hg) hu r d1) hc
    · rename_i d' hl
      obtain ⟨v, u, hu, r, hc⟩ := K.G _ _ hl
      rw [sameD_ok h]
      exact pm_c (pe_glob (gl_ok K hg) hu r d1) hc
    · cases h
  · cases h
end
end PM
end

section
set_option Elab.async false
set_option linter.all false
set_option maxRecDepth 100000
set_option maxHeartbeats 2000000
/-! PMTab2: a slot's dict changed; d.get; written dicts; calls without arguments. -/
namespace PM
open PySem PySem.Spec PyProof.Rows L2
section
variable {K : PySem.W.Frag} {ca : Str → Option Addr} {σ : L2.St} {e : Env} {H H' : Hp} {F F' W W' : Fs} {own : Nat → List Addr}
theorem Rel.mutD {i : Nat} {vs : List (Key × Val)} (R : Rel K ca σ H e F own) (h : getS e i = some (.od vs)) : ∃ p us fp, σ[i]? = some (some (.ref p)) ∧ H p = some (.dK us) ∧ own i = p :: fp ∧ VRk K ca H F us vs fp ∧
    ∀ us' vs', (VRk K ca H F us' vs' fp) → Rel K ca σ (upd H p (.dK us')) (e.set i (some (.od vs'))) F own ∧ Ext H F (Ow own) (upd H p (.dK us')) F (Ow own) := by
  obtain ⟨u, hu, r⟩ := R.slot i _ h
  generalize hfp : own i = fpi at r
  cases r with
  | @od p us _ fp hp r =>
    refine ⟨p, us, fp, hu, hp, rfl, r, fun us' vs' r' => ?_⟩
    have nd : (p :: fp).Nodup := hfp ▸ R.nd i
    have np : p ∉ fp := (List.nodup_cons.mp nd).1
    have mi : p ∈ own i := by rw [hfp]; exact List.mem_cons_self
    have E : Ext H F (fun a => a = p) (upd H p (.dK us')) F (fun a => a = p) := Ext.upd rfl
    have w : Wok H F (fun a => a = p) := fun a z => by subst z; exact ⟨R.nf i _ mi, .inr ⟨_, hp⟩⟩
    have r2 : VRk K ca (upd H p (.dK us')) F us' vs' fp := r'.ext E w fun a m z => np (z ▸ m)
    have al : ∀ a, F a → (upd H p (.dK us')) a ≠ none := fun a f => by
      by_cases q : a = p
      · subst q; rw [upd_same]; exact fun z => nomatch z
      · rw [upd_ne q]; exact R.al a f
    have R2 := R.put (i := i) (u := .ref p) (v := .od vs') (fp := p :: fp) (W := fun a => a ∈ own i) (W' := fun _ => False) (F' := F) (H' := upd H p (.dK us')) (List.getElem?_eq_some_iff.mp hu).1
      (E.widen (U := fun a => a ∈ own i) (U' := fun _ => False) (fun a z => by subst z; exact mi) fun _ z => z.elim)
      (fun a m => R.wok a ⟨i, m⟩) (fun j a ne m z => ne (R.dj j i a m z)) (.od upd_same r2) nd (fun a m => ⟨R.nf i a (hfp ▸ m), .inl (hfp ▸ m)⟩) al
    rw [σset_self hu] at R2
    have eo : (fun j => if j = i then p :: fp else own j) = own := by
      funext j
      by_cases q : j = i
      · subst q; rw [if_pos rfl, hfp]
      · rw [if_neg q]
    rw [eo] at R2
    exact ⟨R2, E.widen (fun a z => by subst z; exact ⟨i, mi⟩) fun a z => .inl z⟩
theorem VRk.unK : ∀ {vs : List (Key × Val)} {us : List (Key × V)} {fp : List Addr} {ds : List (Key × D)}, VRk K ca H F us vs fp → PM.unK vs = some ds → DKs K H F us ds ∧ fp = []
  | [], us, fp, ds, h, e => by
    cases h
    cases e
    exact ⟨.nil, rfl⟩
  | (k, v) :: vs, us, fp, ds, h, e => by
    cases h with
    | cons h r =>
      unfold PM.unK at e
      cases h1 : isD v with
      | none => rw [h1] at e; cases e
      | some x =>
        cases h2 : PM.unK vs with
        | none => rw [h1, h2] at e; cases e
        | some xs =>
          rw [h1, h2] at e
          cases e
          obtain ⟨q, rfl⟩ := VRk.unK r h2
          cases v with
          | d y =>
            cases h1
            cases h with
            | d h => exact ⟨.cons h q, rfl⟩
          | _ => cases h1
theorem pairs_den : ∀ {us : List V} {ds : List D} {more : List (Key × D)}, Dens K H F us ds → pairsK ds = some more → ∃ (ps : List Addr) (kvs : List (Key × V)), us = ps.map V.ref ∧ Paired (fun p kv => SqT K H p [kV kv.1, kv.2]) ps kvs ∧ DKs K H F kvs more
  | _, _, more, .nil, e => by
    cases e
    exact ⟨[], [], rfl, .nil, .nil⟩
  | _, _, more, .cons (v := u) (vs := us) (x := x) (xs := xs) d r, e => by
    obtain ⟨p, hp, e⟩ := Option.bind_eq_some_iff.mp (show (pairK x).bind (fun p => (pairsK xs).map (p :: ·)) = some more from e)
    obtain ⟨q, hq, rfl⟩ := Option.map_eq_some_iff.mp e
    obtain ⟨ps, kvs, rfl, h1, h2⟩ := pairs_den r hq
    unfold pairK at hp
    split at hp
    · rename_i k v
      obtain ⟨k', hk, rfl⟩ := Option.map_eq_some_iff.mp hp
      cases d with
      | @tup a us' _ hs dd =>
        cases dd with
        | cons d1 dd =>
          cases dd with
          | cons d2 dd =>
            cases dd
            obtain rfl := kV_of (.den d1) hk
            rename_i u2
            exact ⟨a :: ps, (k', u2) :: kvs, rfl, .cons hs h1, .cons d2 h2⟩
    · cases hp
end
section
variable {X : Cx} {ca : Str → Option Addr} {Wx : Wish} {c : Ctx} {x y z : Expr} {xs : List Expr} {es : List ME} {a b d : ME} {pos apos : Pos} {nm : Str} {i : Nat}
theorem upd_w {σ : L2.St} {H : Hp} {Q : VK} (h : tI X.K ca Wx c (.upd i a) σ H Q) : tVar i σ H fun x H1 => (∃ p us, x = .ref p ∧ H1 p = some (.dK us)) ∧ tIs X.K ca Wx c [a] σ H1 fun us H2 =>
    ∃ (d a : Addr) (ps : List Addr) (acc kvs : List (Key × V)), x = .ref d ∧ us = [.ref a] ∧ H2 d = some (.dK acc) ∧ SqL X.K H2 a (ps.map V.ref) ∧ Paired (fun p kv => SqT X.K H2 p [kV kv.1, kv.2]) ps kvs ∧
    acc.length + kvs.length ≤ sizeLine ∧ Q .non (upd H2 d (.dK (L2.mergeK acc kvs))) := by
  obtain ⟨e, F, own, R, P⟩ := h
  have P : PR (if isOd (getS e i) = true then (ev c a e).bind fun v e1 => match take e1 v with
      | some (x, e2) => match getS e2 i with
        | some o => match updV o x with
          | some o' => Res.ok (Val.d .none) (e2.set i (some o'))
          | none => .no
        | none => .no
      | none => .no
    else .no) _ _ := P
  split at P
  · rename_i h0
    cases h1 : getS e i with
    | none => rw [h1] at h0; cases h0
    | some o =>
      cases o with
      | od vs0 =>
        obtain ⟨p, us0, fp0, hu, hp, _⟩ := R.mutD h1
        have P : PR ((evs c [a] e).bind fun vs e1 => match vs with
          | [v] => match take e1 v with
            | some (x, e2) => match getS e2 i with
              | some o => match updV o x with
                | some o' => Res.ok (Val.d .none) (e2.set i (some o'))
                | none => .no
              | none => .no
            | none => .no
          | _ => .no) (QV X.K ca σ H F (Ow own) Q) (QX X.K ca Wx σ H F (Ow own)) := by
          show PR (((ev c a e).bind fun v e1 => (Res.ok [] e1).bind fun vs e2 => .ok (v :: vs) e2).bind _) _ _
          cases q : ev c a e with
          | ok v e1 => rw [q] at P; exact P
          | ex x e1 => rw [q] at P; exact P
          | no => rw [q] at P; exact P
        refine ⟨.ref p, hu, ⟨p, us0, rfl, hp⟩, rd_list (r := fun us H2 => ∃ (d a : Addr) (ps : List Addr) (acc kvs : List (Key × V)), V.ref p = .ref d ∧ us = [.ref a] ∧ H2 d = some (.dK acc) ∧ SqL X.K H2 a (ps.map V.ref) ∧ Paired (fun p kv => SqT X.K H2 p [kV kv.1, kv.2]) ps kvs ∧
          acc.length + kvs.length ≤ sizeLine ∧ Q .non (upd H2 d (.dK (L2.mergeK acc kvs)))) Ext.refl R P fun vs e2 us H2 F2 own2 fp R2 V2 N2 E2 E P => ?_⟩
        match vs, V2, P with
        | [v], V2, P =>
          dsimp only at P
          cases V2 with
          | @cons u us v vs fp gp h r dj =>
            cases r
            rw [List.append_nil] at N2
            cases h2 : take e2 v with
            | none => rw [h2] at P; exact P.elim
            | some q =>
              obtain ⟨d, e3⟩ := q
              rw [h2] at P
              dsimp only at P
              cases h3 : getS e3 i with
              | none => rw [h3] at P; exact P.elim
              | some o =>
                rw [h3] at P
                dsimp only at P
                cases h4 : updV o d with
                | none => rw [h4] at P; exact P.elim
                | some o' =>
                  rw [h4] at P
                  dsimp only at P
                  obtain ⟨F3, own3, R3, D3, E3⟩ := h.take R2 h2
                  unfold updV at h4
                  split at h4
                  · rename_i kvs ps
                    obtain ⟨k0, hk0, h4⟩ := Option.bind_eq_some_iff.mp h4
                    obtain ⟨more, hmore, h4⟩ := Option.bind_eq_some_iff.mp h4
                    split at h4
                    · rename_i hl
                      cases h4
                      obtain ⟨p', us3, fp3, hu3, hp3, ho3, r3, mk⟩ := R3.mutD h3
                      rw [hu] at hu3
                      cases hu3
                      obtain ⟨k3, rfl⟩ := r3.unK hk0
                      cases D3 with
                      | lst hf dd =>
                        rename_i la lus
                        obtain ⟨qs, kv2, rfl, hpair, hks⟩ := pairs_den dd hmore
                        obtain ⟨R4, E4⟩ := mk (L2.mergeK us3 kv2) (liftK (mergeD k0 more)) (DKs.merge (us := []) (xs := []) hks k3).vrk
                        refine ⟨p, la, qs, us3, kv2, rfl, rfl, hp3, hf.sq, hpair, by rw [k3.len, hks.len]; exact hl, ?_⟩
                        exact QV.scal P R4 (((E.addT N2).trans E3).trans E4) .non
                    · cases h4
                  · cases h4
      | _ => rw [h1] at h0; cases h0
  · exact P.elim
theorem pm_upd (hc : X.calm = true) (hx : PE X x (tVar i)) (ha : PE X y (tI X.K ca Wx c a)) (hs : star y = false) (hbase : attributeBase x "update" X.env (eval x X.env) = eval x X.env)
    (hline : (apos.endLine == pos.line) = true) : PE X (.Call (.Attribute x "update" apos) [y] [] pos) (tI X.K ca Wx c (.upd i a)) := by
  have e1 := star_cons (es := []) (env := X.env) hs
  have few : ((backTo pos (starEach [y] X.env)).all (fun x => !x.1) && (backToKw pos (keywordEach [] X.env)).all (fun x => x.1.isSome)
        && decide (([y] : List Expr).length + ([] : List Keyword).length + (if ([] : List Keyword).isEmpty then 0 else 1) < 30)) = true := by
    rw [noStars_all (es := [y]) (by simp [noStars, hs])]
    rfl
  exact (pe_bm (T := "dict") PySem.F.plainAttrs_dict PySem.F.slot_dict_update PySem.F.type_dict_update (mt_update hc) hx (pm_cons ha pm_nil e1) hbase few hline e1 rfl).weak fun σ H Q h => by
    obtain ⟨v, hv, ⟨p, us, rfl, hp⟩, t⟩ := upd_w h
    exact ⟨_, hv, .inr (.inr (.inl ⟨rfl, .inl ⟨_, hp⟩⟩)), t⟩
end
end PM
end

section
set_option Elab.async false
set_option linter.all false
set_option maxRecDepth 100000
set_option maxHeartbeats 2000000
/-! PMTab3: d.get; written dicts of the module; calls without arguments. -/
namespace PM
open PySem PySem.Spec PyProof.Rows L2
section
variable {X : Cx} {ca : Str → Option Addr} {Wx : Wish} {c : Ctx} {x y z o : Expr} {xs : List Expr} {es : List ME} {a b d k : ME} {pos apos p1 : Pos} {nm : Str} {i : Nat}
theorem m1_of (hb : attributeBase o nm X.env (eval o X.env) = eval o X.env) (hs : star y = false) (hl : (apos.endLine == pos.line) = true) : M1 X o nm apos y pos where
  base := hb
  few := by
    rw [noStars_all (es := [y]) (by simp [noStars, hs])]
    rfl
  line := hl
  trees := by
    have := star_cons (es := []) (env := X.env) hs
    rw [this]
    rfl
theorem m2_of (hb : attributeBase o nm X.env (eval o X.env) = eval o X.env) (hs : star y = false) (hs2 : star z = false) (hl : (apos.endLine == pos.line) = true) : M2 X o nm apos y z pos where
  base := hb
  few := by
    rw [noStars_all (es := [y, z]) (by simp [noStars, hs, hs2])]
    rfl
  line := hl
  trees := by
    have e1 := star_cons (es := [z]) (env := X.env) hs
    have e2 := star_cons (es := []) (env := X.env) hs2
    rw [e1, e2]
    rfl
theorem isDic_of {e : Env} {v : Val} (h : (see e v).map isDicD = some true) : ∃ kvs, see e v = some (.dict kvs) := by
  cases q : see e v with
  | none => rw [q] at h; cases h
  | some x =>
    rw [q] at h
    cases x with
    | dict kvs => exact ⟨kvs, rfl⟩
    | _ => cases h
theorem getD2_ok {K : PySem.W.Frag} {H : Hp} {F : Fs} {u w zv : V} {a b zd r : D} (ha : SeeF K H F u a) (hb : SeeF K H F w b) (hz : Den K H F zv zd) (e : getD2 a b zd = some r) :
    ∃ p o, u = .ref p ∧ DGet H p w o ∧ Den K H F (o.getD zv) r := by
  cases a with
  | dict kvs =>
    obtain ⟨kk, hk, rfl⟩ := Option.map_eq_some_iff.mp (show (dKey b).map (fun k => (getK kvs k).getD zd) = some r from e)
    obtain ⟨p, us, rfl, hp, d⟩ := ha.dict
    obtain rfl := kV_of hb hk
    refine ⟨p, valV us kk, rfl, .inl ⟨us, kk, hp, rfl, rfl⟩, ?_⟩
    obtain ⟨h1, h2⟩ := d.find kk
    cases q : getK kvs kk with
    | none => rw [h2 q]; exact hz
    | some y =>
      obtain ⟨v, e1, e2⟩ := h1 y q
      rw [e1]
      exact e2
  | _ => cases e
theorem pm_dget (hu : X.A.units + 100 < cLine) (ho : PE X o (tI X.K ca Wx c a)) (hk : PE X y (tI X.K ca Wx c k)) (hs : star y = false) (hb : attributeBase o "get" X.env (eval o X.env) = eval o X.env) (hl : (apos.endLine == pos.line) = true) :
    PE X (.Call (.Attribute o "get" apos) [y] [] pos) (tI X.K ca Wx c (.dget a k)) :=
  (pe_dget1 (by omega) ho hk (m1_of hb hs hl)).weak fun σ H Q ⟨e, F, own, R, P⟩ =>
    rd_one (r := fun x H1 => ∃ q, x = .ref q ∧ IsD H1 q ∧ tI X.K ca Wx c k σ H1 fun y H2 => ∃ o, DGet H2 q y o ∧ Q (o.getD .non) H2) R P fun va e1 u H1 F1 own1 fp1 R1 V1 N1 E1 P => by
      split at P
      · rename_i h0
        obtain ⟨kvs, hkv⟩ := isDic_of h0
        obtain ⟨q, us, rfl, hp, d⟩ := (V1.seeF R1 hkv).dict
        refine ⟨q, rfl, .inl ⟨us, hp⟩, rd_next (r := fun y H2 => ∃ o, DGet H2 q y o ∧ Q (o.getD .non) H2) E1 R1 P fun vb e2 w H2 F2 own2 fp2 R2 V2 N2 E2 E P => ?_⟩
        have P : PR (match see e2 va, see e2 vb with
          | some x, some y => opt ((getD2 x y .none).map Val.d) e2
          | _, _ => .no) _ _ := P
        cases h1 : see e2 va with
        | none => rw [h1] at P; exact P.elim
        | some ax =>
          cases h2 : see e2 vb with
          | none => rw [h1, h2] at P; exact P.elim
          | some bx =>
            rw [h1, h2] at P
            obtain ⟨v, hv, P⟩ := PR.opt P
            obtain ⟨r, hr, rfl⟩ := Option.map_eq_some_iff.mp hv
            obtain ⟨p', o, e', g, dd⟩ := getD2_ok ((V1.ext E2 R1.wok).seeF R2 h1) (V2.seeF R2 h2) .non hr
            cases e'
            exact ⟨o, g, QV.scal P R2 E dd⟩
      · exact P.elim
theorem pm_dget2 (hu : X.A.units + 100 < cLine) (ho : PE X o (tI X.K ca Wx c a)) (hk : PE X y (tI X.K ca Wx c k)) (hz : PE X z (tI X.K ca Wx c d)) (hs : star y = false) (hs2 : star z = false) (hb : attributeBase o "get" X.env (eval o X.env) = eval o X.env) (hl : (apos.endLine == pos.line) = true) :
    PE X (.Call (.Attribute o "get" apos) [y, z] [] pos) (tI X.K ca Wx c (.dget2 a k d)) :=
  (pe_dget2 (by omega) ho hk hz (m2_of hb hs hs2 hl)).weak fun σ H Q ⟨e, F, own, R, P⟩ =>
    rd_one (r := fun x H1 => ∃ q, x = .ref q ∧ IsD H1 q ∧ tI X.K ca Wx c k σ H1 fun y H2 => tI X.K ca Wx c d σ H2 fun z H3 => ∃ o, DGet H3 q y o ∧ Q (o.getD z) H3) R P fun va e1 u H1 F1 own1 fp1 R1 V1 N1 E1 P => by
      split at P
      · rename_i h0
        obtain ⟨kvs, hkv⟩ := isDic_of h0
        obtain ⟨q, us, rfl, hp, dd⟩ := (V1.seeF R1 hkv).dict
        refine ⟨q, rfl, .inl ⟨us, hp⟩, rd_next (r := fun y H2 => tI X.K ca Wx c d σ H2 fun z H3 => ∃ o, DGet H3 q y o ∧ Q (o.getD z) H3) E1 R1 P fun vb e2 w H2 F2 own2 fp2 R2 V2 N2 E2 E P => ?_⟩
        refine rd_next (r := fun z H3 => ∃ o, DGet H3 q w o ∧ Q (o.getD z) H3) E R2 P fun vz e3 zv H3 F3 own3 fp3 R3 V3 N3 E3 E' P => ?_
        have P : PR (match take e3 vz with
          | some (d, e4) => match see e4 va, see e4 vb with
            | some x, some y => opt ((getD2 x y d).map Val.d) e4
            | _, _ => .no
          | none => .no) _ _ := P
        cases ht : take e3 vz with
        | none => rw [ht] at P; exact P.elim
        | some tq =>
          obtain ⟨td, e4⟩ := tq
          rw [ht] at P
          dsimp only at P
          obtain ⟨F4, own4, R4, D4, E4⟩ := V3.take R3 ht
          have E34 := (E3.addT N3).trans E4
          have Vb3 := V2.ext E3 R2.wok
          have Va3 := (V1.ext E2 R1.wok).ext E3 R2.wok
          have dj : ∀ {v' : Val} {u' : V} {g : List Addr}, RV X.K ca σ H2 F2 (Ow own2) u' v' g → ∀ m ∈ g, m ∉ fp3 := fun {v' u' g} V m hm z => by
            obtain ⟨mb, nw⟩ := V.mb m hm
            rcases N3 m z with q | q
            · exact nw q
            · exact mb.some q
          have w3 := R3.wok.addT V3
          have Vb4 := (Vb3.widen (gp := fp3) (dj V2)).ext E4 w3
          have Va4 := (Va3.widen (gp := fp3) (dj (V1.ext E2 R1.wok))).ext E4 w3
          cases h1 : see e4 va with
          | none => rw [h1] at P; exact P.elim
          | some ax =>
            cases h2 : see e4 vb with
            | none => rw [h1, h2] at P; exact P.elim
            | some bx =>
              rw [h1, h2] at P
              obtain ⟨v, hv, P⟩ := PR.opt P
              obtain ⟨r, hr, rfl⟩ := Option.map_eq_some_iff.mp hv
              obtain ⟨p', o, e', g, dd2⟩ := getD2_ok (Va4.seeF R4 h1) (Vb4.seeF R4 h2) D4 hr
              cases e'
              exact ⟨o, g, QV.scal P R4 ((E'.addT (fp_shift E N3)).trans E4) dd2⟩
      · exact P.elim
end
end PM
end

section
set_option Elab.async false
set_option linter.all false
set_option maxRecDepth 100000
set_option maxHeartbeats 2000000
/-! PMTab4: written dicts of the module; calls without arguments. -/
namespace PM
open PySem PySem.Spec PyProof.Rows L2
section
variable {X : Cx} {ca : Str → Option Addr} {Wx : Wish} {c : Ctx} {x y z o : Expr} {xs : List Expr} {es : List ME} {a b d k : ME} {pos apos p1 : Pos} {nm : Str} {i : Nat} {p : Addr} {kvs : List (Str × D)} {ty tx : TE}
theorem Dens.inv2 {K : PySem.W.Frag} {H : Hp} {F : Fs} {u1 u2 : V} {ds : List D} (h : Dens K H F [u1, u2] ds) : ∃ x y, ds = [x, y] ∧ Den K H F u1 x ∧ Den K H F u2 y := by
  cases h with
  | cons d1 r =>
    cases r with
    | cons d2 r =>
      cases r
      exact ⟨_, _, rfl, d1, d2⟩
theorem pe_tget1 (T : TabK X.K X.w p kvs) (ho : PE X o (tC (.ref p))) (he : PE X y ty) (m : M1 X o "get" apos y pos) :
    PE X (.Call (.Attribute o "get" apos) [y] [] pos) (fun σ H Q => ty σ H fun y H2 => ∃ z, y = .str z ∧ ∀ v, Cst X.K v ((kvs.lookup z).getD .none) → Q v H2) := by
  obtain ⟨es, n, D, hz⟩ := T
  refine ⟨fun pins s σ H Q I h => ?_⟩
  refine wpAny_Call_method m.base m.few m.line PySem.F.plainAttrs_dict PySem.F.slot_dict_get PySem.F.type_dict_get (thn (ho.run pins s σ H (fun x H1 => x = .ref p ∧ ty σ H1 fun y H2 => ∃ z, y = .str z ∧ ∀ v, Cst X.K v ((kvs.lookup z).getD .none) → Q v H2) I ⟨rfl, h⟩) fun u s1 ⟨x, H1, I1, rx, ex, q1⟩ => ?_)
  subst ex
  obtain rfl : u = Value.ref p := rx
  refine ⟨kd_type D I1, fun b e => ?_, ?_⟩
  · cases e
    exact ⟨_, I1.kIn p _ D.at_, rfl⟩
  rw [m.trees]
  refine Calls.callWith_builtin rfl (Calls.evalArgs_plain (Calls.spliced_cons (thn (he.run pins s1 σ H1 _ I1 q1) fun iv s2 ⟨y, H2, I2, ry, z, ey, q2⟩ => Calls.spliced_nil ?_)))
  subst ey
  obtain ⟨t, rfl⟩ := ry
  obtain ⟨r, hr, h1, h2⟩ := hz z
  refine call_meetsIn PySem.F.slot_dict_get (kd_type D I2) PySem.F.entry_dict_get (PySem.F.args_dict_get_2 _ _) (meets_dict_get (PySem.strKind X.prog X.w) p (PySem.strKind_is X.prog X.w z t) D.low) ⟨_, PySem.W.mapOf_K (prog := X.prog) I2.kIn D.at_ D.lit, ?_⟩
  rw [PySem.W.find_K D.at_ hr]
  cases q : kvs.lookup z with
  | none =>
    rw [h2 q]
    rw [q] at q2
    exact ⟨.non, H2, I2.tok _, rfl, q2 .non fun _ _ => .non⟩
  | some d =>
    obtain ⟨u, v, e, rv, cv⟩ := h1 d q
    rw [e]
    rw [q] at q2
    exact ⟨v, H2, I2.tok _, rv, q2 v cv⟩
theorem pe_tget2 (T : TabK X.K X.w p kvs) (ho : PE X o (tC (.ref p))) (he : PE X y ty) (hf : PE X z tx) (m : M2 X o "get" apos y z pos) :
    PE X (.Call (.Attribute o "get" apos) [y, z] [] pos) (fun σ H Q => ty σ H fun y H2 => tx σ H2 fun zv H3 => ∃ z, y = .str z ∧ (∀ d v, kvs.lookup z = some d → Cst X.K v d → Q v H3) ∧ (kvs.lookup z = none → Q zv H3)) := by
  obtain ⟨es, n, D, hz⟩ := T
  refine ⟨fun pins s σ H Q I h => ?_⟩
  refine wpAny_Call_method m.base m.few m.line PySem.F.plainAttrs_dict PySem.F.slot_dict_get PySem.F.type_dict_get (thn (ho.run pins s σ H (fun x H1 => x = .ref p ∧ ty σ H1 fun y H2 => tx σ H2 fun zv H3 => ∃ z, y = .str z ∧ (∀ d v, kvs.lookup z = some d → Cst X.K v d → Q v H3) ∧ (kvs.lookup z = none → Q zv H3)) I ⟨rfl, h⟩) fun u s1 ⟨x, H1, I1, rx, ex, q1⟩ => ?_)
  subst ex
  obtain rfl : u = Value.ref p := rx
  refine ⟨kd_type D I1, fun b e => ?_, ?_⟩
  · cases e
    exact ⟨_, I1.kIn p _ D.at_, rfl⟩
  rw [m.trees]
  refine Calls.callWith_builtin rfl (Calls.evalArgs_plain (Calls.spliced_cons (thn (he.run pins s1 σ H1 _ I1 q1) fun iv s2 ⟨y, H2, I2, ry, q2⟩ =>
    Calls.spliced_cons (thn (hf.run pins s2 σ H2 _ I2 q2) fun fv s3 ⟨zv, H3, I3, rz, z, ey, q3, q4⟩ => Calls.spliced_nil ?_))))
  subst ey
  obtain ⟨t, rfl⟩ := ry
  obtain ⟨r, hr, h1, h2⟩ := hz z
  refine call_meetsIn PySem.F.slot_dict_get (kd_type D I3) PySem.F.entry_dict_get (PySem.F.args_dict_get_3 _ _ _) (meets_dict_get_default (PySem.strKind X.prog X.w) p (PySem.strKind_is X.prog X.w z t) D.low fv) ⟨_, PySem.W.mapOf_K (prog := X.prog) I3.kIn D.at_ D.lit, ?_⟩
  rw [PySem.W.find_K D.at_ hr]
  cases q : kvs.lookup z with
  | none =>
    rw [h2 q]
    exact ⟨zv, H3, I3.tok _, rz, q4 q⟩
  | some d =>
    obtain ⟨u, v, e, rv, cv⟩ := h1 d q
    rw [e]
    exact ⟨v, H3, I3.tok _, rv, q3 d v q cv⟩
theorem pm_tget1 (T : TabK X.K X.w p kvs) (ho : PE X o (tC (.ref p))) (hk : PE X y (tI X.K ca Wx c k)) (hs : star y = false) (hb : attributeBase o "get" X.env (eval o X.env) = eval o X.env) (hl : (apos.endLine == pos.line) = true) :
    PE X (.Call (.Attribute o "get" apos) [y] [] pos) (tI X.K ca Wx c (.tab .get kvs [k])) :=
  (pe_tget1 T ho hk (m1_of hb hs hl)).weak fun σ H Q ⟨e, F, own, R, P⟩ =>
    rd_one (r := fun y H2 => ∃ z, y = .str z ∧ ∀ v, Cst X.K v ((kvs.lookup z).getD .none) → Q v H2) R (PR.one' P) fun va e1 u H1 F1 own1 fp1 R1 V1 N1 E1 P => by
      have P : PR (match takes e1 [va] with
        | some (ds, e2) => opt ((tabD .get kvs ds).map Val.d) e2
        | none => .no) _ _ := P
      cases ht : takes e1 [va] with
      | none => rw [ht] at P; exact P.elim
      | some q =>
        obtain ⟨ds, e2⟩ := q
        rw [ht] at P
        dsimp only at P
        have V1' : RVs X.K ca σ H1 F1 (Ow own1) [u] [va] (fp1 ++ []) := .cons V1 .nil fun _ _ z => by cases z
        obtain ⟨F2, own2, R2, D2, E2⟩ := V1'.takes R1 ht
        rw [List.append_nil] at E2
        obtain ⟨v, hv, P⟩ := PR.opt P
        obtain ⟨r, hr, rfl⟩ := Option.map_eq_some_iff.mp hv
        cases D2 with
        | cons d1 d2 =>
          cases d2
          rename_i dk
          cases dk with
          | str zz =>
            cases d1
            cases hr
            exact ⟨zz, rfl, fun v cv => QV.scal P R2 ((E1.addT N1).trans E2) (cv _ _)⟩
          | _ => cases hr
theorem pm_tget2 (T : TabK X.K X.w p kvs) (ho : PE X o (tC (.ref p))) (hk : PE X y (tI X.K ca Wx c k)) (hz : PE X z (tI X.K ca Wx c d)) (hs : star y = false) (hs2 : star z = false) (hb : attributeBase o "get" X.env (eval o X.env) = eval o X.env) (hl : (apos.endLine == pos.line) = true) :
    PE X (.Call (.Attribute o "get" apos) [y, z] [] pos) (tI X.K ca Wx c (.tab .get2 kvs [k, d])) :=
  (pe_tget2 T ho hk hz (m2_of hb hs hs2 hl)).weak fun σ H Q ⟨e, F, own, R, P⟩ => by
    have P : PR ((ev c k e).bind fun va e1 => (ev c d e1).bind fun vb e2 => match takes e2 [va, vb] with
        | some (ds, e3) => opt ((tabD .get2 kvs ds).map Val.d) e3
        | none => .no) (QV X.K ca σ H F (Ow own) Q) (QX X.K ca Wx σ H F (Ow own)) := by
      have P : PR (((ev c k e).bind fun va e1 => (((ev c d e1).bind fun vb e2 => (Res.ok [] e2).bind fun vs e3 => Res.ok (vb :: vs) e3)).bind fun vs e2 => Res.ok (va :: vs) e2).bind fun vs e1 => match takes e1 vs with
        | some (ds, e3) => opt ((tabD .get2 kvs ds).map Val.d) e3
        | none => .no) (QV X.K ca σ H F (Ow own) Q) (QX X.K ca Wx σ H F (Ow own)) := P
      cases q : ev c k e with
      | ok v e1 =>
        rw [q] at P
        have P : PR (((((ev c d e1).bind fun vb e2 => (Res.ok [] e2).bind fun vs e3 => Res.ok (vb :: vs) e3)).bind fun vs e2 => Res.ok (v :: vs) e2).bind fun vs e1 => match takes e1 vs with
          | some (ds, e3) => opt ((tabD .get2 kvs ds).map Val.d) e3
          | none => .no) (QV X.K ca σ H F (Ow own) Q) (QX X.K ca Wx σ H F (Ow own)) := P
        show PR ((ev c d e1).bind fun vb e2 => match takes e2 [v, vb] with
          | some (ds, e3) => opt ((tabD .get2 kvs ds).map Val.d) e3
          | none => .no) _ _
        cases q2 : ev c d e1 with
        | ok w e2 => rw [q2] at P; exact P
        | ex x e2 => rw [q2] at P; exact P
        | no => rw [q2] at P; exact P
      | ex x e1 => rw [q] at P; exact P
      | no => rw [q] at P; exact P
    refine rd_two (r := fun y zv H3 => ∃ z, y = .str z ∧ (∀ d v, kvs.lookup z = some d → Cst X.K v d → Q v H3) ∧ (kvs.lookup z = none → Q zv H3)) R P fun va vb e2 u1 u2 H2 F2 own2 fp1 fp2 R2 V1 V2 dj N1 N2 E P => ?_
    cases ht : takes e2 [va, vb] with
    | none => rw [ht] at P; exact P.elim
    | some q =>
      obtain ⟨ds, e3⟩ := q
      rw [ht] at P
      dsimp only at P
      have V12 : RVs X.K ca σ H2 F2 (Ow own2) [u1, u2] [va, vb] (fp1 ++ (fp2 ++ [])) := .cons V1 (.cons V2 .nil fun _ _ z => by cases z) fun m hm z => by rw [List.append_nil] at z; exact dj m hm z
      obtain ⟨F3, own3, R3, D3, E3⟩ := V12.takes R2 ht
      rw [List.append_nil] at E3
      have E' := (E.addT (fp := fp1 ++ fp2) fun m hm => (List.mem_append.mp hm).elim (N1 m) (N2 m)).trans E3
      obtain ⟨v, hv, P⟩ := PR.opt P
      obtain ⟨r, hr, rfl⟩ := Option.map_eq_some_iff.mp hv
      obtain ⟨dk, dz, rfl, d1, d2⟩ := D3.inv2
      cases dk with
          | str zz =>
            cases d1
            have hr : some ((kvs.lookup zz).getD dz) = some r := hr
            cases hr
            refine ⟨zz, rfl, fun d v hl cv => QV.scal P R3 E' ?_, fun hl => QV.scal P R3 E' ?_⟩
            · rw [hl]; exact cv _ _
            · rw [hl]; exact d2
          | _ => cases hr
/-- T[k] -/
theorem pm_tidx (T : TabK X.K X.w p kvs) (ho : PE X o (tC (.ref p))) (hk : PE X y (tI X.K ca Wx c k)) (hs : PlainIx y) : PE X (.Subscript o y pos) (tI X.K ca Wx c (.tab .idx kvs [k])) :=
  (pe_ix ix_kdict ho hk hs).weak fun σ H Q ⟨e, F, own, R, P⟩ => by
    show tI X.K ca Wx c k σ H _
    refine rd_one (r := fun y H2 => rIxD X.K X.w (.ref p) y H2 Q) R (PR.one' P) fun va e1 u H1 F1 own1 fp1 R1 V1 N1 E1 P => ?_
    have P : PR (match takes e1 [va] with
      | some (ds, e2) => opt ((tabD .idx kvs ds).map Val.d) e2
      | none => .no) _ _ := P
    cases ht : takes e1 [va] with
    | none => rw [ht] at P; exact P.elim
    | some q =>
      obtain ⟨ds, e2⟩ := q
      rw [ht] at P
      dsimp only at P
      have V1' : RVs X.K ca σ H1 F1 (Ow own1) [u] [va] (fp1 ++ []) := .cons V1 .nil fun _ _ z => by cases z
      obtain ⟨F2, own2, R2, D2, E2⟩ := V1'.takes R1 ht
      rw [List.append_nil] at E2
      obtain ⟨v0, hv, P2⟩ := PR.opt P
      clear P
      obtain ⟨r, hr, rfl⟩ := Option.map_eq_some_iff.mp hv
      cases D2 with
      | cons d1 d2 =>
        cases d2
        rename_i dk
        cases dk with
        | str zz =>
          cases d1
          have hr : kvs.lookup zz = some r := hr
          obtain ⟨es, n, D, hz⟩ := T
          obtain ⟨r', hr', h1, h2⟩ := hz zz
          obtain ⟨u, v, e, rv, cv⟩ := h1 _ hr
          exact ⟨p, zz, v, rfl, rfl, ⟨es, n, u, D.at_, D.lit, by rw [hr', e], rv⟩, QV.scal P2 R2 ((E1.addT N1).trans E2) (cv _ _)⟩
        | _ => cases hr
/-! ### f() -/
theorem pe_callM0 {f : Str} {i np : Nat} {p : Pos} (gd : X.A.guards = some []) (tk : L2.Takes X Wx) (G : GOk X ca c f (.fn i np)) (hg : Gl X f) (hdb : (f == ("__debug__" : Str)) = false) : PE X (.Call (.Name f p) [] [] pos) (tI X.K ca Wx c (.call i [])) := by
  obtain ⟨fa, fd, ps, kk, hm, hk, hb, hr, F, har⟩ := G
  have h0 : PE X (.Call (.Name f p) [] [] pos) (tCallSD (spF X.K ca np (c.call i)) [] (WE Wx) tNil) := by
    refine ⟨fun pins s σ H Q I h => ?_⟩
    refine wpAny_Call_Name_kw (ld_glob I hg hm ?_ hdb)
    exact PySem.W.callWith_K0 I.kIn hk (F.meet (us := []) gd hr hb (passAt tk σ) I .nil h)
  exact h0.weak fun σ H Q h => by
    obtain ⟨e, F, own, R, P⟩ := rd_call har h
    have := (show QVs X.K ca σ H F (Ow own) (fun us H1 => spF X.K ca np (c.call i) us H1 Q (fun cls d H' => Wx cls d σ H')) [] e from P) [] H F own [] R .nil (fun a m => by cases m) Ext.refl
    exact this
end
section
variable {X : Cx}
/-- dict(pairs) -/
theorem crB_dict (hc : X.calm = true) : CallR X (.type "dict") (rB X.K (biD .dict)) := by
  intro pins s σ H xs us Q I r ⟨F, ds, v, hs, e, q⟩
  match ds, e with
  | [.list ps], e =>
    obtain ⟨more, hm, rfl⟩ := Option.map_eq_some_iff.mp (show (pairsK ps).map (fun more => Val.od (liftK (mergeD [] more))) = some v from e)
    obtain ⟨u, rfl, h⟩ := hs.one
    obtain ⟨p, ws, rfl, hp, d⟩ := h.list
    obtain ⟨as, kvs, rfl, h1, h2⟩ := pairs_den d hm
    exact call_dictP hc pins s σ H _ us Q I r ⟨p, as, kvs, rfl, .inl hp, h1, fun p hp => q _ _ (.dic hp (DKs.merge (us := []) (xs := []) h2 .nil))⟩
end
end PM
end

section
set_option Elab.async false
set_option linter.all false
set_option maxRecDepth 100000
set_option maxHeartbeats 4000000
/-! PMChk2: the checker of expressions. -/
namespace PM
open PySem PySem.Spec PyProof.Rows L2
def isSet : Expr → Bool
  | .Set .. => true
  | _ => false
def isSlice : Expr → Bool
  | .Slice .. => true
  | _ => false
theorem mark_ok {op : CmpOp} {e : Expr} (h : isSet e = false) : behindInMarks op e = false := by cases e <;> first | rfl | cases h
theorem fold_ok {e : Expr} {env : PySem.Env} (h : isSet e = false) : ∀ x, foldedSetIterable e env x = pure x := fun x => by
  cases e <;> first | rfl | cases h
theorem last_ok {a b : CmpOp} {x y : Expr} (h : isSet y = false) : lastMarks [a, b] [x, y] = false := mark_ok (op := b) h
theorem plain_ok {e : Expr} (h : isSlice e = false) : PlainIx e := fun o i => by cases e <;> first | rfl | cases h
def ckCmp (rec : Rec) (C : CC) (x : Expr) (ops : List CmpOp) (ys : List Expr) (m : ME) : Bool := match ops, ys, m with
  | [op], [y], .cmp op' a b => decide (op = op') && okCmp op && !isSet y && rec C (.E x a) && rec C (.E y b)
  | [.Is], [.Constant .none _ _], .isN false a => rec C (.E x a)
  | [.IsNot], [.Constant .none _ _], .isN true a => rec C (.E x a)
  | [.Is], [.Constant (.bool k) _ _], .isB false a k' => k == k' && rec C (.E x a)
  | [.IsNot], [.Constant (.bool k) _ _], .isB true a k' => k == k' && rec C (.E x a)
  | [op, op2], [y, z], .chain o1 o2 a b d => decide (op = o1) && decide (op2 = o2) && okCmp op && okCmp op2 && !isSet z && rec C (.E x a) && rec C (.E y b) && rec C (.E z d)
  | _, _, _ => false
section
variable {rec : Rec} (S : Sound rec) {C : CC} {ca : Str → Option Addr} {Wx : Wish} {c : Ctx} {X : Cx} (K : CxOk C ca Wx c X)
include S K
theorem ckCmp_ok {x : Expr} {ops : List CmpOp} {ys : List Expr} {m : ME} {pos : Pos} (h : ckCmp rec C x ops ys m = true) : PE X (.Compare x ops ys pos) (tI X.K ca Wx c m) ∧ PT X (.Compare x ops ys pos) (tIt X.K ca Wx c m) := by
  unfold ckCmp at h
  split at h
  · simp only [Bool.and_eq_true, Bool.not_eq_true', decide_eq_true_eq] at h
    obtain ⟨⟨⟨⟨rfl, h1⟩, h2⟩, h3⟩, h4⟩ := h
    exact ⟨pm_cmp K.un h1 (S _ _ h3 _ _ _ _ K) (S _ _ h4 _ _ _ _ K) (mark_ok h2), pt_cmpM K.un h1 (S _ _ h3 _ _ _ _ K) (S _ _ h4 _ _ _ _ K) (mark_ok h2)⟩
  · exact ⟨pm_isN (neg := false) (S _ _ h _ _ _ _ K), pt_isN (neg := false) (S _ _ h _ _ _ _ K)⟩
  · exact ⟨pm_isN (neg := true) (S _ _ h _ _ _ _ K), pt_isN (neg := true) (S _ _ h _ _ _ _ K)⟩
  · simp only [Bool.and_eq_true, beq_iff_eq] at h
    obtain ⟨rfl, h⟩ := h
    exact ⟨pm_isB (neg := false) (S _ _ h _ _ _ _ K), pt_isBM (neg := false) (S _ _ h _ _ _ _ K)⟩
  · simp only [Bool.and_eq_true, beq_iff_eq] at h
    obtain ⟨rfl, h⟩ := h
    exact ⟨pm_isB (neg := true) (S _ _ h _ _ _ _ K), pt_isBM (neg := true) (S _ _ h _ _ _ _ K)⟩
  · simp only [Bool.and_eq_true, Bool.not_eq_true', decide_eq_true_eq] at h
    obtain ⟨⟨⟨⟨⟨⟨⟨rfl, rfl⟩, h1⟩, h2⟩, h3⟩, h4⟩, h5⟩, h6⟩ := h
    exact ⟨pm_chain K.un h1 h2 (S _ _ h4 _ _ _ _ K) (S _ _ h5 _ _ _ _ K) (S _ _ h6 _ _ _ _ K) (last_ok h3), pt_chainM K.un h1 h2 (S _ _ h4 _ _ _ _ K) (S _ _ h5 _ _ _ _ K) (S _ _ h6 _ _ _ _ K) (last_ok h3)⟩
  · cases h
end
/-! ### calls by name -/
inductive BT where
  | b (id : String)
  | t (id : String)
/-- the built-ins that are known, by their names -/
def biOf (b : Bi) : Option (Str × BT) := match b with
  | .len => some ("len", .b "len")
  | .all => some ("all", .b "all")
  | .any => some ("any", .b "any")
  | .sum => some ("sum", .b "sum")
  | .max => some ("max", .b "max")
  | .min => some ("min", .b "min")
  | .sorted => some ("sorted", .b "sorted")
  | .abs => some ("abs", .b "abs")
  | .repr => some ("repr", .b "repr")
  | .list => some ("list", .t "list")
  | .tuple => some ("tuple", .t "tuple")
  | .int => some ("int", .t "int")
  | .str => some ("str", .t "str")
  | .dict => some ("dict", .t "dict")
  | _ => none
section
variable {X : Cx}
theorem biOf_b (hc : X.calm = true) (hu : X.A.units + 100 < cLine) (gd : X.A.guards = some []) {b : Bi} {x : Str} {id : String} (h : biOf b = some (x, .b id)) : CallR X (.builtin id) (rB X.K (biD b)) ∧ bootBuiltins x = some (.builtin id) := by
  cases b <;> cases h
  · exact ⟨crB_len, boot_len⟩
  · exact ⟨crB_all hc, boot_all⟩
  · exact ⟨crB_any hc, boot_any⟩
  · exact ⟨crB_sum hc, boot_sum⟩
  · exact ⟨crB_max hc, boot_max⟩
  · exact ⟨crB_min hc, boot_min⟩
  · exact ⟨crB_sorted, boot_sorted⟩
  · exact ⟨crB_repr hu gd, (by decide +kernel)⟩
  · exact ⟨crB_abs, boot_abs⟩
theorem biOf_t (hc : X.calm = true) {b : Bi} {x : Str} {id : String} (h : biOf b = some (x, .t id)) : CallR X (.type id) (rB X.K (biD b)) ∧ bootBuiltins x = some (.type id) := by
  cases b <;> cases h
  · exact ⟨crB_list, boot_list⟩
  · exact ⟨crB_tuple, boot_tuple⟩
  · exact ⟨crB_int, boot_int⟩
  · exact ⟨crB_str, boot_str⟩
  · exact ⟨crB_dict hc, boot_dict⟩
end
def tyNames : List (Str × String) := [("bool", "bool"), ("int", "int"), ("str", "str"), ("list", "list"), ("tuple", "tuple"), ("dict", "dict"), ("ValueError", "ValueError")]
theorem tyNames_ok : ∀ p ∈ tyNames, p.2 ∈ TN ∧ bootBuiltins p.1 = some (.type p.2) := by
  unfold tyNames
  simp only [List.mem_cons, List.not_mem_nil, or_false]
  rintro p (rfl | rfl | rfl | rfl | rfl | rfl | rfl)
  · exact ⟨by decide, boot_bool⟩
  · exact ⟨by decide, boot_int⟩
  · exact ⟨by decide, boot_str⟩
  · exact ⟨by decide, boot_list⟩
  · exact ⟨by decide, boot_tuple⟩
  · exact ⟨by decide, boot_dict⟩
  · exact ⟨by decide, (by decide +kernel)⟩
/-- a class told by its name -/
def ckTy (C : CC) (e : Expr) (t : Ty) : Bool := match e, t with
  | .Name x _, .bt n => isNo C x && decide (tyNames.lookup x = some n)
  | .Name x _, .cl y => decide (x = y) && isG C x && dbg x && match C.G.lookup x with
    | some (.cls _) => true
    | _ => false
  | _, _ => false
def ckTys (C : CC) : List Expr → List Ty → Bool
  | [], [] => true
  | e :: es, t :: ts => !star e && ckTy C e t && ckTys C es ts
  | _, _ => false
section
variable {C : CC} {ca : Str → Option Addr} {Wx : Wish} {c : Ctx} {X : Cx} (K : CxOk C ca Wx c X)
include K
theorem ckTy_ok {e : Expr} {t : Ty} (h : ckTy C e t = true) : ∃ v, PM.tyV ca t = some v ∧ PE X e (tC v) := by
  unfold ckTy at h
  split at h
  · rename_i x pos n
    simp only [Bool.and_eq_true, decide_eq_true_eq] at h
    obtain ⟨h1, h2⟩ := h
    obtain ⟨g1, g2, g3, g4⟩ := isNo_ok K h1
    have key := tyNames_ok _ (PySem.mem_of_lookup h2)
    exact ⟨.ty n, if_pos key.1, pe_bltn g1 g2 key.2 rfl g4 g3⟩
  · rename_i x pos y
    simp only [Bool.and_eq_true, decide_eq_true_eq] at h
    obtain ⟨⟨⟨rfl, h1⟩, h2⟩, h3⟩ := h
    obtain ⟨d1, d2, d3⟩ := dbg_ok h2
    split at h3
    · rename_i hl
      obtain ⟨A, hA, hm, _⟩ := K.G _ _ hl
      exact ⟨.ref A, by show (ca x).map V.ref = _; rw [hA]; rfl, pe_glob (gl_ok K h1) hm rfl d1⟩
    · cases h3
  · cases h
/-- constants in a row -/
theorem ckTys_ok : ∀ {es : List Expr} {ts : List Ty}, ckTys C es ts = true → ∃ vs te, ts.mapM (PM.tyV ca) = some vs ∧ PA X es te ∧ ∀ σ H Q, Q vs H → te σ H Q
  | [], ts, h => by
    cases ts with
    | nil => exact ⟨[], tNil, rfl, pa_nil, fun σ H Q q => q⟩
    | cons _ _ => cases h
  | e :: es, ts, h => by
    cases ts with
    | nil => cases h
    | cons t ts =>
      have h : (!star e && ckTy C e t && ckTys C es ts) = true := h
      simp only [Bool.and_eq_true, Bool.not_eq_true'] at h
      obtain ⟨⟨h1, h2⟩, h3⟩ := h
      obtain ⟨v, hv, he⟩ := ckTy_ok K h2
      obtain ⟨vs, te, hvs, hes, ht⟩ := ckTys_ok h3
      refine ⟨v :: vs, tCons (tC v) te, ?_, pa_cons he hes (star_cons h1), fun σ H Q q => ht _ _ _ q⟩
      rw [List.mapM_cons, hv, hvs]
      rfl
end
end PM
end

section
set_option Elab.async false
set_option linter.all false
set_option maxRecDepth 100000
set_option maxHeartbeats 4000000
/-! PMChk3: calls, methods, blocks; the checker of expressions as a whole. -/
namespace PM
open PySem PySem.Spec PyProof.Rows L2
/-- f(..) -/
def ckCall (rec : Rec) (C : CC) (f : Str) (args : List Expr) (m : ME) : Bool := match m with
  | .call i es => isG C f && dbg f && noStars args && decide (args.isEmpty = es.isEmpty) && rec C (.A args es) && match C.G.lookup f with
    | some (.fn j np) => decide (i = j)
    | _ => false
  | .bi .lenset [a] => match args with
    | [.Call (.Name g _) [x] [] _] => decide (f = ("len" : Str)) && decide (g = ("set" : Str)) && isNo C f && isNo C g && !star x && rec C (.E x a)
    | _ => false
  | .bi b es => isNo C f && noStars args && !args.isEmpty && rec C (.A args es) && match biOf b with
    | some (y, _) => decide (f = y)
    | none => false
  | .isi a ts => decide (f = ("isinstance" : Str)) && isNo C f && match args with
    | [x, y] => !star x && rec C (.E x a) && match y, ts with
      | .Tuple ys _ _, ts => ckTys C ys ts && decide (ts.length ≤ 100)
      | .Name z p, [t] => ckTy C (.Name z p) t
      | _, _ => false
    | _ => false
  | _ => false
theorem pe_callM {X : Cx} {ca : Str → Option Addr} {Wx : Wish} {c : Ctx} {x : Expr} {xs : List Expr} {es : List ME} {f : Str} {i np : Nat} {p pos : Pos} (gd : X.A.guards = some []) (tk : L2.Takes X Wx) (G : GOk X ca c f (.fn i np)) (hg : Gl X f) (hdb : (f == ("__debug__" : Str)) = false) (ha : PA X (x :: xs) (tIs X.K ca Wx c es))
    (he : starEach (x :: xs) X.env = (false, eval x X.env) :: starEach xs X.env) (hpl : (backTo pos (starEach xs X.env)).any (·.1) = false) : PE X (.Call (.Name f p) (x :: xs) [] pos) (tI X.K ca Wx c (.call i es)) := by
  obtain ⟨fa, fd, ps, kk, hm, hk, hb, hr, F, har⟩ := G
  exact (pe_callG (Ec := WE Wx) gd F hr hg hm hk hb (passAt tk) ha hdb he hpl).weak fun σ H Q h => (rd_call har h).mono fun us H2 q => by
    rw [List.append_nil]
    exact q
section
variable {rec : Rec} (S : Sound rec) {C : CC} {ca : Str → Option Addr} {Wx : Wish} {c : Ctx} {X : Cx} (K : CxOk C ca Wx c X)
include S K
theorem ckCall_ok {f : Str} {args : List Expr} {m : ME} {p pos : Pos} (h : ckCall rec C f args m = true) : PE X (.Call (.Name f p) args [] pos) (tI X.K ca Wx c m) := by
  unfold ckCall at h
  split at h
  · simp only [Bool.and_eq_true, Bool.not_eq_true'] at h
    obtain ⟨⟨⟨⟨⟨h1, h2⟩, h3⟩, h4⟩, h5⟩, h6⟩ := h
    split at h6
    · rename_i hl
      have h6 := of_decide_eq_true h6
      subst h6
      rw [decide_eq_true_eq] at h4
      cases args with
      | nil =>
        have h4 := List.isEmpty_iff.mp h4.symm
        subst h4
        exact pe_callM0 K.gd K.tk (K.G _ _ hl) (gl_ok K h1) (dbg_ok h2).1
      | cons x xs =>
        obtain ⟨s1, s2⟩ := noStars_cons h3
        exact pe_callM K.gd K.tk (K.G _ _ hl) (gl_ok K h1) (dbg_ok h2).1 (S _ _ h5 _ _ _ _ K) (star_cons s1) (noStars_any s2)
    · cases h6
  · split at h
    · simp only [Bool.and_eq_true, Bool.not_eq_true', decide_eq_true_eq] at h
      obtain ⟨⟨⟨⟨⟨rfl, rfl⟩, h3⟩, h4⟩, h5⟩, h6⟩ := h
      obtain ⟨g1, g2, _, _⟩ := isNo_ok K h3
      obtain ⟨g3, g4, _, _⟩ := isNo_ok K h4
      exact pm_lenset K.calm g1 g2 g3 g4 (S _ _ h6 _ _ _ _ K) (star_cons h5)
    · cases h
  · rename_i b es _
    simp only [Bool.and_eq_true, Bool.not_eq_true'] at h
    obtain ⟨⟨⟨⟨h1, h2⟩, h3⟩, h4⟩, h5⟩ := h
    obtain ⟨g1, g2, g3, g4⟩ := isNo_ok K h1
    split at h5
    · rename_i y bt hb
      have h5 := of_decide_eq_true h5
      subst h5
      cases args with
      | nil => cases h3
      | cons x xs =>
        obtain ⟨s1, s2⟩ := noStars_cons h2
        cases bt with
        | b id =>
          obtain ⟨k1, k2⟩ := biOf_b (X := X) K.calm K.un K.gd hb
          exact pm_biB k1 g1 g2 k2 g4 g3 (S _ _ h4 _ _ _ _ K) (star_cons s1) (noStars_any s2)
        | t id =>
          obtain ⟨k1, k2⟩ := biOf_t (X := X) K.calm hb
          exact pm_biT k1 g1 g2 k2 g4 g3 (S _ _ h4 _ _ _ _ K) (star_cons s1) (noStars_any s2)
    · cases h5
  · simp only [Bool.and_eq_true, decide_eq_true_eq] at h
    obtain ⟨⟨rfl, h1⟩, h⟩ := h
    obtain ⟨g1, g2, g3, g4⟩ := isNo_ok K h1
    split at h
    · simp only [Bool.and_eq_true, Bool.not_eq_true'] at h
      obtain ⟨⟨h2, h3⟩, h⟩ := h
      split at h
      · simp only [Bool.and_eq_true, decide_eq_true_eq] at h
        obtain ⟨vs, te, hv, hy, ht⟩ := ckTys_ok K h.1
        exact pm_isiT K.cls g1 g2 (S _ _ h3 _ _ _ _ K) hy ht hv (by rw [mapM_len hv]; exact Nat.le_trans h.2 (by decide)) (star_cons h2) rfl rfl
      · obtain ⟨v, hv, hy⟩ := ckTy_ok K h
        exact pm_isi1 K.cls g1 g2 (S _ _ h3 _ _ _ _ K) hy hv (star_cons h2) rfl rfl
      · cases h
    · cases h
  · cases h
end
/-! ### o.m(..) -/
def plainO : Expr → Bool
  | .Name .. => true
  | .Constant .. => true
  | .Subscript .. => true
  | .BinOp .. => true
  | .Dict .. => true
  | .List .. => true
  | _ => false
theorem base_ok {o : Expr} {nm : Str} {env : PySem.Env} {w : PySem.Sem Value} (h : plainO o = true) : attributeBase o nm env w = w := by cases o <;> first | rfl | cases h
def ckMeth (rec : Rec) (C : CC) (o : Expr) (nm : Str) (apos : Pos) (args : List Expr) (pos : Pos) (m : ME) : Bool := plainO o && (apos.endLine == pos.line) && match m with
  | .mt .join a [b] => match args with
    | [x] => decide (nm = ("join" : Str)) && !star x && rec C (.E o a) && rec C (.E x b)
    | _ => false
  | .mt .upper a [] => match args with
    | [] => decide (nm = ("upper" : Str)) && rec C (.E o a)
    | _ => false
  | .upd i a => (match o with
    | .Name x _ => decide (C.N[i]? = some x) && vis C x && dbg x
    | _ => false) && match args with
      | [x] => decide (nm = ("update" : Str)) && !star x && rec C (.E x a)
      | _ => false
  | .dget a k => match args with
    | [x] => decide (nm = ("get" : Str)) && !star x && rec C (.E o a) && rec C (.E x k)
    | _ => false
  | .dget2 a k z => match args with
    | [x, y] => decide (nm = ("get" : Str)) && !star x && !star y && rec C (.E o a) && rec C (.E x k) && rec C (.E y z)
    | _ => false
  | .tab .get kvs [k] => match o, args with
    | .Name x _, [y] => decide (nm = ("get" : Str)) && !star y && isTab C x kvs && rec C (.E y k)
    | _, _ => false
  | .tab .get2 kvs [k, d] => match o, args with
    | .Name x _, [y, z] => decide (nm = ("get" : Str)) && !star y && !star z && isTab C x kvs && rec C (.E y k) && rec C (.E z d)
    | _, _ => false
  | .mu k i es => (match o with
    | .Name x _ => decide (C.N[i]? = some x) && vis C x && dbg x
    | _ => false) && match k, args with
      | .append, [x] => decide (nm = ("append" : Str)) && !star x && rec C (.A [x] es)
      | .extend, [x] => decide (nm = ("extend" : Str)) && !star x && rec C (.A [x] es)
      | .pop, [] => decide (nm = ("pop" : Str)) && es.isEmpty
      | .clear, [] => decide (nm = ("clear" : Str)) && es.isEmpty
      | _, _ => false
  | _ => false
theorem mu_lists {m : Mu} {o : Val} {ds : List D} (h : muV m o ds ≠ none) : ∃ vs, o = .ol vs := by
  cases o with
  | ol vs => exact ⟨vs, rfl⟩
  | _ => exact absurd (by cases m <;> rfl) h
theorem mu_res {m : Mu} {o : Val} {ds : List D} {w o' : Val} (h : muV m o ds = some (w, o')) : ∃ x vs', w = .d x ∧ o' = .ol vs' := by
  unfold muV at h
  split at h
  · split at h
    · cases h; exact ⟨_, _, rfl, rfl⟩
    · cases h
  · split at h
    · cases h; exact ⟨_, _, rfl, rfl⟩
    · cases h
  · split at h
    · cases h; exact ⟨_, _, rfl, rfl⟩
    · cases h
  · obtain ⟨es, _, h⟩ := Option.bind_eq_some_iff.mp h
    split at h
    · cases h; exact ⟨_, _, rfl, rfl⟩
    · cases h
  · obtain ⟨es, _, h⟩ := Option.map_eq_some_iff.mp h
    cases h; exact ⟨_, _, rfl, rfl⟩
  · cases h
section
variable {rec : Rec} (S : Sound rec) {C : CC} {ca : Str → Option Addr} {Wx : Wish} {c : Ctx} {X : Cx} (K : CxOk C ca Wx c X)
include S K
theorem ckMeth_ok {o : Expr} {nm : Str} {apos pos : Pos} {args : List Expr} {m : ME} (h : ckMeth rec C o nm apos args pos m = true) : PE X (.Call (.Attribute o nm apos) args [] pos) (tI X.K ca Wx c m) := by
  unfold ckMeth at h
  rw [Bool.and_eq_true, Bool.and_eq_true] at h
  obtain ⟨⟨h1, h2⟩, h⟩ := h
  split at h
  · split at h
    · simp only [Bool.and_eq_true, Bool.not_eq_true', decide_eq_true_eq] at h
      obtain ⟨⟨⟨rfl, h3⟩, h4⟩, h5⟩ := h
      exact pm_join (S _ _ h4 _ _ _ _ K) (S _ _ h5 _ _ _ _ K) (star_cons h3) (base_ok h1) h2
    · cases h
  · split at h
    · simp only [Bool.and_eq_true, decide_eq_true_eq] at h
      obtain ⟨rfl, h4⟩ := h
      exact pm_upper (S _ _ h4 _ _ _ _ K) (base_ok h1) h2
    · cases h
  · rw [Bool.and_eq_true] at h
    obtain ⟨h3, h⟩ := h
    split at h3
    · rename_i x p
      simp only [Bool.and_eq_true, decide_eq_true_eq] at h3
      obtain ⟨⟨h4, h5⟩, h6⟩ := h3
      obtain ⟨d1, d2, d3⟩ := dbg_ok h6
      have hx : PE X (.Name x p) (tVar _) := pe_var (by rw [K.N]; exact h4) (vis_ok K h5) d1 d2
      split at h
      · simp only [Bool.and_eq_true, Bool.not_eq_true', decide_eq_true_eq] at h
        obtain ⟨⟨rfl, h7⟩, h8⟩ := h
        exact pm_upd K.calm hx (S _ _ h8 _ _ _ _ K) h7 (base_ok h1) h2
      · cases h
    · cases h3
  · split at h
    · simp only [Bool.and_eq_true, Bool.not_eq_true', decide_eq_true_eq] at h
      obtain ⟨⟨⟨rfl, h3⟩, h4⟩, h5⟩ := h
      exact pm_dget K.un (S _ _ h4 _ _ _ _ K) (S _ _ h5 _ _ _ _ K) h3 (base_ok h1) h2
    · cases h
  · split at h
    · simp only [Bool.and_eq_true, Bool.not_eq_true', decide_eq_true_eq] at h
      obtain ⟨⟨⟨⟨⟨rfl, h3⟩, h4⟩, h5⟩, h6⟩, h7⟩ := h
      exact pm_dget2 K.un (S _ _ h5 _ _ _ _ K) (S _ _ h6 _ _ _ _ K) (S _ _ h7 _ _ _ _ K) h3 h4 (base_ok h1) h2
    · cases h
  · split at h
    · simp only [Bool.and_eq_true, Bool.not_eq_true', decide_eq_true_eq] at h
      obtain ⟨⟨⟨rfl, h3⟩, h4⟩, h5⟩ := h
      obtain ⟨g1, g2, p, g3, g4⟩ := isTab_ok K h4
      exact pm_tget1 g4 (pe_glob g1 g3 rfl g2) (S _ _ h5 _ _ _ _ K) h3 (base_ok h1) h2
    · cases h
  · split at h
    · simp only [Bool.and_eq_true, Bool.not_eq_true', decide_eq_true_eq] at h
      obtain ⟨⟨⟨⟨⟨rfl, h3⟩, h3'⟩, h4⟩, h5⟩, h6⟩ := h
      obtain ⟨g1, g2, p, g3, g4⟩ := isTab_ok K h4
      exact pm_tget2 g4 (pe_glob g1 g3 rfl g2) (S _ _ h5 _ _ _ _ K) (S _ _ h6 _ _ _ _ K) h3 h3' (base_ok h1) h2
    · cases h
  · rw [Bool.and_eq_true] at h
    obtain ⟨h3, h⟩ := h
    split at h3
    · rename_i x p
      simp only [Bool.and_eq_true, decide_eq_true_eq] at h3
      obtain ⟨⟨h4, h5⟩, h6⟩ := h3
      obtain ⟨d1, d2, d3⟩ := dbg_ok h6
      have hx : PE X (.Name x p) (tVar _) := pe_var (by rw [K.N]; exact h4) (vis_ok K h5) d1 d2
      have few : ∀ {y : Expr}, star y = false → ((backTo pos (starEach [y] X.env)).all (fun x => !x.1) && (backToKw pos (keywordEach [] X.env)).all (fun x => x.1.isSome)
        && decide (([y] : List Expr).length + ([] : List Keyword).length + (if ([] : List Keyword).isEmpty then 0 else 1) < 30)) = true := fun {y} hy => by
        rw [noStars_all (es := [y]) (by simp [noStars, hy])]
        rfl
      split at h
      · simp only [Bool.and_eq_true, Bool.not_eq_true', decide_eq_true_eq] at h
        obtain ⟨⟨rfl, h7⟩, h8⟩ := h
        exact pm_mu mu_append (fun _ _ => mu_lists) (fun _ _ _ _ => mu_res) PySem.F.slot_list_append PySem.F.type_list_append mt_append hx (S _ _ h8 _ _ _ _ K) (base_ok h1) (few h7) h2 (star_cons h7) rfl
      · simp only [Bool.and_eq_true, Bool.not_eq_true', decide_eq_true_eq] at h
        obtain ⟨⟨rfl, h7⟩, h8⟩ := h
        exact pm_mu mu_extend (fun _ _ => mu_lists) (fun _ _ _ _ => mu_res) PySem.F.slot_list_extend PySem.F.type_list_extend mt_extendR hx (S _ _ h8 _ _ _ _ K) (base_ok h1) (few h7) h2 (star_cons h7) rfl
      · simp only [Bool.and_eq_true, decide_eq_true_eq, List.isEmpty_iff] at h
        obtain ⟨rfl, rfl⟩ := h
        exact pm_mu0 mu_pop (fun _ _ => mu_lists) (fun _ _ _ _ => mu_res) PySem.F.slot_list_pop PySem.F.type_list_pop mt_pop hx (base_ok h1) h2
      · simp only [Bool.and_eq_true, decide_eq_true_eq, List.isEmpty_iff] at h
        obtain ⟨rfl, rfl⟩ := h
        exact pm_mu0 mu_clear (fun _ _ => mu_lists) (fun _ _ _ _ => mu_res) PySem.F.slot_list_clear PySem.F.type_list_clear mt_clear hx (base_ok h1) h2
      · cases h
    · cases h3
  · cases h
end
end PM
end

section
set_option Elab.async false
set_option linter.all false
set_option maxRecDepth 100000
set_option maxHeartbeats 4000000
/-! PMChk4: blocks, what is walked, targets; the checker of expressions as a whole. -/
namespace PM
open PySem PySem.Spec PyProof.Rows L2
/-- a local name that is stored -/
def isLoc (C : CC) (x : Str) : Bool := decide (C.sc.names.lookup x = some .local) || (decide (C.sc.names.lookup x = some .cell) && decide (C.own.names.lookup x = some .cell))
def ckTgt (rec : Rec) (C : CC) (e : Expr) (t : Tgt) : Bool := match e, t with
  | .Name x _, .nm i => decide (C.N[i]? = some x) && isLoc C x
  | .Tuple es _ _, .tup ts => noStars es && decide (es.length = ts.length) && rec C (.Gs es ts)
  | _, _ => false
def ckTgts (rec : Rec) (C : CC) (es : List Expr) (ts : List Tgt) : Bool := match es, ts with
  | [], [] => true
  | e :: es, t :: ts => !star e && rec C (.G e t) && rec C (.Gs es ts)
  | _, _ => false
def isTup : Expr → Bool
  | .Tuple .. => true
  | _ => false
def ckIter (rec : Rec) (C : CC) (tg e : Expr) (m : MI) : Bool := match m with
  | .seq a => rec C (.E e a)
  | .rng1 a => match e with
    | .Call (.Name f _) [x] [] _ => decide (f = ("range" : Str)) && isNo C f && !star x && rec C (.A [x] [a])
    | _ => false
  | .rng2 a b => match e with
    | .Call (.Name f _) [x, y] [] _ => decide (f = ("range" : Str)) && isNo C f && !star x && !star y && rec C (.A [x, y] [a, b])
    | _ => false
  | .enum a => isTup tg && match e with
    | .Call (.Name f _) [x] [] _ => decide (f = ("enumerate" : Str)) && isNo C f && !star x && rec C (.A [x] [a])
    | _ => false
  | .zip a b => isTup tg && match e with
    | .Call (.Name f _) [x, y] [] _ => decide (f = ("zip" : Str)) && isNo C f && !star x && !star y && rec C (.A [x, y] [a, b])
    | _ => false
def owOf (N : List Str) (is : List Nat) : List (Str × Nat) := is.map fun i => ((N[i]?).getD Str.empty, i)
theorem owOf_snd (N : List Str) (is : List Nat) : (owOf N is).map (·.2) = is := by
  unfold owOf
  rw [List.map_map]
  show is.map (fun i => i) = is
  exact List.map_id' is
def ckLc (rec : Rec) (C : CC) (elt : Expr) (gens : List Comprehension) (scope : Scope) (m : ME) : Bool := match gens, m with
  | [⟨tg, iter, ifs, 0⟩], .lc el t it cs is => (tix t).all (fun j => decide (j ∈ is)) && !isSet iter && rec C (.I tg iter it) && blkC C.N C.sc scope (owOf C.N is) && rec (C.blk scope) (.G tg t) && rec (C.blk scope) (.Ts ifs cs) && rec (C.blk scope) (.E elt el)
  | _, _ => false
section
variable {C : CC} {ca : Str → Option Addr} {Wx : Wish} {c : Ctx} {X : Cx}
theorem blk_kind {N : List Str} {sc scope : Scope} {ow : List (Str × Nat)} (h : blkC N sc scope ow = true) : scope.kind = .function := (blkOk_by h).kind
theorem CxOk.blk (K : CxOk C ca Wx c X) {scope : Scope} (hk : scope.kind = .function) (s : Shared) (H : Hp) (D : Addr) (cl : List (Str × Addr)) (fp : List Addr) : CxOk (C.blk scope) ca WxF c (X.blk s H scope (compEnvC scope cl D X.env) fp) where
  N := K.N
  nd := K.nd
  sc := by
    show relS scope X.env.scope = relS scope C.sc
    rw [K.sc]
  fn := fun x h => by
    show (scope.names.lookup x == some .cell) = true
    rw [show scope.names.lookup x = some .cell from h]
    rfl
  kind := hk
  calm := K.calm
  un := K.un
  tk := fun u s' x => by
    obtain ⟨_, _, _, _, _, _, _, _, _, _, _, _, _, _, _, _, w⟩ := x
    exact w.elim
  G := fun x k h => by
    have q := K.G x k h
    cases k <;> exact q
  gd := K.gd
  cls := K.cls
theorem loc_ok (K : CxOk C ca Wx c X) {x : Str} (h : isLoc C x = true) : L2.Loc X.env.scope x ∧ (X.fn x = true ∨ X.env.scope.names.lookup x = some .local) := by
  unfold isLoc at h
  rw [Bool.or_eq_true, Bool.and_eq_true, decide_eq_true_eq, decide_eq_true_eq, decide_eq_true_eq] at h
  unfold L2.Loc
  rw [K.sc]
  rcases h with h | ⟨h, g⟩
  · exact ⟨.inl h, .inr h⟩
  · exact ⟨.inr h, .inl (K.fn x g)⟩
end
section
variable {rec : Rec} (S : Sound rec) {C : CC} {ca : Str → Option Addr} {Wx : Wish} {c : Ctx} {X : Cx} (K : CxOk C ca Wx c X)
include S K
theorem ckTgt_ok {e : Expr} {t : Tgt} (h : ckTgt rec C e t = true) : PG X e (tG X.K ca c t) := by
  unfold ckTgt at h
  split at h
  · rw [Bool.and_eq_true, decide_eq_true_eq] at h
    obtain ⟨l, f⟩ := loc_ok K h.2
    exact g_nm (by rw [K.N]; exact K.nd) (by rw [K.N]; exact h.1) l f
  · simp only [Bool.and_eq_true, decide_eq_true_eq] at h
    obtain ⟨⟨h1, h2⟩, h3⟩ := h
    obtain ⟨l, f⟩ := noStars_len (env := X.env) h1
    exact g_tup K.calm (S _ _ h3 _ _ _ _ K) (by rw [l, h2]) f
  · cases h
theorem ckTgts_ok {es : List Expr} {ts : List Tgt} (h : ckTgts rec C es ts = true) : PGs X es (tGs X.K ca c ts) := by
  unfold ckTgts at h
  split at h
  · exact gs_nil
  · simp only [Bool.and_eq_true, Bool.not_eq_true'] at h
    obtain ⟨⟨h1, h2⟩, h3⟩ := h
    exact gs_cons (S _ _ h2 _ _ _ _ K) (S _ _ h3 _ _ _ _ K) (star_asg h1)
  · cases h
theorem ckIter_ok {tg e : Expr} {m : MI} (h : ckIter rec C tg e m = true) : PI X tg e (tW X.K ca Wx c m) := by
  unfold ckIter at h
  split at h
  · exact w_seq (S _ _ h _ _ _ _ K)
  · split at h
    · simp only [Bool.and_eq_true, Bool.not_eq_true', decide_eq_true_eq] at h
      obtain ⟨⟨⟨rfl, h1⟩, h2⟩, h3⟩ := h
      obtain ⟨g1, g2, _⟩ := isNo_ok K h1
      exact w_rng1 g1 g2 (S _ _ h3 _ _ _ _ K) (star_cons h2)
    · cases h
  · split at h
    · simp only [Bool.and_eq_true, Bool.not_eq_true', decide_eq_true_eq] at h
      obtain ⟨⟨⟨⟨rfl, h1⟩, h2⟩, h3⟩, h4⟩ := h
      obtain ⟨g1, g2, _⟩ := isNo_ok K h1
      exact w_rng2 g1 g2 (S _ _ h4 _ _ _ _ K) (by rw [star_cons h2, star_cons h3]; rfl) (star_cons h3)
    · cases h
  · rw [Bool.and_eq_true] at h
    obtain ⟨ht, h⟩ := h
    split at h
    · simp only [Bool.and_eq_true, Bool.not_eq_true', decide_eq_true_eq] at h
      obtain ⟨⟨⟨rfl, h1⟩, h2⟩, h3⟩ := h
      obtain ⟨g1, g2, _⟩ := isNo_ok K h1
      cases tg <;> first | exact w_enum g1 g2 (S _ _ h3 _ _ _ _ K) (star_cons h2) | cases ht
    · cases h
  · rw [Bool.and_eq_true] at h
    obtain ⟨ht, h⟩ := h
    split at h
    · simp only [Bool.and_eq_true, Bool.not_eq_true', decide_eq_true_eq] at h
      obtain ⟨⟨⟨⟨rfl, h1⟩, h2⟩, h3⟩, h4⟩ := h
      obtain ⟨g1, g2, _⟩ := isNo_ok K h1
      cases tg <;> first | exact w_zip g1 g2 (S _ _ h4 _ _ _ _ K) (star_cons h2) (noStars_any (by simp [noStars, h3])) | cases ht
    · cases h
theorem ckLc_ok {elt : Expr} {gens : List Comprehension} {scope : Scope} {m : ME} {pos : Pos} (h : ckLc rec C elt gens scope m = true) : PE X (.ListComp elt gens scope pos) (tI X.K ca Wx c m) := by
  unfold ckLc at h
  split at h
  · simp only [Bool.and_eq_true, Bool.not_eq_true', List.all_eq_true, decide_eq_true_eq] at h
    obtain ⟨⟨⟨⟨⟨⟨h1, h2⟩, h3⟩, h4⟩, h5⟩, h6⟩, h7⟩ := h
    rename_i tg iter ifs _ el t it cs is
    have ok := blkOk_by h4
    have e := owOf_snd C.N is
    have := e_lc (ow := owOf C.N is) (it := it) (t := t) (cs := cs) (el := el) (pos := pos) (Wx := Wx) (by rw [e]; exact h1) K.calm (by rw [K.N]; exact K.nd) (S _ _ h3 _ _ _ _ K) (by rw [K.N, K.sc]; exact ok)
      (fun s H D cl fp => S _ _ h5 _ _ _ _ (K.blk ok.kind s H D cl fp)) (fun s H D cl fp => S _ _ h6 _ _ _ _ (K.blk ok.kind s H D cl fp)) (fun s H D cl fp => S _ _ h7 _ _ _ _ (K.blk ok.kind s H D cl fp)) (fold_ok h2)
    rw [e] at this
    exact this
  · cases h
/-- name = [..] -/
theorem ckLc_set {elt : Expr} {gens : List Comprehension} {scope : Scope} {m : ME} {pos py spos : Pos} {y : Str} {i : Nat} (h : ckLc rec C elt gens scope m = true) (hi : C.N[i]? = some y) (hy : C.sc.names.lookup y = some .local) (hl : (py.line == pos.line) = true)
    (ha : (scope.names.any fun (n, k) => n == y && (k == .local || k == .cell)) = false) : PS X (.Assign [.Name y py] (.ListComp elt gens scope pos) spos) (tM X.K ca Wx c (.set (.nm i) m)) := by
  unfold ckLc at h
  split at h
  · simp only [Bool.and_eq_true, Bool.not_eq_true', List.all_eq_true, decide_eq_true_eq] at h
    obtain ⟨⟨⟨⟨⟨⟨h1, h2⟩, h3⟩, h4⟩, h5⟩, h6⟩, h7⟩ := h
    rename_i tg iter ifs _ el t it cs is
    have ok := blkOk_by h4
    have e := owOf_snd C.N is
    have hy' : X.env.scope.names.lookup y = some .local := by rw [K.sc]; exact hy
    have := s_setLc (ow := owOf C.N is) (it := it) (t := t) (cs := cs) (el := el) (pos := pos) (spos := spos) (py := py) (Wx := Wx) (by rw [e]; exact h1) K.calm (by rw [K.N]; exact K.nd) (by rw [K.N]; exact hi) hy'
      (sw_true (by rw [K.sc]; exact K.kind) hy' hl ha) (S _ _ h3 _ _ _ _ K) (by rw [K.N, K.sc]; exact ok)
      (fun s H D cl fp => S _ _ h5 _ _ _ _ (K.blk ok.kind s H D cl fp)) (fun s H D cl fp => S _ _ h6 _ _ _ _ (K.blk ok.kind s H D cl fp)) (fun s H D cl fp => S _ _ h7 _ _ _ _ (K.blk ok.kind s H D cl fp)) (fold_ok h2)
    rw [e] at this
    exact this
  · cases h
end
/-! ### the whole -/
def ckE (rec : Rec) (C : CC) (e : Expr) (m : ME) : Bool := match e with
  | .Constant k _ _ => match m with
    | .c d => ckConst k d
    | _ => false
  | .Name x _ => ckName C x m
  | .BinOp x op y _ => match m with
    | .bin op' a b => decide (op = op') && okBin op && rec C (.E x a) && rec C (.E y b)
    | _ => false
  | .UnaryOp .USub x _ => match m with
    | .neg a => rec C (.E x a)
    | _ => false
  | .UnaryOp .Not x _ => match m with
    | .not a => rec C (.E x a)
    | _ => false
  | .BoolOp op [x] _ => rec C (.E x m)
  | .BoolOp .And (x :: y :: r) p => match m with
    | .and a b => rec C (.E x a) && rec C (.E (.BoolOp .And (y :: r) p) b)
    | _ => false
  | .BoolOp .Or (x :: y :: r) p => match m with
    | .or a b => rec C (.E x a) && rec C (.E (.BoolOp .Or (y :: r) p) b)
    | _ => false
  | .IfExp t x y _ => match m with
    | .ite d a b => rec C (.T t d) && rec C (.E x a) && rec C (.E y b)
    | _ => false
  | .Compare x ops ys _ => ckCmp rec C x ops ys m
  | .Tuple xs _ _ => match m with
    | .tup es => rec C (.A xs es)
    | _ => false
  | .List xs _ => match m with
    | .lst es => rec C (.A xs es)
    | _ => false
  | .Dict ks vs _ => match m with
    | .dic es => (ks.isEmpty && vs.isEmpty && es.isEmpty) || (!ks.isEmpty && ks.all (·.isSome) && decide (ks.length = vs.length) && decide (ks.length ≤ 15) && match twoM es with
      | some kvs => rec C (.P ks vs kvs)
      | none => false)
    | _ => false
  | .Subscript x (.Slice lo hi none _) _ => match m with
    | .sli a l h => rec C (.E x a) && rec C (.O lo l) && rec C (.O hi h)
    | _ => false
  | .Subscript x (.Slice lo hi (some st) _) _ => match m with
    | .slis a l h k => rec C (.E x a) && rec C (.O lo l) && rec C (.O hi h) && rec C (.O (some st) k)
    | _ => false
  | .Subscript x i _ => match m with
    | .idx a k => !isSlice i && rec C (.E x a) && rec C (.E i k)
    | .tab .idx kvs [k] => !isSlice i && (match x with
      | .Name y _ => isTab C y kvs
      | _ => false) && rec C (.E i k)
    | _ => false
  | .Call (.Name f _) args [] _ => ckCall rec C f args m
  | .Call (.Attribute o nm apos) args [] pos => ckMeth rec C o nm apos args pos m
  | .ListComp elt gens scope _ => ckLc rec C elt gens scope m
  | _ => false
where twoM : List ME → Option (List (ME × ME))
  | [] => some []
  | [_] => none
  | k :: v :: r => (twoM r).map ((k, v) :: ·)
theorem twoM_ok : ∀ {es : List ME} {kvs : List (ME × ME)}, ckE.twoM es = some kvs → es = flatM kvs
  | [], kvs, h => by cases h; rfl
  | [_], kvs, h => by cases h
  | k :: v :: r, kvs, h => by
    obtain ⟨q, hq, rfl⟩ := Option.map_eq_some_iff.mp (show (ckE.twoM r).map ((k, v) :: ·) = some kvs from h)
    rw [twoM_ok hq]
    rfl
section
variable {rec : Rec} (S : Sound rec) {C : CC} {ca : Str → Option Addr} {Wx : Wish} {c : Ctx} {X : Cx} (K : CxOk C ca Wx c X)
include S K
theorem ckE_ok {e : Expr} {m : ME} (h : ckE rec C e m = true) : PE X e (tI X.K ca Wx c m) := by
  unfold ckE at h
  split at h
  · split at h
    · exact ckConst_ok h
    · cases h
  · exact ckName_ok K h
  · split at h
    · simp only [Bool.and_eq_true, decide_eq_true_eq] at h
      obtain ⟨⟨⟨rfl, h1⟩, h2⟩, h3⟩ := h
      exact pm_bin h1 (S _ _ h2 _ _ _ _ K) (S _ _ h3 _ _ _ _ K)
    · cases h
  · split at h
    · exact pm_neg (S _ _ h _ _ _ _ K)
    · cases h
  · split at h
    · exact pm_not (S _ _ h _ _ _ _ K)
    · cases h
  · exact pe_one (S _ _ h _ _ _ _ K)
  · split at h
    · rw [Bool.and_eq_true] at h
      exact pm_and (S _ _ h.1 _ _ _ _ K) (S _ _ h.2 _ _ _ _ K)
    · cases h
  · split at h
    · rw [Bool.and_eq_true] at h
      exact pm_or (S _ _ h.1 _ _ _ _ K) (S _ _ h.2 _ _ _ _ K)
    · cases h
  · split at h
    · simp only [Bool.and_eq_true] at h
      exact pm_ite (S _ _ h.1.1 _ _ _ _ K) (S _ _ h.1.2 _ _ _ _ K) (S _ _ h.2 _ _ _ _ K)
    · cases h
  · exact (ckCmp_ok S K h).1
  · split at h
    · exact pm_tup (S _ _ h _ _ _ _ K)
    · cases h
  · split at h
    · exact pm_lst (S _ _ h _ _ _ _ K)
    · cases h
  · split at h
    · rw [Bool.or_eq_true] at h
      rcases h with h | h
      · simp only [Bool.and_eq_true, List.isEmpty_iff] at h
        obtain ⟨⟨rfl, rfl⟩, rfl⟩ := h
        exact pm_dic0
      · simp only [Bool.and_eq_true, Bool.not_eq_true', decide_eq_true_eq] at h
        obtain ⟨⟨⟨⟨h1, h2⟩, h3⟩, h4⟩, h5⟩ := h
        split at h5
        · rename_i hk
          rw [twoM_ok hk]
          exact pm_dic (S _ _ h5 _ _ _ _ K _) h2 h3 (fun z => by rw [z] at h1; cases h1) h4
        · cases h5
    · cases h
  · split at h
    · simp only [Bool.and_eq_true] at h
      exact pm_sli (S _ _ h.1.1 _ _ _ _ K) (S _ _ h.1.2 _ _ _ _ K) (S _ _ h.2 _ _ _ _ K)
    · cases h
  · split at h
    · simp only [Bool.and_eq_true] at h
      exact pm_slis (S _ _ h.1.1.1 _ _ _ _ K) (S _ _ h.1.1.2 _ _ _ _ K) (S _ _ h.1.2 _ _ _ _ K) (S _ _ h.2 _ _ _ _ K)
    · cases h
  · split at h
    · simp only [Bool.and_eq_true, Bool.not_eq_true'] at h
      exact pm_idx K.un (S _ _ h.1.2 _ _ _ _ K) (S _ _ h.2 _ _ _ _ K) (plain_ok h.1.1)
    · simp only [Bool.and_eq_true, Bool.not_eq_true'] at h
      obtain ⟨⟨h1, h2⟩, h3⟩ := h
      split at h2
      · obtain ⟨g1, g2, p, g3, g4⟩ := isTab_ok K h2
        exact pm_tidx g4 (pe_glob g1 g3 rfl g2) (S _ _ h3 _ _ _ _ K) (plain_ok h1)
      · cases h2
    · cases h
  · exact ckCall_ok S K h
  · exact ckMeth_ok S K h
  · exact ckLc_ok S K h
  · cases h
end
end PM
end

section
set_option Elab.async false
set_option linter.all false
set_option maxRecDepth 100000
set_option maxHeartbeats 4000000
/-! PMChk5: tests; the checker of expressions, closed; the checker of statements. -/
namespace PM
open PySem PySem.Spec PyProof.Rows L2
def plainT : Expr → Bool
  | .UnaryOp .Not _ _ => false
  | .BoolOp .. => false
  | .IfExp .. => false
  | .Compare .. => false
  | _ => true
theorem plainT_ok {e : Expr} {env : PySem.Env} (h : plainT e = true) : ∀ whole, isTrue e env whole = (do let v ← whole; standAt e.pos; holding [v] (truthy v)) := fun whole => by
  cases e with
  | UnaryOp op x p => cases op <;> first | rfl | cases h
  | _ => first | rfl | cases h
def ckT (rec : Rec) (C : CC) (e : Expr) (m : ME) : Bool := match e with
  | .UnaryOp .Not x _ => match m with
    | .not a => rec C (.T x a)
    | _ => false
  | .BoolOp .. => rec C (.W e m)
  | .Compare x ops ys _ => ckCmp rec C x ops ys m
  | e => plainT e && rec C (.E e m)
def ckW (rec : Rec) (C : CC) (e : Expr) (m : ME) : Bool := match e with
  | .BoolOp _ [x] _ => rec C (.T x m)
  | .BoolOp .And (x :: y :: r) p => match m with
    | .and a b => rec C (.T x a) && rec C (.W (.BoolOp .And (y :: r) p) b)
    | _ => false
  | .BoolOp .Or (x :: y :: r) p => match m with
    | .or a b => rec C (.T x a) && rec C (.W (.BoolOp .Or (y :: r) p) b)
    | _ => false
  | _ => false
def ckTask (rec : Rec) (C : CC) (t : Task) : Bool := match t with
  | .E e m => ckE rec C e m
  | .A es ms => match es, ms with
    | [], [] => true
    | e :: es, m :: ms => !star e && rec C (.E e m) && rec C (.A es ms)
    | _, _ => false
  | .O e m => match e, m with
    | none, none => true
    | some e, some m => rec C (.E e m)
    | _, _ => false
  | .T e m => ckT rec C e m
  | .W e m => ckW rec C e m
  | .I tg it m => ckIter rec C tg it m
  | .G tg t => ckTgt rec C tg t
  | .Gs tg t => ckTgts rec C tg t
  | .Ts es ms => match es, ms with
    | [], [] => true
    | [e], [m] => rec C (.T e m)
    | _, _ => false
  | .P ks vs kvs => match ks, vs, kvs with
    | [], [], [] => true
    | some k :: ks, v :: vs, (a, b) :: kvs => rec C (.E k a) && rec C (.E v b) && rec C (.P ks vs kvs)
    | _, _, _ => false
def ck : Nat → CC → Task → Bool
  | 0, _, _ => false
  | n + 1, C, t => ckTask (ck n) C t
section
variable {rec : Rec} (S : Sound rec) {C : CC} {ca : Str → Option Addr} {Wx : Wish} {c : Ctx} {X : Cx} (K : CxOk C ca Wx c X)
include S K
theorem ckT_ok {e : Expr} {m : ME} (h : ckT rec C e m = true) : PT X e (tIt X.K ca Wx c m) := by
  unfold ckT at h
  split at h
  · split at h
    · exact pt_notT (S _ _ h _ _ _ _ K)
    · cases h
  · exact (show PW X _ _ from S _ _ h _ _ _ _ K).pt
  · exact (ckCmp_ok S K h).2
  · rw [Bool.and_eq_true] at h
    exact pt_any (S _ _ h.2 _ _ _ _ K) (plainT_ok h.1)
theorem ckW_ok {e : Expr} {m : ME} (h : ckW rec C e m = true) : PW X e (tIt X.K ca Wx c m) := by
  unfold ckW at h
  split at h
  · rename_i op x p
    cases op with
    | And => exact pw_and1 (S _ _ h _ _ _ _ K)
    | Or => exact pw_or1 (S _ _ h _ _ _ _ K)
  · split at h
    · rw [Bool.and_eq_true] at h
      exact pt_and (S _ _ h.1 _ _ _ _ K) (S _ _ h.2 _ _ _ _ K)
    · cases h
  · split at h
    · rw [Bool.and_eq_true] at h
      exact pt_or (S _ _ h.1 _ _ _ _ K) (S _ _ h.2 _ _ _ _ K)
    · cases h
  · cases h
end
theorem ck_sound : ∀ n, Sound (ck n)
  | 0, _, _, h => by cases h
  | n + 1, C, t, h => fun ca Wx c X K => by
    have S := ck_sound n
    have h : ckTask (ck n) C t = true := h
    cases t with
    | E e m => exact ckE_ok S K h
    | A es ms =>
      unfold ckTask at h
      dsimp only at h
      split at h
      · exact pm_nil
      · simp only [Bool.and_eq_true, Bool.not_eq_true'] at h
        exact pm_cons (S _ _ h.1.2 _ _ _ _ K) (S _ _ h.2 _ _ _ _ K) (star_cons h.1.1)
      · cases h
    | O e m =>
      unfold ckTask at h
      dsimp only at h
      split at h
      · exact pm_onone
      · exact pm_osome (S _ _ h _ _ _ _ K)
      · cases h
    | T e m => exact ckT_ok S K h
    | W e m => exact ckW_ok S K h
    | I tg it m => exact ckIter_ok S K h
    | G tg t => exact ckTgt_ok S K h
    | Gs tg t => exact ckTgts_ok S K h
    | Ts es ms =>
      unfold ckTask at h
      dsimp only at h
      split at h
      · exact c_nil
      · exact c_one (S _ _ h _ _ _ _ K)
      · cases h
    | P ks vs kvs =>
      unfold ckTask at h
      dsimp only at h
      split at h
      · exact fun pos => pps_nil
      · simp only [Bool.and_eq_true] at h
        exact fun pos => pps_cons (S _ _ h.1.1 _ _ _ _ K) (S _ _ h.1.2 _ _ _ _ K) (S _ _ h.2 _ _ _ _ K pos)
      · cases h
/-! ### statements -/
def noComp : Expr → Bool
  | .ListComp .. => false
  | .SetComp .. => false
  | .DictComp .. => false
  | _ => true
theorem noComp_ok {e : Expr} {t : Option Expr} {l : Nat} {env : PySem.Env} (h : noComp e = true) : swapsWith e t l env = pure false := by
  cases e <;> first | rfl | cases h
theorem noComp_sole {e t : Expr} {l : Nat} {env : PySem.Env} (h : noComp e = true) : swapsWithSole [t] e l env = pure false := noComp_ok h
theorem swap_name {x : Str} {p : Pos} {e : Expr} {env : PySem.Env} : swappedStores [.Name x p] e env = pure none := by cases e <;> rfl
theorem swap_sub {x y : Expr} {p : Pos} {e : Expr} {env : PySem.Env} : swappedStores [.Subscript x y p] e env = pure none := by cases e <;> rfl
theorem swap_tup {ts : List Expr} {k : Nat} {p : Pos} {e : Expr} {env : PySem.Env} (h : isTup e = false) : swappedStores [.Tuple ts k p] e env = pure none := by cases e <;> first | rfl | cases h
theorem swap_fold {ts vs : List Expr} {k k2 : Nat} {p p2 : Pos} {env : PySem.Env} (h : vs.all (foldedForSure 8) = true) : swappedStores [.Tuple ts k p] (.Tuple vs k2 p2) env = pure none := by
  unfold swappedStores
  dsimp only
  split
  · rfl
  · split
    · rfl
    · split
      · rfl
      · first | rfl | (rw [if_pos h])
theorem sw_off {elt : Expr} {gs : List Comprehension} {scope : Scope} {pos py : Pos} {y : Str} {l : Nat} {env : PySem.Env} (h : (py.line == pos.line) = false ∨ (scope.names.any fun (n, k) => n == y && (k == .local || k == .cell)) = true ∨ env.scope.names.lookup y ≠ some .local) :
    swapsWith (.ListComp elt gs scope pos) (some (.Name y py)) l env = pure false := by
  unfold swapsWith
  simp only [Expr.pos]
  rcases h with h | h | h
  · simp [h]
  · simp only [h, Bool.not_true, Bool.and_false]
  · have : (env.kindOf y == some NameKind.local) = false := by
      rw [beq_eq_false_iff_ne]
      exact h
    simp [this]
end PM
namespace PM
open PySem PySem.Spec PyProof.Rows L2
/-- the names of a row of targets told on one line -/
def parNames (C : CC) (ts : List Expr) : List Str := ts.filterMap fun
    | .Name id pos => if decide (C.sc.names.lookup id = some .local) && pos.line == ((ts.head?.map (·.pos.line)).getD 0) then some id else none
    | _ => none
def parOk (C : CC) (ts vs : List Expr) (ns : List Str) : Bool := (ts.length == 2 || ts.length == 3) && vs.length == ts.length && !(vs.any fun | .Starred .. => true | _ => false) && decide (parNames C ts = ns) && ns.length == ts.length && ns.eraseDups.length == ns.length &&
  !vs.all (foldedForSure 8) && !vs.all (constantsAlone 8)
theorem par_ok {C : CC} {env : PySem.Env} {ts vs : List Expr} {ns : List Str} {k k2 : Nat} {p p2 : Pos} (hs : env.scope = C.sc) (hk : C.sc.kind = .function) (h : parOk C ts vs ns = true) : swappedStores [.Tuple ts k p] (.Tuple vs k2 p2) env = pure (some ns) := by
  unfold parOk at h
  simp only [Bool.and_eq_true, Bool.not_eq_true', decide_eq_true_eq] at h
  obtain ⟨⟨⟨⟨⟨⟨⟨h1, h2⟩, h3⟩, h4⟩, h5⟩, h6⟩, h7⟩, h8⟩ := h
  have hn : (ts.filterMap fun
    | .Name id pos => if env.kindOf id == some .local && pos.line == ((ts.head?.map (·.pos.line)).getD 0) then some id else none
    | _ => none) = ns := by
    rw [← h4]
    unfold parNames Env.kindOf
    rw [hs]
    congr 1
    funext e
    cases e <;> first | rfl | skip
    rename_i id pos
    dsimp only
    have : (C.sc.names.lookup id == some NameKind.local) = decide (C.sc.names.lookup id = some NameKind.local) := by
      by_cases q : C.sc.names.lookup id = some NameKind.local
      · simp [q]
      · simp [q]
    rw [this]
  have hb : env.blockKind = .function := by unfold Env.blockKind; rw [hs, hk]; rfl
  unfold swappedStores
  dsimp only
  generalize hX : List.filterMap (_ : Expr → Option Str) ts = L
  have hL : L = ns := hX.symm.trans hn
  rw [hL, hb]
  have e1 : (!(ts.length == 2 || ts.length == 3) || vs.length != ts.length || (ScopeKind.function != ScopeKind.function)) = false := by
    rw [h1, bne, h2]
    rfl
  have e2 : (ns.length != ts.length || ns.eraseDups.length != ns.length) = false := by
    rw [bne, h5, bne, h6]
    rfl
  generalize hY : List.any vs (_ : Expr → Bool) = M
  have hM : M = false := hY.symm.trans h3
  rw [e1, e2, hM, h7, h8]
  rfl
theorem par_no {C : CC} {env : PySem.Env} {ts vs : List Expr} {k k2 : Nat} {p p2 : Pos} (hs : env.scope = C.sc) (h : (parNames C ts).length ≠ ts.length) : swappedStores [.Tuple ts k p] (.Tuple vs k2 p2) env = pure none := by
  have hn : (ts.filterMap fun
    | .Name id pos => if env.kindOf id == some .local && pos.line == ((ts.head?.map (·.pos.line)).getD 0) then some id else none
    | _ => none) = parNames C ts := by
    unfold parNames Env.kindOf
    rw [hs]
    congr 1
    funext e
    cases e <;> first | rfl | skip
    rename_i id pos
    dsimp only
    have : (C.sc.names.lookup id == some NameKind.local) = decide (C.sc.names.lookup id = some NameKind.local) := by
      by_cases q : C.sc.names.lookup id = some NameKind.local
      · simp [q]
      · simp [q]
    rw [this]
  unfold swappedStores
  dsimp only
  generalize hX : List.filterMap (_ : Expr → Option Str) ts = L
  have hL : L = parNames C ts := hX.symm.trans hn
  rw [hL]
  have e2 : ((parNames C ts).length != ts.length || (parNames C ts).eraseDups.length != (parNames C ts).length) = true := by
    rw [Bool.or_eq_true]
    exact .inl (by simpa using h)
  rw [e2]
  split
  · rfl
  · split
    · rfl
    · rfl
inductive Task2 where
  | S (st : Stmt) (m : MS)
  | Ss (sts : List Stmt) (ms : List MS)
def nodupN : List Nat → Bool
  | [] => true
  | i :: r => !r.contains i && nodupN r
def nmsOk (C : CC) : List Str → List Nat → Bool
  | [], [] => true
  | x :: xs, i :: is => decide (C.N[i]? = some x) && decide (C.sc.names.lookup x = some .local) && nmsOk C xs is
  | _, _ => false
theorem nms2 {C : CC} {a b : Str} {is : List Nat} (h : nmsOk C [a, b] is = true) (d : nodupN is = true) : ∃ i j, is = [i, j] ∧ C.N[i]? = some a ∧ C.N[j]? = some b ∧ C.sc.names.lookup a = some .local ∧ C.sc.names.lookup b = some .local ∧ i ≠ j := by
  match is, h with
  | [_], h => simp [nmsOk] at h
  | _ :: _ :: _ :: _, h => simp [nmsOk] at h
  | [i, j], h =>
    simp only [nmsOk, Bool.and_eq_true, decide_eq_true_eq] at h
    refine ⟨i, j, rfl, h.1.1, h.2.1.1, h.1.2, h.2.1.2, ?_⟩
    rintro rfl
    simp [nodupN] at d
theorem nms3 {C : CC} {a b e : Str} {is : List Nat} (h : nmsOk C [a, b, e] is = true) (d : nodupN is = true) : ∃ i j l, is = [i, j, l] ∧ C.N[i]? = some a ∧ C.N[j]? = some b ∧ C.N[l]? = some e ∧ C.sc.names.lookup a = some .local ∧ C.sc.names.lookup b = some .local ∧ C.sc.names.lookup e = some .local ∧ i ≠ j ∧ i ≠ l ∧ j ≠ l := by
  match is, h with
  | [_], h => simp [nmsOk] at h
  | [_, _], h => simp [nmsOk] at h
  | _ :: _ :: _ :: _ :: _, h => simp [nmsOk] at h
  | [i, j, l], h =>
    simp only [nmsOk, Bool.and_eq_true, decide_eq_true_eq] at h
    refine ⟨i, j, l, rfl, h.1.1, h.2.1.1, h.2.2.1.1, h.1.2, h.2.1.2, h.2.2.1.2, ?_, ?_, ?_⟩ <;> (rintro rfl; simp [nodupN] at d)
theorem sub_asg {x z : Expr} {p : Pos} {env : PySem.Env} {v : Value} (h : isSlice z = false) : assign (.Subscript x z p) env v = (do
      let ov ← holding [v] (eval x env)
      let iv ← holding [v, ov] (eval z env)
      standAt p
      holding [v, ov, iv] (setItem ov iv v)
      release [v, ov, iv] []) := by
  cases z <;> first | rfl | cases h
def ckAsg (re : Rec) (C : CC) (y x : Expr) (m : MS) : Bool := match m with
  | .set t a => match y, x, t with
    | .Name ny py, .ListComp elt gens scope lpos, .nm i => if (decide (C.sc.names.lookup ny = some .local) && (py.line == lpos.line) && !(scope.names.any fun (n, k) => n == ny && (k == .local || k == .cell))) = true
        then decide (C.N[i]? = some ny) && ckLc re C elt gens scope a
        else re C (.G y t) && re C (.E x a)
    | .Name _ _, x, t => noComp x && re C (.G y t) && re C (.E x a)
    | .Tuple ts _ _, .Tuple vs _ _, t => (vs.all (foldedForSure 8) || decide ((parNames C ts).length ≠ ts.length)) && re C (.G y t) && re C (.E x a)
    | .Tuple _ _ _, x, t => noComp x && !isTup x && re C (.G y t) && re C (.E x a)
    | _, _, _ => false
  | .setix i k a => match y with
    | .Subscript (.Name n _) z _ => noComp x && !isSlice z && decide (C.N[i]? = some n) && vis C n && dbg n && re C (.E z k) && re C (.E x a)
    | _ => false
  | .par is es => match y, x with
    | .Tuple [.Name n1 p1, .Name n2 p2] _ _, .Tuple [a, b] _ _ => parOk C [.Name n1 p1, .Name n2 p2] [a, b] [n1, n2] && nmsOk C [n1, n2] is && nodupN is && re C (.A [a, b] es)
    | .Tuple [.Name n1 p1, .Name n2 p2, .Name n3 p3] _ _, .Tuple [a, b, d] _ _ => parOk C [.Name n1 p1, .Name n2 p2, .Name n3 p3] [a, b, d] [n1, n2, n3] && nmsOk C [n1, n2, n3] is && nodupN is && re C (.A [a, b, d] es)
    | _, _ => false
  | _ => false
def ckStmt (re : Rec) (rs : CC → Task2 → Bool) (C : CC) (st : Stmt) (m : MS) : Bool := match st with
  | .Pass _ => match m with
    | .pass => true
    | _ => false
  | .Break _ => match m with
    | .brk => true
    | _ => false
  | .Continue _ => match m with
    | .cont => true
    | _ => false
  | .Expr (.Constant (.str _) _ _) _ => match m with
    | .pass => true
    | _ => false
  | .Expr x _ => match m with
    | .expr a => noComp x && re C (.E x a)
    | _ => false
  | .Return (some x) _ => match m with
    | .ret a => re C (.E x a)
    | _ => false
  | .Return none _ => match m with
    | .retN => true
    | _ => false
  | .Assign [y] x _ => ckAsg re C y x m
  | .AugAssign (.Name n _) op x _ => match m with
    | .aug i op' a => decide (op = op') && (decide (op = .Add) || decide (op = .Sub)) && decide (C.N[i]? = some n) && isLoc C n && re C (.E x a)
    | _ => false
  | .If t p q _ => match m with
    | .ite a ps qs => re C (.T t a) && rs C (.Ss p ps) && rs C (.Ss q qs)
    | _ => false
  | .For tg iter body [] _ => match m with
    | .for_ t it ms => !isSet iter && re C (.I tg iter it) && re C (.G tg t) && rs C (.Ss body ms)
    | _ => false
  | .While t body [] _ => match m with
    | .while a ms => re C (.T t a) && rs C (.Ss body ms)
    | _ => false
  | .Raise (some (.Call (.Name n _) args [] _)) none _ => match m with
    | .raise n' es => decide (n = n') && isG C n && dbg n && noStars args && !args.isEmpty && re C (.A args es) && match C.G.lookup n with
      | some (.cls true) => true
      | _ => false
    | _ => false
  | .Try body [.ExceptHandler (some (.Name cl _)) (some n) [.Assign [.Name y _] (.Name n' _) _] _] [] [] _ => match m with
    | .tryset ms cl' i j => decide (cl = cl') && decide (n = n') && isG C cl && dbg cl && dbg n && decide (C.N[i]? = some n) && decide (C.N[j]? = some y) && decide (C.sc.names.lookup n = some .local) && decide (C.sc.names.lookup y = some .local) && rs C (.Ss body ms) && match C.G.lookup cl with
      | some (.cls _) => true
      | _ => false
    | _ => false
  | _ => false
def ck2 (fe : Nat) : Nat → CC → Task2 → Bool
  | 0, _, _ => false
  | n + 1, C, .S st m => ckStmt (ck fe) (ck2 fe n) C st m
  | n + 1, C, .Ss sts ms => match sts, ms with
    | [], [] => true
    | st :: sts, m :: ms => ck2 fe n C (.S st m) && ck2 fe n C (.Ss sts ms)
    | _, _ => false
/-- a def's context -/
structure CxS (X : Cx) : Prop where
  stk : X.stack = X.env :: X.outer
  fr : X.env.frame = some X.env.locals
  po : PassesOwn (model X.prog X.w) X.A X.env X.xe
def Sem2 (ca : Str → Option Addr) (Wx : Wish) (c : Ctx) (X : Cx) : Task2 → Prop
  | .S st m => PS X st (tM X.K ca Wx c m)
  | .Ss sts ms => PSs X sts (tMs X.K ca Wx c ms)
def Sound2 (rs : CC → Task2 → Bool) : Prop := ∀ C t, rs C t = true → ∀ ca Wx c X, CxOk C ca Wx c X → CxS X → Sem2 ca Wx c X t
section
variable {re : Rec} (S : Sound re) {C : CC} {ca : Str → Option Addr} {Wx : Wish} {c : Ctx} {X : Cx} (K : CxOk C ca Wx c X)
include S K
theorem ckAsg_ok {y x : Expr} {m : MS} {pos : Pos} (h : ckAsg re C y x m = true) : PS X (.Assign [y] x pos) (tM X.K ca Wx c m) := by
  unfold ckAsg at h
  split at h
  · split at h
    · rename_i ny py elt gens scope lpos i
      split at h
      · rename_i hc
        simp only [Bool.and_eq_true, Bool.not_eq_true', decide_eq_true_eq] at hc h
        exact ckLc_set S K h.2 h.1 hc.1.1 hc.1.2 hc.2
      · rename_i hc
        rw [Bool.and_eq_true] at h
        refine s_set (S _ _ h.2 _ _ _ _ K) (S _ _ h.1 _ _ _ _ K) (sw_off (l := pos.line) ?_) swap_name rfl
        rw [K.sc]
        cases q1 : (py.line == lpos.line) with
        | false => exact .inl rfl
        | true =>
          cases q2 : (scope.names.any fun (n, k) => n == ny && (k == .local || k == .cell)) with
          | true => exact .inr (.inl rfl)
          | false => exact .inr (.inr fun z => hc (by rw [q1, q2, decide_eq_true z]; rfl))
    · simp only [Bool.and_eq_true] at h
      exact s_set (S _ _ h.2 _ _ _ _ K) (S _ _ h.1.2 _ _ _ _ K) (noComp_sole h.1.1) swap_name rfl
    · simp only [Bool.and_eq_true] at h
      refine s_set (S _ _ h.2 _ _ _ _ K) (S _ _ h.1.2 _ _ _ _ K) rfl ?_ rfl
      rcases (Bool.or_eq_true _ _).mp h.1.1 with q | q
      · exact swap_fold q
      · exact par_no K.sc (of_decide_eq_true q)
    · simp only [Bool.and_eq_true, Bool.not_eq_true'] at h
      exact s_set (S _ _ h.2 _ _ _ _ K) (S _ _ h.1.2 _ _ _ _ K) (noComp_sole h.1.1.1) (swap_tup h.1.1.2) rfl
    · cases h
  · split at h
    · simp only [Bool.and_eq_true, Bool.not_eq_true', decide_eq_true_eq] at h
      obtain ⟨⟨⟨⟨⟨⟨h1, h2⟩, h3⟩, h4⟩, h5⟩, h6⟩, h7⟩ := h
      obtain ⟨d1, d2, d3⟩ := dbg_ok h5
      refine s_setixL (S _ _ h7 _ _ _ _ K) (pe_var (by rw [K.N]; exact h3) (vis_ok K h4) d1 d2) (S _ _ h6 _ _ _ _ K) (noComp_sole h1) swap_sub rfl fun v => sub_asg h2
    · cases h
  · split at h
    · simp only [Bool.and_eq_true] at h
      obtain ⟨⟨⟨h1, h2⟩, h3⟩, h4⟩ := h
      obtain ⟨i, j, rfl, q1, q2, q3, q4, ne⟩ := nms2 h2 h3
      exact s_par2 K.calm (by rw [K.N]; exact K.nd) (by rw [K.N]; exact q1) (by rw [K.N]; exact q2) ne (by rw [K.sc]; exact q3) (by rw [K.sc]; exact q4) (S _ _ h4 _ _ _ _ K) (par_ok K.sc K.kind h1) rfl
    · simp only [Bool.and_eq_true] at h
      obtain ⟨⟨⟨h1, h2⟩, h3⟩, h4⟩ := h
      obtain ⟨i, j, l, rfl, q1, q2, q3, q4, q5, q6, n1, n2, n3⟩ := nms3 h2 h3
      exact s_par3 K.calm (by rw [K.N]; exact K.nd) (by rw [K.N]; exact q1) (by rw [K.N]; exact q2) (by rw [K.N]; exact q3) n1 n2 n3 (by rw [K.sc]; exact q4) (by rw [K.sc]; exact q5) (by rw [K.sc]; exact q6) (S _ _ h4 _ _ _ _ K) (par_ok K.sc K.kind h1) rfl
    · cases h
  · cases h
end
theorem CxOk.tr {C : CC} {ca : Str → Option Addr} {Wx W : Wish} {c : Ctx} {X : Cx} (K : CxOk C ca Wx c X) {pn : List (Addr × Obj)} {xe : Value → Shared → Prop} (tk : L2.Takes (X.tr pn xe) W) : CxOk C ca W c (X.tr pn xe) where
  N := K.N
  nd := K.nd
  sc := K.sc
  fn := K.fn
  kind := K.kind
  calm := K.calm
  un := K.un
  tk := tk
  G := fun x k h => by
    have q := K.G x k h
    cases k <;> exact q
  cls := K.cls
  gd := K.gd
section
variable {re : Rec} (S : Sound re) {rs : CC → Task2 → Bool} (T : Sound2 rs) {C : CC} {ca : Str → Option Addr} {Wx : Wish} {c : Ctx} {X : Cx} (K : CxOk C ca Wx c X) (Y : CxS X)
include S T K Y
theorem ckStmt_ok {st : Stmt} {m : MS} (h : ckStmt re rs C st m = true) : PS X st (tM X.K ca Wx c m) := by
  unfold ckStmt at h
  split at h
  · split at h
    · exact s_pass
    · cases h
  · split at h
    · exact s_brk
    · cases h
  · split at h
    · exact s_cont
    · cases h
  · split at h
    · exact s_doc
    · cases h
  · split at h
    · rw [Bool.and_eq_true] at h
      exact s_expr (S _ _ h.2 _ _ _ _ K) (noComp_ok h.1)
    · cases h
  · split at h
    · exact s_ret (S _ _ h _ _ _ _ K)
    · cases h
  · split at h
    · exact s_retN
    · cases h
  · exact ckAsg_ok S K h
  · split at h
    · simp only [Bool.and_eq_true, Bool.or_eq_true, decide_eq_true_eq] at h
      obtain ⟨⟨⟨⟨rfl, h1⟩, h2⟩, h3⟩, h4⟩ := h
      obtain ⟨l, f⟩ := loc_ok K h3
      exact s_aug h1 (by rw [K.N]; exact K.nd) (by rw [K.N]; exact h2) l f (S _ _ h4 _ _ _ _ K)
    · cases h
  · split at h
    · simp only [Bool.and_eq_true] at h
      exact s_ite (S _ _ h.1.1 _ _ _ _ K) (T _ _ h.1.2 _ _ _ _ K Y) (T _ _ h.2 _ _ _ _ K Y)
    · cases h
  · split at h
    · simp only [Bool.and_eq_true, Bool.not_eq_true'] at h
      exact s_for Y.po K.calm (S _ _ h.1.1.2 _ _ _ _ K) (S _ _ h.1.2 _ _ _ _ K) (T _ _ h.2 _ _ _ _ K Y) (fold_ok h.1.1.1)
    · cases h
  · split at h
    · rw [Bool.and_eq_true] at h
      exact s_while Y.po (S _ _ h.1 _ _ _ _ K) (T _ _ h.2 _ _ _ _ K Y)
    · cases h
  · rename_i args _ _
    split at h
    · simp only [Bool.and_eq_true, Bool.not_eq_true', decide_eq_true_eq] at h
      obtain ⟨⟨⟨⟨⟨⟨rfl, h1⟩, h2⟩, h3⟩, h4⟩, h5⟩, h6⟩ := h
      split at h6
      · rename_i hl
        obtain ⟨A, hA, hm, hE, _⟩ := K.G _ _ hl
        obtain ⟨hE, hf⟩ := hE rfl
        cases args with
        | nil => cases h4
        | cons x xs =>
          obtain ⟨s1, s2⟩ := noStars_cons h3
          exact s_raise hE hA hf K.calm K.tk hm (gl_ok K h1) (dbg_ok h2).1 (S _ _ h5 _ _ _ _ K) (star_cons s1) (noStars_any s2)
      · cases h6
    · cases h
  · split at h
    · simp only [Bool.and_eq_true, decide_eq_true_eq] at h
      obtain ⟨⟨⟨⟨⟨⟨⟨⟨⟨⟨rfl, rfl⟩, h1⟩, h2⟩, h3⟩, h4⟩, h5⟩, h6⟩, h7⟩, h8⟩, h9⟩ := h
      split at h9
      · rename_i hl
        obtain ⟨A, hA, hm, _, hx⟩ := K.G _ _ hl
        obtain ⟨d1, d2, d3⟩ := dbg_ok h3
        exact s_try hx Y.stk Y.fr (by rw [K.N]; exact K.nd) (by rw [K.N]; exact h4) (by rw [K.N]; exact h5) (by show X.env.scope.names.lookup _ = _; rw [K.sc]; exact h6) (by show X.env.scope.names.lookup _ = _; rw [K.sc]; exact h7)
          ⟨gl_ok K h1, (dbg_ok h2).1, .inl hm⟩ K.tk d1 d2 rfl fun W pn xe tk po => T _ _ h8 _ _ _ _ (K.tr tk) ⟨Y.stk, Y.fr, po⟩
      · cases h9
    · cases h
  · cases h
end
theorem ck2_sound (fe : Nat) : ∀ n, Sound2 (ck2 fe n)
  | 0, _, t, h => by cases t <;> cases h
  | n + 1, C, t, h => fun ca Wx c X K Y => by
    have S := ck_sound fe
    have T := ck2_sound fe n
    cases t with
    | S st m => exact ckStmt_ok S T K Y h
    | Ss sts ms =>
      simp only [ck2] at h
      split at h
      · exact ss_nil
      · rw [Bool.and_eq_true] at h
        exact ss_cons (T _ _ h.1 _ _ _ _ K Y) (T _ _ h.2 _ _ _ _ K Y)
      · cases h
end PM
end

section
set_option Elab.async false
set_option linter.all false
set_option maxRecDepth 100000
set_option maxHeartbeats 4000000
/-! PMFn: each def of the program keeps what the machine says of it. -/
namespace PM
open PySem PySem.Spec PyProof.Rows L2
section
variable {K : PySem.W.Frag} {ca : Str → Option Addr} {H H' : Hp} {F F' W W' : Fs}
/-- who owns what, argument by argument -/
theorem VRs.own : ∀ {us : List V} {vs : List Val} {fp : List Addr}, VRs K ca H F us vs fp → fp.Nodup → ∃ own : Nat → List Addr, (∀ j v, vs[j]? = some v → ∃ u, us[j]? = some u ∧ VR K ca H F u v (own j)) ∧ (∀ j, vs.length ≤ j → own j = []) ∧
    (∀ j, (own j).Nodup) ∧ (∀ i j a, a ∈ own i → a ∈ own j → i = j) ∧ ∀ a, (∃ j, a ∈ own j) ↔ a ∈ fp
  | [], vs, fp, h, nd => by
    cases h
    exact ⟨fun _ => [], fun j v h => (by simp at h), fun _ _ => rfl, fun _ => .nil, fun i j a m => (by cases m), fun a => (by simp)⟩
  | u :: us, vs, fp, h, nd => by
    cases h with
    | @cons _ _ v vs f g h r =>
      obtain ⟨n1, n2, n3⟩ := List.nodup_append.mp nd
      obtain ⟨own, q1, q2, q3, q4, q5⟩ := VRs.own r n2
      refine ⟨fun j => match j with
        | 0 => f
        | j + 1 => own j, fun j w hj => ?_, fun j hj => ?_, fun j => ?_, fun i j a m m' => ?_, fun a => ?_⟩
      · cases j with
        | zero => cases hj; exact ⟨u, rfl, h⟩
        | succ j => exact q1 j w (by simpa using hj)
      · cases j with
        | zero => simp at hj
        | succ j => exact q2 j (by simpa using hj)
      · cases j with
        | zero => exact n1
        | succ j => exact q3 j
      · cases i with
        | zero =>
          cases j with
          | zero => rfl
          | succ j => exact absurd rfl (n3 a m a ((q5 a).mp ⟨j, m'⟩))
        | succ i =>
          cases j with
          | zero => exact absurd rfl (n3 a m' a ((q5 a).mp ⟨i, m⟩))
          | succ j => rw [q4 i j a m m']
      · constructor
        · rintro ⟨j, m⟩
          cases j with
          | zero => exact List.mem_append_left _ m
          | succ j => exact List.mem_append_right _ ((q5 a).mp ⟨j, m⟩)
        · intro m
          rcases List.mem_append.mp m with m | m
          · exact ⟨0, m⟩
          · obtain ⟨j, m⟩ := (q5 a).mpr m
            exact ⟨j + 1, m⟩
theorem start_get {N : List Str} {us : List V} {j : Nat} : (L2.start N us)[j]? = if j < us.length then (us[j]?).map some else if j < us.length + (N.length - us.length) then some none else none := by
  unfold L2.start
  by_cases h : j < us.length
  · rw [List.getElem?_append_left (by simpa using h), List.getElem?_map, if_pos h]
  · rw [List.getElem?_append_right (by simpa using h), List.getElem?_replicate, if_neg h, List.length_map]
    by_cases q : j < us.length + (N.length - us.length)
    · rw [if_pos q, if_pos (by omega)]
    · rw [if_neg q, if_neg (by omega)]
/-- the frame at a def's entry -/
theorem Rel.start {N : List Str} {us : List V} {vs : List Val} {fp : List Addr} {m : Nat} (h : VRs K ca H F us vs fp) (nd : fp.Nodup) (nf : ∀ a ∈ fp, ¬ F a) (al : ∀ a, F a → H a ≠ none) (hn : us.length ≤ N.length) (hm : m = N.length - us.length) :
    ∃ own, Rel K ca (L2.start N us) H (vs.map some ++ List.replicate m none) F own ∧ (∀ a, Ow own a ↔ a ∈ fp) ∧ ∀ j, vs.length ≤ j → own j = [] := by
  obtain ⟨own, q1, q2, q3, q4, q5⟩ := h.own nd
  have l := h.len
  have gs : ∀ j, getS (vs.map some ++ List.replicate m none) j = vs[j]? := fun j => by
    unfold getS
    by_cases hj : j < vs.length
    · rw [List.getElem?_append_left (by simpa using hj), List.getElem?_map]
      cases vs[j]? <;> rfl
    · rw [List.getElem?_append_right (by simpa using hj), List.getElem?_replicate, List.getElem?_eq_none (Nat.le_of_not_lt hj)]
      split <;> rfl
  refine ⟨own, ⟨?_, fun j v hj => ?_, fun j hj => ?_, q3, q4, fun j a m => nf a ((q5 a).mp ⟨j, m⟩), al⟩, q5, q2⟩
  · simp [L2.start, hm, l]
  · rw [gs] at hj
    obtain ⟨u, hu, r⟩ := q1 j v hj
    refine ⟨u, ?_, r⟩
    rw [start_get, if_pos (List.getElem?_eq_some_iff.mp hu).1, hu]
    rfl
  · rw [gs] at hj
    exact q2 j (List.getElem?_eq_none_iff.mp hj)
/-- what the lent slots came to -/
theorem parts_ok {σ' : L2.St} {e' : Env} {own' : Nat → List Addr} (R' : Rel K ca σ' H' e' F' own') (E : Ext H F W H' F' W') (w : Wok H F W) : ∀ {as : List Val} {i : Nat} {us : List V} {fp : List Addr} {ps : List Val}, VRs K ca H F us as fp →
    (∀ j a u, as[j]? = some a → us[j]? = some u → owned a = true → σ'[i + j]? = some (some u)) → parts e' i as = some ps →
    ∃ fp', VRs K ca H' F' us ps fp' ∧ fp'.Nodup ∧ ∀ a ∈ fp', ∃ j, i ≤ j ∧ a ∈ own' j
  | [], i, us, fp, ps, h, hσ, hp => by
    cases h
    cases hp
    exact ⟨[], .nil, .nil, fun a m => by cases m⟩
  | a :: as, i, us, fp, ps, h, hσ, hp => by
    cases h with
    | @cons u us _ _ f g h r =>
      have hσ' : ∀ j a u', as[j]? = some a → us[j]? = some u' → owned a = true → σ'[(i + 1) + j]? = some (some u') := fun j a u' h1 h2 h3 => by
        have := hσ (j + 1) a u' (by simpa using h1) (by simpa using h2) h3
        rw [show i + (j + 1) = i + 1 + j by omega] at this
        exact this
      have hp : (if owned a = true then (getS e' i).bind fun v => (parts e' (i + 1) as).map (v :: ·) else (parts e' (i + 1) as).map (a :: ·)) = some ps := hp
      by_cases ho : owned a = true
      · rw [if_pos ho] at hp
        obtain ⟨v, hv, hp⟩ := Option.bind_eq_some_iff.mp hp
        obtain ⟨qs, hq, rfl⟩ := Option.map_eq_some_iff.mp hp
        obtain ⟨fp', r1, n1, s1⟩ := parts_ok R' E w r hσ' hq
        obtain ⟨u', hu', rv⟩ := R'.slot i v hv
        have := hσ 0 a u rfl rfl ho
        rw [Nat.add_zero, hu'] at this
        cases this
        refine ⟨own' i ++ fp', .cons rv r1, List.nodup_append.mpr ⟨R'.nd i, n1, fun x m y m' => ?_⟩, fun x m => ?_⟩
        · rintro rfl
          obtain ⟨j, hj, m'⟩ := s1 x m'
          have := R'.dj i j x m m'
          omega
        · rcases List.mem_append.mp m with m | m
          · exact ⟨i, Nat.le_refl _, m⟩
          · obtain ⟨j, hj, m⟩ := s1 x m
            exact ⟨j, by omega, m⟩
      · rw [if_neg ho] at hp
        obtain ⟨qs, hq, rfl⟩ := Option.map_eq_some_iff.mp hp
        obtain ⟨fp', r1, n1, s1⟩ := parts_ok R' E w r hσ' hq
        have hf := h.free (by simpa using ho)
        subst hf
        refine ⟨[] ++ fp', .cons (h.ext E w fun a m => by cases m) r1, by simpa using n1, fun x m => ?_⟩
        obtain ⟨j, hj, m⟩ := s1 x (by simpa using m)
        exact ⟨j, by omega, m⟩
end
/-- what must be seen of a def: its text, its names, its check -/
structure DefT where
  d : FD
  name : Str
  qual : Str
  params : Arguments
  body : List Stmt
  scope : Scope
  N : List Str
  ps : List Str
def DefT.cc (t : DefT) (G : List (Str × GK)) : CC := ⟨t.N, t.scope, t.scope, G⟩
structure DefOk (t : DefT) (G : List (Str × GK)) (fe fs : Nat) : Prop where
  sc : FnScope t.N t.ps t.scope
  np : t.ps.length = t.d.np
  n : t.N.length = t.d.n
  ck : ck2 fe fs (t.cc G) (.Ss t.body t.d.mb) = true
/-- what the globals say, the program's own defs aside -/
def GOk0 (K : PySem.W.Frag) (w : World) (mg : Str → Option Value) (ca : Str → Option Addr) (sub : Str → Str → Bool) (flds : Str → List Str) (x : Str) : GK → Prop
  | .no => mg x = none
  | .val v d => ∃ u, mg x = some u ∧ RelV v u ∧ Cst K v d
  | .con d => ∃ v u, mg x = some u ∧ RelV v u ∧ Cst K v d
  | .tab kvs => ∃ p, mg x = some (.ref p) ∧ TabK K w p kvs
  | .cls pl => ∃ C, ca x = some C ∧ mg x = some (.ref C) ∧ (pl = true → ExcPl K C ∧ flds x = []) ∧ ∀ k C', ca k = some C' → PySem.W.exmOne K (.ref C') (.ref C) = some (sub k x)
  | .fn _ _ => True
section
variable {P : Program} {w : World} {K : PySem.W.Frag} {mg : Str → Option Value} {base : Heap} {ca : Str → Option Addr}
theorem call_len {G : Prog} {k i : Nat} {t : FD} (h : G.funs[i]? = some t) (as : List Val) : (∀ r a, callM G k i as ≠ .ok r a) ∧ (∀ r a, callM G k i as ≠ .ex r a) ∨ as.length = t.np := by
  cases k with
  | zero => exact .inl ⟨fun _ _ z => (by cases z), fun _ _ z => (by cases z)⟩
  | succ k =>
    by_cases l : as.length = t.np
    · exact .inr l
    · refine .inl ⟨fun r a z => ?_, fun r a z => ?_⟩ <;>
      · unfold callM at z
        rw [h] at z
        dsimp only at z
        rw [if_neg fun q => l q.1] at z
        cases z
/-- THE RULE: all defs, by the depth of calls -/
theorem fn_all {G : Prog} {Gt : List (Str × GK)} {fe fs : Nat} (T : Nat → DefT) (fa : Nat → Addr) (fd : Nat → FuncData) (CK : ClsK K ca G.sub)
    (hT : ∀ i t, G.funs[i]? = some t → (T i).d = t ∧ DefOk (T i) Gt fe fs ∧ FunD K (T i).name (T i).qual (T i).params (T i).body (T i).scope [] [] (fa i) (fd i) ∧ Binds K (fd i) (T i).ps [])
    (hG : ∀ x g, Gt.lookup x = some g → GOk0 K w mg ca G.sub G.flds x g) (hF : ∀ x i np, Gt.lookup x = some (.fn i np) → ∃ t, G.funs[i]? = some t ∧ t.np = np ∧ mg x = some (.ref (fa i))) :
    ∀ k i t, G.funs[i]? = some t → FnG P w K mg base k (fa i) (fd i) (T i).ps (spF K ca t.np (callM G k i))
  | 0, i, t, h => ⟨fun vs H Q E q => by
      obtain ⟨rfl, ok, _⟩ := hT i t h
      rw [q.1, ok.np], fun A outer s H args us vs Q E _ _ _ _ _ q => by
      obtain ⟨_, vs, F, fp, _, _, _, _, z⟩ := q
      exact z.elim⟩
  | k + 1, i, t, h => by
    have IH := fn_all T fa fd CK hT hG hF k
    obtain ⟨rfl, ok, FD, bd⟩ := hT i t h
    refine FnG.of_body FD ok.sc (fun vs H Q E q => by rw [q.1, ok.np]) fun cdv A outer s H us Q E gd hr q => ?_
    obtain ⟨hl, vs, F, fp, V1, nd, nf, al, q⟩ := q
    have hlen : vs.length = (T i).d.np := by rw [← V1.len]; exact hl
    have hle : (T i).d.np ≤ (T i).d.n := by
      rw [← ok.np, ← ok.n]
      have := congrArg List.length ok.sc.pre
      rw [List.length_take] at this
      omega
    have e1 : callM G (k + 1) i vs = endM vs (exs ⟨callM G k, G.sub, G.flds, vs.map owned⟩ (T i).d.mb (vs.map some ++ List.replicate ((T i).d.n - (T i).d.np) none)) := by
      show (match G.funs[i]? with
        | some fd => if vs.length = fd.np ∧ fd.np ≤ fd.n then endM vs (exs ⟨callM G k, G.sub, G.flds, vs.map owned⟩ fd.mb (vs.map some ++ List.replicate (fd.n - fd.np) none)) else .no
        | none => .no) = _
      rw [h]
      exact if_pos ⟨hlen, hle⟩
    rw [e1] at q
    generalize hc : (⟨callM G k, G.sub, G.flds, vs.map owned⟩ : Ctx) = c at q
    generalize hX : cxOf (L2.CX P w) P w K mg base (T i).N (T i).qual (T i).scope (fa i) cdv A outer s H E = X
    have KX : CxOk ((T i).cc Gt) ca (fun cls d _ H => E cls d H) c X := by
      subst hX hc
      refine ⟨rfl, ok.sc.nd, rfl, fun _ _ => rfl, ok.sc.kind, rfl, ?_, takes_of rfl rfl rfl rfl, fun x g hx => ?_, CK, gd⟩
      · have := hr.un
        show (A.deeper _).units + 100 < cLine
        omega
      · have q := hG x g hx
        cases g with
        | fn j np =>
          obtain ⟨t, ht, rfl, hm⟩ := hF x j np hx
          obtain ⟨_, _, FD', bd'⟩ := hT j t ht
          exact ⟨fa j, fd j, (T j).ps, k, hm, FD'.kp, bd', hr, IH j t ht, call_len ht⟩
        | val _ _ => exact q
        | cls _ => exact q
        | con _ => exact q
        | tab _ => exact q
        | no => exact q
    have YX : CxS X := by
      subst hX
      exact ⟨rfl, rfl, passes_of rfl⟩
    have hK : X.K = K := by subst hX; rfl
    have S2 : PSs X (T i).body (tMs X.K ca (fun cls d _ H => E cls d H) c (T i).d.mb) := ck2_sound fe fs ((T i).cc Gt) _ ok.ck ca _ c X KX YX
    rw [hK] at S2
    refine ⟨_, S2, ?_⟩
    obtain ⟨own, R, ow, far⟩ := Rel.start (N := (T i).N) (m := (T i).d.n - (T i).d.np) V1 nd nf al (by rw [hl, ok.n]; exact hle) (by rw [ok.n, hl])
    refine ⟨_, F, own, R, ?_⟩
    -- the ends
    have hpr : ∀ j : Nat, c.pr[j]? = (vs[j]?).map owned := fun j => by subst hc; exact List.getElem?_map ..
    have sl : ∀ σ', Prz c (L2.start (T i).N us) σ' → ∀ j a u, vs[j]? = some a → us[j]? = some u → owned a = true → σ'[0 + j]? = some (some u) := fun σ' pz j a u h1 h2 h3 => by
      rw [Nat.zero_add, pz j (by rw [hpr, h1]; exact congrArg some h3), start_get, if_pos (List.getElem?_eq_some_iff.mp h2).1, h2]
      rfl
    have wok := R.wok
    have eW : ∀ a, Ow own a ↔ a ∈ fp := ow
    have fin : ∀ {σ' H' F' own' e' ps}, Prz c (L2.start (T i).N us) σ' → Rel K ca σ' H' e' F' own' → Ext H F (Ow own) H' F' (Ow own') → parts e' 0 vs = some ps →
        ∃ fp', VRs K ca H' F' us ps fp' ∧ fp'.Nodup ∧ (∀ a ∈ fp', Ow own' a) ∧ (∀ a ∈ fp', ¬ F' a ∧ (a ∈ fp ∨ H a = none)) ∧ Ext H F (fun a => a ∈ fp) H' F' (fun a => a ∈ fp') := fun {σ' H' F' own' e' ps} pz R' E' hp => by
      obtain ⟨fp', r, n, s⟩ := parts_ok R' E' wok V1 (sl σ' pz) hp
      have s' : ∀ a ∈ fp', Ow own' a := fun a m => let ⟨j, _, z⟩ := s a m; ⟨j, z⟩
      refine ⟨fp', r, n, s', fun a m => ⟨fun f => ?_, (E'.own a (s' a m)).imp (eW a).mp id⟩, E'.widen (fun a z => (eW a).mp z) fun a m => (E'.own a (s' a m)).imp (eW a).mp id⟩
      obtain ⟨j, _, z⟩ := s a m
      exact R'.nf j a z f
    cases hx : exs c (T i).d.mb (vs.map some ++ List.replicate ((T i).d.n - (T i).d.np) none) with
    | no => rw [hx] at q; exact q.elim
    | ex x e' =>
      rw [hx] at q
      have q : (match (match parts e' 0 vs with
        | some ps => CRes.ex x ps
        | none => .no) with
        | .ok r vs' => _
        | .ex x vs' => ∀ cls d H' F' fp', ExR K ca H' F' x cls d → VRs K ca H' F' us vs' fp' → fp'.Nodup → (∀ a ∈ fp', ¬ F' a ∧ (a ∈ fp ∨ H a = none)) → Ext H F (fun a => a ∈ fp) H' F' (fun a => a ∈ fp') → (∀ a, F' a → H' a ≠ none) → E cls d H'
        | .no => False) := q
      cases hp : parts e' 0 vs with
      | none => rw [hp] at q; exact q.elim
      | some ps =>
        rw [hp] at q
        intro cls d σ' H' F' own' pz R' xr E'
        obtain ⟨fp', r, n, s', f', E2⟩ := fin pz R' E' hp
        exact q cls d H' F' fp' xr r n f' E2 R'.al
    | ok fl e' =>
      rw [hx] at q
      intro σ' H' F' own' pz R' E'
      have main : ∀ (r : Val), (match (match parts e' 0 vs with
        | some ps => CRes.ok r ps
        | none => .no) with
        | .ok r vs' => ∀ v H' F' gp fp', VR K ca H' F' v r gp → VRs K ca H' F' us vs' fp' → (gp ++ fp').Nodup → (∀ a ∈ gp ++ fp', ¬ F' a ∧ (a ∈ fp ∨ H a = none)) → Ext H F (fun a => a ∈ fp) H' F' (fun a => a ∈ fp') → (∀ a, F' a → H' a ≠ none) → Q v H'
        | .ex x vs' => False
        | .no => False) → ∀ u gp, VR K ca H' F' u r gp → gp.Nodup → (∀ a ∈ gp, ¬ F' a ∧ ¬ Ow own' a) → (∀ a ∈ gp, Ow own a ∨ H a = none) → Q u H' := fun r q u gp vr ng fg og => by
        cases hp : parts e' 0 vs with
        | none => rw [hp] at q; exact q.elim
        | some ps =>
          rw [hp] at q
          obtain ⟨fp', r, n, s', f', E2⟩ := fin pz R' E' hp
          exact q u H' F' gp fp' vr r (List.nodup_append.mpr ⟨ng, n, fun a m b m' => by rintro rfl; exact (fg a m).2 (s' a m')⟩)
            (fun a m => (List.mem_append.mp m).elim (fun m => ⟨(fg a m).1, (og a m).imp (eW a).mp id⟩) (f' a)) E2 R'.al
      cases fl with
      | nx =>
        refine main (.d .none) ?_ .non [] (.d .non) .nil (fun a m => by cases m) (fun a m => by cases m)
        have q : (match (match parts e' 0 vs with
          | some ps => CRes.ok (.d .none) ps
          | none => .no) with
          | .ok r vs' => ∀ v H' F' gp fp', VR K ca H' F' v r gp → VRs K ca H' F' us vs' fp' → (gp ++ fp').Nodup → (∀ a ∈ gp ++ fp', ¬ F' a ∧ (a ∈ fp ∨ H a = none)) → Ext H F (fun a => a ∈ fp) H' F' (fun a => a ∈ fp') → (∀ a, F' a → H' a ≠ none) → Q v H'
          | .ex x vs' => _
          | .no => False) := q
        cases hp : parts e' 0 vs with
        | none => rw [hp] at q; exact q.elim
        | some ps => rw [hp] at q; exact q
      | bk => exact q.elim
      | ct => exact q.elim
      | ret v =>
        intro u gp vr ng fg og
        refine main v ?_ u gp vr ng fg og
        have q : (match (match parts e' 0 vs with
          | some ps => CRes.ok v ps
          | none => .no) with
          | .ok r vs' => ∀ v H' F' gp fp', VR K ca H' F' v r gp → VRs K ca H' F' us vs' fp' → (gp ++ fp').Nodup → (∀ a ∈ gp ++ fp', ¬ F' a ∧ (a ∈ fp ∨ H a = none)) → Ext H F (fun a => a ∈ fp) H' F' (fun a => a ∈ fp') → (∀ a, F' a → H' a ≠ none) → Q v H'
          | .ex x vs' => _
          | .no => False) := q
        cases hp : parts e' 0 vs with
        | none => rw [hp] at q; exact q.elim
        | some ps => rw [hp] at q; exact q
end
end PM
end

section
set_option Elab.async false
set_option linter.all false
set_option maxRecDepth 100000
set_option maxHeartbeats 4000000
/-! PMEnd: the head's facts by tables; a law's end. -/
namespace PM
open PySem PySem.Spec PyProof.Rows L2
theorem mem_lk {α : Type} {a : Addr} {o : α} : ∀ {l : List (Addr × α)}, l.lookup a = some o → (a, o) ∈ l
  | [], h => by cases h
  | (b, x) :: r, h => by
    rw [List.lookup_cons] at h
    cases q : a == b with
    | true =>
      rw [q] at h
      cases h
      rw [eq_of_beq q]
      exact List.mem_cons_self
    | false =>
      rw [q] at h
      exact List.mem_cons_of_mem _ (mem_lk h)
/-! ### a Hook for any facts -/
abbrev TabN : Type := Str × List Str
def obsM (B : PySem.W.Frag → Bool) (fn : List He.DefD) (ts : List TabN) (K : PySem.W.Frag) : He.AlT := ((B K && fn.all fun d => d.ok K, fn.map fun d => He.fnW K d.at_), ts.map fun t => He.dicW K (He.ga K t.1))
def valM (fn : List He.DefD) (ts : List TabN) (w : World) : He.AlT := (He.valD fn, ts.map fun t => some (He.keysIn w.params t.2))
def SaysM (B : PySem.W.Frag → Bool) (fn : List He.DefD) (ts : List TabN) (w : World) (K : PySem.W.Frag) : Prop := obsM B fn ts K = valM fn ts w
def obsMG (n : Nat) (B : PySem.W.Frag → Bool) (fn : List He.DefD) (ts : List TabN) (g : Addr → Option Obj) : He.AlT := obsM B fn ts (He.frG g (He.asD g n))
def hookM (n : Nat) (B : PySem.W.Frag → Bool) (fn : List He.DefD) (ts : List TabN) : PySem.W.Hook where
  α := He.AlT
  obs := fun s => obsMG n B fn ts s.heap.get?
  val := fun w => valM fn ts w
  says := fun w h => ∃ K : PySem.W.Frag, K.In h ∧ SaysM B fn ts w K
  of := fun _ _ e => ⟨_, He.frG_in, e⟩
  keeps := fun _ _ _ ⟨K, hK, c⟩ k => ⟨K, PySem.W.Frag.In.keeps hK k, c⟩
theorem obsMG_eq {n : Nat} {B : PySem.W.Frag → Bool} {fn : List He.DefD} {ts : List TabN} {g : Addr → Option Obj} {s : Shared} (h : ∀ a, g a = s.heap.get? a) : obsMG n B fn ts g = (hookM n B fn ts).obs s := by
  have e : g = s.heap.get? := funext h
  rw [e] <;> rfl
theorem SaysM.fact {B : PySem.W.Frag → Bool} {fn : List He.DefD} {ts : List TabN} {w : World} {K : PySem.W.Frag} (c : SaysM B fn ts w K) : B K = true :=
  (Bool.and_eq_true_iff.mp (show (B K && fn.all fun d => d.ok K) = true from congrArg (fun z : He.AlT => z.1.1) c)).1
theorem SaysM.tab {B : PySem.W.Frag → Bool} {fn : List He.DefD} {ts : List TabN} {w : World} {K : PySem.W.Frag} (c : SaysM B fn ts w K) {t : TabN} (h : t ∈ ts) : He.dicW K (He.ga K t.1) = some (He.keysIn w.params t.2) := by
  have e : ts.map (fun t => He.dicW K (He.ga K t.1)) = ts.map fun t => some (He.keysIn w.params t.2) := congrArg (fun z : He.AlT => z.2) c
  exact List.map_inj_left.mp e t h
theorem SaysM.def_ {B : PySem.W.Frag → Bool} {fn : List He.DefD} {ts : List TabN} {w : World} {K : PySem.W.Frag} (c : SaysM B fn ts w K) (i : Nat) {d : He.DefD} (h : fn[i]? = some d) : ∃ fd, FunD K d.name d.qual d.params d.body d.scope (d.dvs K) (d.kws K) (He.fAd K d.at_) fd := by
  have c2 := (Bool.and_eq_true_iff.mp (show (B K && fn.all fun d => d.ok K) = true from congrArg (fun z : He.AlT => z.1.1) c)).2
  have e : fn.map (fun d => He.fnW K d.at_) = fn.map He.DefD.val := congrArg (fun z : He.AlT => z.1.2) c
  have e2 : (fn.map fun d => He.fnW K d.at_)[i]? = (fn.map He.DefD.val)[i]? := by rw [e]
  rw [List.getElem?_map, List.getElem?_map, h] at e2
  exact He.DefD.funD (Option.some.inj e2) (List.all_eq_true.mp c2 d (List.mem_of_getElem? h))
/-! ### constants of the module -/
mutual
def cstB (K : PySem.W.Frag) : Nat → Value → D → Bool
  | _, .none, .none => true
  | _, .bool a, .bool b => a == b
  | _, .int i _, .int j => decide (i = j)
  | _, .str x _, .str y => decide (x = y)
  | n + 1, .ref a, .tuple ds => (match K.lookup a with
    | some ⟨.type c, _, .seq its _, _⟩ => decide (c = "tuple") && decide (its.size ≤ 4096) && cstsB K n its.toList ds
    | _ => false)
  | _, _, _ => false
def cstsB (K : PySem.W.Frag) : Nat → List Value → List D → Bool
  | _, [], [] => true
  | n, u :: us, d :: ds => cstB K n u d && cstsB K n us ds
  | _, _, _ => false
end
mutual
theorem cstB_ok {K : PySem.W.Frag} : ∀ {n : Nat} {u : Value} {d : D}, cstB K n u d = true → ∃ v, RelV v u ∧ Cst K v d
  | n, u, d, h => by
    unfold cstB at h
    split at h
    · exact ⟨.non, rfl, fun _ _ => .non⟩
    · rw [eq_of_beq h]; exact ⟨.bl _, rfl, fun _ _ => .bl _⟩
    · rw [of_decide_eq_true h]; exact ⟨.int _, ⟨_, rfl⟩, fun _ _ => .int _⟩
    · rw [of_decide_eq_true h]; exact ⟨.str _, ⟨_, rfl⟩, fun _ _ => .str _⟩
    · split at h
      · rename_i hl
        simp only [Bool.and_eq_true, decide_eq_true_eq] at h
        obtain ⟨⟨rfl, h2⟩, h3⟩ := h
        obtain ⟨vs, r, c⟩ := cstsB_ok h3
        refine ⟨.ref _, rfl, fun H F => .tup (us := vs) (.inr ⟨_, _, _, hl, rfl, rfl, ?_, r⟩) (c H F)⟩
        have : (sizeLine : Nat) = 16777216 := sizeLine_eq
        omega
      · cases h
    · cases h
theorem cstsB_ok {K : PySem.W.Frag} : ∀ {n : Nat} {us : List Value} {ds : List D}, cstsB K n us ds = true → ∃ vs, Vals vs us ∧ ∀ H F, Dens K H F vs ds
  | n, us, ds, h => by
    unfold cstsB at h
    split at h
    · exact ⟨[], .nil, fun _ _ => .nil⟩
    · rw [Bool.and_eq_true] at h
      obtain ⟨v, r, c⟩ := cstB_ok h.1
      obtain ⟨vs, rs, cs⟩ := cstsB_ok h.2
      exact ⟨v :: vs, .cons r rs, fun H F => .cons (c H F) (cs H F)⟩
    · cases h
end
def conD (K : PySem.W.Frag) (x : Str) (d : D) : Bool := match PySem.W.nsIn K mainGlobals x with
  | some (some u) => cstB K 6 u d
  | _ => false
theorem conD_ok {K : PySem.W.Frag} {h : Heap} {mg : Str → Option Value} (X : K.In h) (G : h.Ns mainGlobals mg) {x : Str} {d : D} (c : conD K x d = true) : ∃ v u, mg x = some u ∧ RelV v u ∧ Cst K v d := by
  unfold conD at c
  split at c
  · rename_i u e
    obtain ⟨v, r, q⟩ := cstB_ok c
    exact ⟨v, u, PySem.W.mg_of X G e, r, q⟩
  · cases c
def tabB (K : PySem.W.Frag) (x : Str) (kvs : List (Str × D)) : Bool := kvs.all fun q => match PySem.W.nsIn K (He.ga K x) q.1 with
  | some (some u) => cstB K 6 u q.2
  | _ => false
theorem keyed_find {P : Params} {z : Str} : ∀ {l : List DictEntry} {ks : List Str}, l.map He.keyOf = He.keysIn P ks → z ∉ ks → l.find? (·.key.isStr z) = none ∧ l.any (·.refKey) = false
  | [], _, _, _ => ⟨rfl, rfl⟩
  | e :: r, [], h, _ => by cases h
  | e :: r, k :: ks, h, hz => by
    have h1 : He.keyOf e :: r.map He.keyOf = some (k, PyData.keyHash P k) :: He.keysIn P ks := h
    injection h1 with h2 h3
    obtain ⟨i1, i2⟩ := keyed_find h3 fun m => hz (List.mem_cons_of_mem _ m)
    unfold He.keyOf at h2
    split at h2
    · rename_i x t q
      have h4 := (Prod.mk.inj (Option.some.inj h2)).1
      have hne : (e.key.isStr z) = false := by
        rw [q, PySem.W.isStr_of]
        unfold Value.isStrOf
        refine Bool.eq_false_iff.mpr fun hh => hz ?_
        have : x = z := by simpa using hh
        rw [← this, h4]
        exact List.mem_cons_self
      refine ⟨by rw [List.find?_cons, hne]; exact i1, ?_⟩
      rw [List.any_cons, i2, Bool.or_false]
      unfold DictEntry.refKey
      rw [q]
    · cases h2
theorem tab_ok {K : PySem.W.Frag} {w : World} {h : Heap} {mg : Str → Option Value} (X : K.In h) (G : h.Ns mainGlobals mg) {x : Str} {kvs : List (Str × D)} (cg : (He.Fa.glo x).ok K = true) (c : tabB K x kvs = true) (hd : He.dicW K (He.ga K x) = some (He.keysIn w.params (kvs.map (·.1)))) : ∃ p, mg x = some (.ref p) ∧ TabK K w p kvs := by
  refine ⟨_, He.glo_ok X G cg, ?_⟩
  obtain ⟨es, n, kd⟩ := He.dicW_ok hd
  refine ⟨es, n, kd, fun z => ?_⟩
  by_cases hz : z ∈ kvs.map (·.1)
  · have hs : (kvs.lookup z).isSome = true := by
      obtain ⟨q, hq, rfl⟩ := List.mem_map.mp hz
      rw [Option.isSome_iff_ne_none]
      intro e
      rw [List.lookup_eq_none_iff] at e
      have := e _ hq
      simp at this
    obtain ⟨d, hd'⟩ := Option.isSome_iff_exists.mp hs
    have hm := PySem.mem_of_lookup hd'
    have := List.all_eq_true.mp c _ hm
    dsimp only at this
    split at this
    · rename_i u e
      obtain ⟨v, r, q⟩ := cstB_ok this
      refine ⟨some u, e, fun d' hd2 => ?_, fun hn => ?_⟩
      · rw [hd'] at hd2
        cases hd2
        exact ⟨u, v, rfl, r, q⟩
      · rw [hd'] at hn; cases hn
    · cases this
  · have hn : kvs.lookup z = none := by
      rw [List.lookup_eq_none_iff]
      intro q hq
      by_cases e : z == q.1
      · exact absurd (List.mem_map.mpr ⟨q, hq, (eq_of_beq e).symm⟩) hz
      · simpa using e
    refine ⟨none, ?_, fun d hd' => (by rw [hn] at hd'; cases hd'), fun _ => rfl⟩
    have hk : es.toList.map He.keyOf = He.keysIn w.params (kvs.map (·.1)) := by
      unfold He.dicW at hd
      rw [kd.at_] at hd
      dsimp only at hd
      split at hd
      · exact Option.some.inj hd
      · cases hd
    obtain ⟨f1, f2⟩ := keyed_find hk hz
    unfold PySem.W.nsIn
    rw [kd.at_]
    dsimp only
    rw [f1]
    dsimp only
    rw [f2]
    rfl
/-! ### a law's tables -/
structure LawT where
  defs : List (Str × DefT)
  gi : List (Str × Int)
  gs : List (Str × Str)
  cons : List (Str × D)
  tabs : List (Str × List (Str × D))
  cls : List (Str × Bool)
  subs : List (Str × List Str)
  frees : List Str
def subT (s : List (Str × List Str)) (c x : Str) : Bool := ((s.lookup c).getD []).contains x
def LawT.ca (T : LawT) (K : PySem.W.Frag) : Str → Option Addr := fun c => if (T.cls.any fun p => p.1 == c) = true then some (He.ga K c) else none
def excB (K : PySem.W.Frag) (C : Addr) : Bool := He.eqO (PySem.W.findIn K (.ref C) "__getattribute__") (some (some (.builtin "BaseException.__getattribute__"))) && (He.eqO (PySem.W.findIn K (.ref C) "__getattr__") (some none) &&
  (decide (PySem.W.subIn K (.ref C) (.type "BaseException") = some true) && (PySem.W.hasDictIn K C && (He.eqO (PySem.W.findIn K (.ref C) "__class__") (some (some (.builtin "object.__class__"))) &&
  (He.eqO (PySem.W.specialIn K (.builtin "object.__class__") "__get__") (some (some (.builtin "getset_descriptor.__get__"))) && (decide (PySem.W.takesIn K (.builtin "object.__class__") = some true) && decide (PySem.W.mroIn K C (.type "object") = some true)))))))
def noLists (K : PySem.W.Frag) : Bool := K.all fun p => !(p.2.cls == .type "list")
def LawT.ts (T : LawT) : List TabN := T.tabs.map fun p => (p.1, p.2.map (·.1))
def LawT.B (T : LawT) (K : PySem.W.Frag) : Bool := noLists K && (((T.cons.all fun p => conD K p.1 p.2) && (T.tabs.all fun p => (He.Fa.glo p.1).ok K && tabB K p.1 p.2)) && ((T.defs.all fun p => (He.Fa.glo p.1).ok K) && ((T.gi.all fun p => (He.Fa.int p.1 p.2).ok K) && ((T.gs.all fun p => (He.Fa.str p.1 p.2).ok K) && ((T.frees.all fun x => (He.Fa.free x).ok K) &&
  ((T.cls.all fun p => (He.Fa.glo p.1).ok K && (excB K (He.ga K p.1) && ((!p.2 || (He.Fa.exc p.1).ok K) && ((TN.all fun n => decide (PySem.W.kitOne K (.ref (He.ga K p.1)) (.type n) = some (excBases.contains n))) && (TD.all fun t => decide (PySem.W.kitOne K (.type t) (.ref (He.ga K p.1)) = some false)))))) &&
  (T.cls.all fun p => T.cls.all fun q => decide (PySem.W.kitOne K (.ref (He.ga K p.1)) (.ref (He.ga K q.1)) = some (subT T.subs p.1 q.1)) && decide (PySem.W.exmOne K (.ref (He.ga K p.1)) (.ref (He.ga K q.1)) = some (subT T.subs p.1 q.1)))))))))
def fnG : Nat → List (Str × DefT) → List (Str × GK)
  | _, [] => []
  | i, (x, d) :: r => (x, .fn i d.d.np) :: fnG (i + 1) r
def LawT.G (T : LawT) : List (Str × GK) := fnG 0 T.defs ++ (T.gi.map (fun p => (p.1, .val (.int p.2) (.int p.2))) ++ (T.gs.map (fun p => (p.1, .val (.str p.2) (.str p.2))) ++ (T.cons.map (fun p => (p.1, .con p.2)) ++ (T.tabs.map (fun p => (p.1, .tab p.2)) ++ (T.cls.map (fun p => (p.1, .cls p.2)) ++ T.frees.map fun x => (x, .no))))))
def LawT.prog (T : LawT) : Prog := ⟨T.defs.map fun p => p.2.d, subT T.subs, fun _ => []⟩
def defD (x : Str) (t : DefT) : He.DefD := ⟨(x, none), t.name, t.qual, t.params, t.body, t.scope, [], []⟩
def LawT.fn (T : LawT) : List He.DefD := T.defs.map fun p => defD p.1 p.2
theorem fnG_mem {x : Str} {j np : Nat} : ∀ {l : List (Str × DefT)} {i : Nat}, (x, GK.fn j np) ∈ fnG i l → ∃ k t, j = i + k ∧ l[k]? = some (x, t) ∧ t.d.np = np
  | [], i, h => by cases h
  | (y, d) :: r, i, h => by
    rcases List.mem_cons.mp h with e | h
    · cases e
      exact ⟨0, d, rfl, rfl, rfl⟩
    · obtain ⟨k, t, e, hk, hn⟩ := fnG_mem h
      exact ⟨k + 1, t, by omega, by simpa using hk, hn⟩
theorem fnG_fn {x : Str} {g : GK} : ∀ {l : List (Str × DefT)} {i : Nat}, (x, g) ∈ fnG i l → ∃ j np, g = .fn j np
  | [], i, h => by cases h
  | (y, d) :: r, i, h => by
    rcases List.mem_cons.mp h with e | h
    · cases e; exact ⟨_, _, rfl⟩
    · exact fnG_fn h
section
variable {T : LawT} {K : PySem.W.Frag} {h : Heap} {mg : Str → Option Value}
structure BOk (T : LawT) (K : PySem.W.Frag) : Prop where
  nl : noLists K = true
  con : ∀ p ∈ T.cons, conD K p.1 p.2 = true
  tabg : ∀ p ∈ T.tabs, (He.Fa.glo p.1).ok K = true
  tab : ∀ p ∈ T.tabs, tabB K p.1 p.2 = true
  defs : ∀ p ∈ T.defs, (He.Fa.glo p.1).ok K = true
  gi : ∀ p ∈ T.gi, (He.Fa.int p.1 p.2).ok K = true
  gs : ∀ p ∈ T.gs, (He.Fa.str p.1 p.2).ok K = true
  frees : ∀ x ∈ T.frees, (He.Fa.free x).ok K = true
  glo : ∀ p ∈ T.cls, (He.Fa.glo p.1).ok K = true
  exc : ∀ p ∈ T.cls, ExcC K (He.ga K p.1)
  pl : ∀ p ∈ T.cls, p.2 = true → (He.Fa.exc p.1).ok K = true
  bt : ∀ p ∈ T.cls, ∀ n ∈ TN, PySem.W.kitOne K (.ref (He.ga K p.1)) (.type n) = some (excBases.contains n)
  dt : ∀ p ∈ T.cls, ∀ t ∈ TD, PySem.W.kitOne K (.type t) (.ref (He.ga K p.1)) = some false
  kit : ∀ p ∈ T.cls, ∀ q ∈ T.cls, PySem.W.kitOne K (.ref (He.ga K p.1)) (.ref (He.ga K q.1)) = some (subT T.subs p.1 q.1)
  exm : ∀ p ∈ T.cls, ∀ q ∈ T.cls, PySem.W.exmOne K (.ref (He.ga K p.1)) (.ref (He.ga K q.1)) = some (subT T.subs p.1 q.1)
theorem excB_ok {C : Addr} (h : excB K C = true) : ExcC K C := by
  unfold excB at h
  simp only [Bool.and_eq_true, decide_eq_true_eq] at h
  exact ⟨He.eqO_ok h.1, He.eqO_ok h.2.1, h.2.2.1, h.2.2.2.1, He.eqO_ok h.2.2.2.2.1, He.eqO_ok h.2.2.2.2.2.1, h.2.2.2.2.2.2.1, h.2.2.2.2.2.2.2⟩
theorem B_ok (h : T.B K = true) : BOk T K := by
  unfold LawT.B at h
  simp only [Bool.and_eq_true, List.all_eq_true, decide_eq_true_eq, Bool.or_eq_true, Bool.not_eq_true'] at h
  obtain ⟨h1, ⟨hc, ht⟩, h2, h3, h4, h5, h6, h7⟩ := h
  exact ⟨h1, hc, fun p m => (ht p m).1, fun p m => (ht p m).2, h2, h3, h4, h5, fun p m => (h6 p m).1, fun p m => excB_ok (h6 p m).2.1, fun p m q => ((h6 p m).2.2.1).resolve_left (by rw [q]; exact fun z => nomatch z), fun p m => (h6 p m).2.2.2.1, fun p m => (h6 p m).2.2.2.2, fun p m q n => (h7 p m q n).1, fun p m q n => (h7 p m q n).2⟩
theorem ca_some {c : Str} {C : Addr} (h : T.ca K c = some C) : ∃ p ∈ T.cls, p.1 = c ∧ C = He.ga K p.1 := by
  unfold LawT.ca at h
  split at h
  · rename_i q
    cases h
    obtain ⟨p, hp, e⟩ := List.any_eq_true.mp q
    have e := eq_of_beq e
    exact ⟨p, hp, e, by rw [e]⟩
  · cases h
theorem ca_of {p : Str × Bool} (h : p ∈ T.cls) : T.ca K p.1 = some (He.ga K p.1) := by
  unfold LawT.ca
  rw [if_pos (List.any_eq_true.mpr ⟨p, h, beq_self_eq_true p.1⟩)]
theorem clsK_of (B : BOk T K) : ClsK K (T.ca K) T.prog.sub where
  exc := fun c C h => by
    obtain ⟨p, hp, rfl, rfl⟩ := ca_some h
    exact B.exc p hp
  ecl := fun c C c' C' h h' => by
    obtain ⟨p, hp, rfl, rfl⟩ := ca_some h
    obtain ⟨q, hq, rfl, rfl⟩ := ca_some h'
    exact B.kit p hp q hq
  ebt := fun c C n h hn => by
    obtain ⟨p, hp, rfl, rfl⟩ := ca_some h
    exact B.bt p hp n hn
  dcl := fun t c C ht h => by
    obtain ⟨p, hp, rfl, rfl⟩ := ca_some h
    exact B.dt p hp t ht
theorem gok_of {w : World} (X : K.In h) (G : h.Ns mainGlobals mg) (B : BOk T K) (hT : ∀ p ∈ T.tabs, He.dicW K (He.ga K p.1) = some (He.keysIn w.params (p.2.map (·.1)))) {x : Str} {g : GK} (hx : T.G.lookup x = some g) : GOk0 K w mg (T.ca K) T.prog.sub T.prog.flds x g := by
  have m := PySem.mem_of_lookup hx
  unfold LawT.G at m
  simp only [List.mem_append, List.mem_map] at m
  rcases m with m | ⟨p, hp, e⟩ | ⟨p, hp, e⟩ | ⟨p, hp, e⟩ | ⟨p, hp, e⟩ | ⟨p, hp, e⟩ | ⟨y, hy, e⟩
  · obtain ⟨j, np, rfl⟩ := fnG_fn m
    trivial
  · cases e
    obtain ⟨t, ht⟩ := He.int_ok X G (B.gi p hp)
    exact ⟨_, ht, ⟨t, rfl⟩, fun _ _ => .int _⟩
  · cases e
    obtain ⟨t, ht⟩ := He.str_ok X G (B.gs p hp)
    exact ⟨_, ht, ⟨t, rfl⟩, fun _ _ => .str _⟩
  · cases e
    exact conD_ok X G (B.con p hp)
  · cases e
    exact tab_ok X G (B.tabg p hp) (B.tab p hp) (hT p hp)
  · cases e
    refine ⟨_, ca_of hp, He.glo_ok X G (B.glo p hp), fun q => ⟨?_, rfl⟩, fun k C' h' => ?_⟩
    · obtain ⟨e1, e2, e3, e4⟩ := He.exc_ok (B.pl p hp q)
      exact ⟨⟨_, _, _, _, PySem.F.excBase_ValueError, e1⟩, e2, e3, e4⟩
    · obtain ⟨q, hq, rfl, rfl⟩ := ca_some h'
      exact B.exm q hq p hp
  · cases e
    exact He.free_ok X G (B.frees _ hy)
end
/-- what is checked of each def -/
structure DefC (T : LawT) (fe fs : Nat) (t : DefT) : Prop where
  ok : DefOk t T.G fe fs
  bind : ∀ (kV doc pm : Value) (an : Option Addr) (cdv ct : Value) (us : List Value), us.length = t.ps.length → bindArgs (PySem.W.fnOf t.name t.qual t.params t.body t.scope .none kV doc pm an cdv ct) ⟨us, []⟩ = pure (t.ps.zip us)
/-- THE END: the law's def, from the run of the machine -/
theorem law_end {l : PySem.W.OpenLaw} {T : LawT} {fe fs n k li : Nat} {q : Program} {loose : List Str} {XP : (Str → Option Value) → Heap → Prop} {YP : World → Heap → Prop} {d : DefRec} {x lx : Str} {lt : DefT}
    (hY : ∀ w h, YP w h → ∃ K : PySem.W.Frag, K.In h ∧ SaysM T.B T.fn T.ts w K) (hd : d.name = lx) (hC : ∀ p ∈ T.defs, DefC T fe fs p.2) (hl : T.defs[li]? = some (lx, lt)) (hps : lt.ps = [x])
    (hn : l.most = some n) (hn2 : n ≤ sizeLine) (hdf : d.params.defaults = []) (hr : Room k callerA)
    (pure_ : ∀ ns : List Int, ns.length ≤ n → ∃ vs, callM T.prog k li [.d (.list (ns.map .int))] = .ok (.d (.bool true)) vs) :
    PySem.W.WalkO q loose XP YP l.row.toRowW d [] (fun f vs => PySem.call f vs) := by
  refine Att.attach_call hn hdf fun w s₀ s₁ mg mb fa o pm cd doc a vs ns G Y ho hdd hcd hmg hobj hints hlen hg => ?_
  obtain ⟨K, KX, c⟩ := hY w _ Y
  have B := B_ok c.fact
  have tabsOk : ∀ p ∈ T.tabs, He.dicW K (He.ga K p.1) = some (He.keysIn w.params (p.2.map (·.1))) := fun p hp => c.tab (t := (p.1, p.2.map (·.1))) (List.mem_map.mpr ⟨p, hp, rfl⟩)
  have Tg := G.T.g
  -- each def's function object
  have fnAt : ∀ (i : Nat) (p : Str × DefT), T.defs[i]? = some p → T.fn[i]? = some (defD p.1 p.2) := fun i p h => by
    unfold LawT.fn
    rw [List.getElem?_map, h]
    rfl
  have hfd : ∀ i : Nat, ∃ fd : FuncData, ∀ p : Str × DefT, T.defs[i]? = some p → FunD K p.2.name p.2.qual p.2.params p.2.body p.2.scope [] [] (He.ga K p.1) fd := fun i => by
    cases h : T.defs[i]? with
    | none => exact ⟨default, fun p z => by cases z⟩
    | some p =>
      obtain ⟨fd, F⟩ := c.def_ i (fnAt i p h)
      exact ⟨fd, fun q z => by cases z; exact F⟩
  obtain ⟨fd, hfd⟩ := Classical.axiomOfChoice hfd
  let TT : Nat → DefT := fun i => ((T.defs[i]?).map (·.2)).getD lt
  let fA : Nat → Addr := fun i => ((T.defs[i]?).map fun p => He.ga K p.1).getD 0
  have all : ∀ base : Heap, K.In base → base.Ns mainGlobals mg → ∀ k i t, T.prog.funs[i]? = some t → FnG l.prog w K mg base k (fA i) (fd i) (TT i).ps (spF K (T.ca K) t.np (callM T.prog k i)) := fun base hKb hNb => by
    refine fn_all (Gt := T.G) (fe := fe) (fs := fs) TT fA fd (clsK_of B) (fun i t ht => ?_) (fun y g hy => gok_of hKb hNb B tabsOk hy) (fun y i np hy => ?_)
    · obtain ⟨p, hp, rfl⟩ := Option.map_eq_some_iff.mp (show (T.defs[i]?).map (fun p => p.2.d) = some t by rw [← List.getElem?_map]; exact ht)
      have e1 : TT i = p.2 := by show ((T.defs[i]?).map (·.2)).getD lt = _; rw [hp]; rfl
      have e2 : fA i = He.ga K p.1 := by show ((T.defs[i]?).map fun p => He.ga K p.1).getD 0 = _; rw [hp]; rfl
      have F := hfd i p hp
      have D := hC p (List.mem_of_getElem? hp)
      rw [e1, e2]
      exact ⟨rfl, D.ok, F, F.bindsN D.bind⟩
    · have m := PySem.mem_of_lookup hy
      unfold LawT.G at m
      simp only [List.mem_append, List.mem_map] at m
      rcases m with m | ⟨p, hp, e⟩ | ⟨p, hp, e⟩ | ⟨p, hp, e⟩ | ⟨p, hp, e⟩ | ⟨p, hp, e⟩ | ⟨y, hy, e⟩
      · obtain ⟨k, t, rfl, hk, rfl⟩ := fnG_mem m
        rw [Nat.zero_add]
        refine ⟨t.d, ?_, rfl, ?_⟩
        · show (T.defs.map fun p => p.2.d)[k]? = _
          rw [List.getElem?_map, hk]
          rfl
        · have e2 : fA k = He.ga K y := by show ((T.defs[k]?).map fun p => He.ga K p.1).getD 0 = _; rw [hk]; rfl
          rw [e2]
          exact He.glo_ok hKb hNb (B.defs _ (List.mem_of_getElem? hk))
      · cases e
      · cases e
      · cases e
      · cases e
      · cases e
      · cases e
  have hli : T.prog.funs[li]? = some lt.d := by
    show (T.defs.map fun p => p.2.d)[li]? = _
    rw [List.getElem?_map, hl]
    rfl
  have hfa : fa = fA li := by
    have e2 : fA li = He.ga K lx := by show ((T.defs[li]?).map fun p => He.ga K p.1).getD 0 = _; rw [hl]; rfl
    have := He.glo_ok KX Tg (B.defs _ (List.mem_of_getElem? hl))
    rw [hd] at hmg
    rw [hmg] at this
    cases this
    exact e2.symm
  have hTT : TT li = lt := by show ((T.defs[li]?).map (·.2)).getD lt = _; rw [hl]; rfl
  have hFl := hfd li _ hl
  have hDl := hC _ (List.mem_of_getElem? hl)
  have hnp : lt.d.np = 1 := by rw [← hDl.ok.np]; show lt.ps.length = 1; rw [hps]; rfl
  refine FnG.top (x := x) (fd := fd li) (sp := spF K (T.ca K) 1 (callM T.prog k li)) KX Tg G.T.b G.T.builtins G.T.nolimit hg hobj hints (Nat.le_trans hlen hn2) hr (fun base hKb hNb => ?_) (fun s u => ?_) (fun H hO hS => ?_) fun H e s' z => ?_
  · have := all base hKb hNb k li lt.d hli
    rw [hTT, hps, hnp] at this
    rw [hfa]
    exact this
  · have b := FunD.bindsA (ps := lt.ps) hFl hDl.bind s [u] (by rw [hps]; rfl)
    rw [hps] at b
    exact b
  · obtain ⟨vs', e⟩ := pure_ ns hlen
    have fz : ∃ o, H a = some (.frz o (.lst (ns.map V.int))) := by
      rcases hS with (h1 | h1) | ⟨o, its, n, h1, h2, _⟩
      · rcases hO a with z | ⟨_, _, z⟩ <;> (rw [h1] at z; cases z)
      · exact h1
      · have q := List.all_eq_true.mp B.nl (a, o) (mem_lk h1)
        rw [h2] at q
        cases q
    refine ⟨rfl, [.d (.list (ns.map .int))], fun _ => False, [], VRs.cons (fp := []) (gp := []) (.d (.lst (.inr fz) (Dens.ofInts ns))) .nil, .nil, (fun a m => by cases m), (fun a z => z.elim), ?_⟩
    rw [e]
    intro v H' F' gp fp' vr _ _ _ _ _
    cases vr with
    | d dd => cases dd; rfl
  · obtain ⟨a, B, H', cls, dd, rfl, _, _, _, _, _, _, q⟩ := z
    exact q.elim
end PM
end

section
set_option Elab.async false
set_option linter.all false
set_option maxRecDepth 100000
set_option maxHeartbeats 1000000
/-! PMPure: rules for running the machine by hand. -/
namespace PM
open PySem
@[simp] theorem Res.bind_ok {α β : Type} (a : α) (e : Env) (f : α → Env → Res β) : (Res.ok a e).bind f = f a e := (rfl)
@[simp] theorem Res.bind_ex {α β : Type} (x : Ex) (e : Env) (f : α → Env → Res β) : (Res.ex x e : Res α).bind f = .ex x e := (rfl)
@[simp] theorem Res.bind_no {α β : Type} (f : α → Env → Res β) : (Res.no : Res α).bind f = .no := (rfl)
theorem Res.bind_congr {α β : Type} {r r' : Res α} {f : α → Env → Res β} (h : r = r') : r.bind f = r'.bind f := by rw [h]
@[simp] theorem noEx_ok {α : Type} (a : α) (e : Env) : noEx (Res.ok a e) = .ok a e := (rfl)
@[simp] theorem opt_some {α : Type} (a : α) (e : Env) : opt (some a) e = .ok a e := (rfl)
@[simp] theorem allD_nil : allD [] = some [] := (rfl)
@[simp] theorem allD_cons (x : D) (vs : List Val) : allD (.d x :: vs) = (allD vs).map (x :: ·) := by
  show (match isD (.d x), allD vs with
    | some x, some xs => some (x :: xs)
    | _, _ => none) = _
  cases allD vs <;> rfl
@[simp] theorem allD_map (ds : List D) : allD (ds.map .d) = some ds := by
  induction ds with
  | nil => rfl
  | cons x r ih => rw [List.map_cons, allD_cons, ih]; rfl
@[simp] theorem frD_d (x : D) : frD (.d x) = some x := (rfl)
@[simp] theorem frD_ol (vs : List Val) : frD (.ol vs) = (allD vs).map .list := (rfl)
theorem forL_ok {f : D → Env → Res Flow} {xs : List D} {e : Env} (P : Nat → Env → Prop) (h0 : P 0 e) (step : ∀ i x e, xs[i]? = some x → P i e → ∃ e', f x e = .ok .nx e' ∧ P (i + 1) e') : ∃ e', forL f xs e = .ok .nx e' ∧ P xs.length e' := by
  have key : ∀ (ys : List D) (i : Nat) (e : Env), xs.drop i = ys → P i e → ∃ e', forL f ys e = .ok .nx e' ∧ P (i + ys.length) e' := fun ys => by
    induction ys with
    | nil => intro i e _ p; exact ⟨e, rfl, p⟩
    | cons y ys ih =>
      intro i e hd p
      have hi : xs[i]? = some y := by
        have := congrArg (·[0]?) hd
        simpa using this
      obtain ⟨e1, h1, p1⟩ := step i y e hi p
      have hd' : xs.drop (i + 1) = ys := by
        rw [← List.drop_drop, hd]
        rfl
      obtain ⟨e2, h2, p2⟩ := ih (i + 1) e1 hd' p1
      refine ⟨e2, ?_, by rw [List.length_cons]; rw [show i + (ys.length + 1) = i + 1 + ys.length by omega]; exact p2⟩
      show (f y e).bind _ = _
      rw [h1]
      exact h2
  have := key xs 0 e rfl h0
  rwa [Nat.zero_add] at this
theorem lc_map {f : D → Env → Res (Option D)} {g : D → D} {e : Env} : ∀ {xs acc : List D}, (∀ x ∈ xs, f x e = .ok (some (g x)) e) → acc.length + xs.length ≤ lineN → lcLoop f xs acc e = .ok (acc ++ xs.map g) e
  | [], acc, _, _ => by simp [lcLoop]
  | x :: xs, acc, h, hl => by
    rw [List.length_cons] at hl
    show (f x e).bind _ = _
    rw [h x List.mem_cons_self]
    show (if acc.length < lineN then lcLoop f xs (acc ++ [g x]) e else .no) = _
    rw [if_pos (by omega), lc_map (fun y m => h y (List.mem_cons_of_mem _ m)) (by rw [List.length_append, List.length_singleton]; omega)]
    simp
theorem lc_filter {f : D → Env → Res (Option D)} {g : D → Option D} {e : Env} : ∀ {xs acc : List D}, (∀ x ∈ xs, f x e = .ok (g x) e) → acc.length + xs.length ≤ lineN → lcLoop f xs acc e = .ok (acc ++ xs.filterMap g) e
  | [], acc, _, _ => by simp [lcLoop]
  | x :: xs, acc, h, hl => by
    rw [List.length_cons] at hl
    show (f x e).bind _ = _
    rw [h x List.mem_cons_self]
    cases q : g x with
    | none =>
      show lcLoop f xs acc e = _
      rw [lc_filter (fun y m => h y (List.mem_cons_of_mem _ m)) (by omega), List.filterMap_cons, q]
    | some y =>
      show (if acc.length < lineN then lcLoop f xs (acc ++ [y]) e else .no) = _
      rw [if_pos (by omega), lc_filter (fun y m => h y (List.mem_cons_of_mem _ m)) (by rw [List.length_append, List.length_singleton]; omega), List.filterMap_cons, q]
      simp
theorem ev_lc {c : Ctx} {elt : ME} {t : Tgt} {it : MI} {cs : List ME} {own : List Nat} {e e1 : Env} {xs : List D} {g : D → Option D} (hi : evi c it e = .ok xs e1) (hf : own.all (lcFree c e1) = true) (hs : ∀ x ∈ xs, lcStep c elt t cs own x (wipeE e1 own) = .ok (g x) (wipeE e1 own)) (hl : xs.length ≤ lineN) :
    ev c (.lc elt t it cs own) e = .ok (.ol ((xs.filterMap g).map .d)) (backE e1 (wipeE e1 own) own) := by
  show (evi c it e).bind _ = _
  rw [hi]
  show (if own.all (lcFree c e1) = true then (noEx (lcLoop (lcStep c elt t cs own) xs [] (wipeE e1 own))).bind (fun ys e2 => Res.ok (Val.ol (ys.map .d)) (backE e1 e2 own)) else .no) = _
  rw [if_pos hf, lc_filter hs (by simpa using hl)]
  simp
theorem ev_lc' {c : Ctx} {elt : ME} {t : Tgt} {it : MI} {own : List Nat} {e e1 : Env} {xs : List D} {g : D → D} (hi : evi c it e = .ok xs e1) (hf : own.all (lcFree c e1) = true) (hs : ∀ x ∈ xs, lcStep c elt t [] own x (wipeE e1 own) = .ok (some (g x)) (wipeE e1 own)) (hl : xs.length ≤ lineN) :
    ev c (.lc elt t it [] own) e = .ok (.ol ((xs.map g).map .d)) (backE e1 (wipeE e1 own) own) := by
  have := ev_lc (g := fun x => some (g x)) hi hf hs hl
  rw [this]
  congr 2
  induction xs with
  | nil => rfl
  | cons x r ih => simp
theorem ev_bi1 {c : Ctx} {b : Bi} {a : ME} {v : Val} {e e1 : Env} (h : ev c a e = .ok v e1) : ev c (.bi b [a]) e = match see e1 v with
    | some d => opt (biD b [d]) e1
    | none => .no := by
  show ((ev c a e).bind fun v e1 => (Res.ok [] e1).bind fun vs e2 => Res.ok (v :: vs) e2).bind _ = _
  rw [h]
  show (match sees e1 [v] with
    | some ds => opt (biD b ds) e1
    | none => Res.no) = _
  unfold sees
  cases see e1 v <;> rfl
theorem ex_ret {c : Ctx} {a : ME} {v v' : Val} {e e1 e2 : Env} (h : ev c a e = .ok v e1) (ho : handOut c e1 v = some (v', e2)) : ex c (.ret a) e = .ok (.ret v') e2 := by
  show (ev c a e).bind _ = _
  rw [h]
  show (match handOut c e1 v with
    | some (v', e2) => Res.ok (Flow.ret v') e2
    | none => Res.no) = _
  rw [ho]
theorem ev_or_t {c : Ctx} {a b : ME} {e e1 : Env} (h : ev c a e = .ok (.d (.bool true)) e1) : ev c (.or a b) e = .ok (.d (.bool true)) e1 := by
  show (ev c a e).bind _ = _
  rw [h]
  rfl
theorem ev_or_f {c : Ctx} {a b : ME} {e e1 : Env} (h : ev c a e = .ok (.d (.bool false)) e1) : ev c (.or a b) e = ev c b e1 := by
  show (ev c a e).bind _ = _
  rw [h]
  rfl
theorem ev_and_f {c : Ctx} {a b : ME} {e e1 : Env} (h : ev c a e = .ok (.d (.bool false)) e1) : ev c (.and a b) e = .ok (.d (.bool false)) e1 := by
  show (ev c a e).bind _ = _
  rw [h]
  rfl
theorem ev_and_t {c : Ctx} {a b : ME} {e e1 : Env} (h : ev c a e = .ok (.d (.bool true)) e1) : ev c (.and a b) e = ev c b e1 := by
  show (ev c a e).bind _ = _
  rw [h]
  rfl
theorem ev_not {c : Ctx} {a : ME} {e e1 : Env} {k : Bool} (h : ev c a e = .ok (.d (.bool k)) e1) : ev c (.not a) e = .ok (.d (.bool (!k))) e1 := by
  show (ev c a e).bind _ = _
  rw [h]
  rfl
theorem ex_if {c : Ctx} {t : ME} {a b : List MS} {e e1 : Env} {k : Bool} (h : ev c t e = .ok (.d (.bool k)) e1) : ex c (.ite t a b) e = if k then exs c a e1 else exs c b e1 := by
  show (ev c t e).bind _ = _
  rw [h]
  cases k <;> rfl
theorem ex_set {c : Ctx} {i : Nat} {a : ME} {v : Val} {v' : Val} {e e1 e2 : Env} (h : ev c a e = .ok v e1) (hs : stow e1 v = some (v', e2)) (hp : c.pr[i]? ≠ some true) (hl : i < e2.length) : ex c (.set (.nm i) a) e = .ok .nx (e2.set i (some v')) := by
  show (ev c a e).bind _ = _
  rw [h]
  show (match stow e1 v with
    | some (v', e2) => match asg c (.nm i) v' e2 with
      | some e3 => Res.ok Flow.nx e3
      | none => Res.no
    | none => Res.no) = _
  rw [hs]
  show (match setSl c e2 i v' with
      | some e3 => Res.ok Flow.nx e3
      | none => Res.no) = _
  unfold setSl
  rw [if_neg (fun z => z.elim hp (by omega))]
/-- one statement, then the rest -/
theorem exs_nx {c : Ctx} {a : MS} {r : List MS} {e e1 : Env} (h : ex c a e = .ok .nx e1) : exs c (a :: r) e = exs c r e1 := by
  show (ex c a e).bind _ = _
  rw [h]
  rfl
theorem exs_ret {c : Ctx} {a : MS} {r : List MS} {e e1 : Env} {v : Val} (h : ex c a e = .ok (.ret v) e1) : exs c (a :: r) e = .ok (.ret v) e1 := by
  show (ex c a e).bind _ = _
  rw [h]
  rfl
theorem exs_ex {c : Ctx} {a : MS} {r : List MS} {e e1 : Env} {x : Ex} (h : ex c a e = .ex x e1) : exs c (a :: r) e = .ex x e1 := by
  show (ex c a e).bind _ = _
  rw [h]
  rfl
theorem boolsD_map {α : Type} (f : α → Bool) (xs : List α) : boolsD (xs.map fun x => PyData.bool (f x)) = some (xs.map f) := by
  induction xs with
  | nil => rfl
  | cons x r ih => simp [boolsD, ih]
theorem lineN_eq : lineN = 16777216 := by unfold lineN; exact PySem.sizeLine_eq
end PM
end

section
set_option Elab.async false
set_option linter.all false
set_option maxRecDepth 100000
set_option maxHeartbeats 2000000
/-! PMGo: the machine run step by step, over a list of what is still to be done. -/
namespace PM
open PySem
theorem Res.bind_assoc {α β γ : Type} (r : Res α) (f : α → Env → Res β) (g : β → Env → Res γ) : (r.bind f).bind g = r.bind fun a e => (f a e).bind g := by
  cases r <;> rfl
inductive It where
  | E (a : ME)
  | S (s : MS)
  | B (l : List MS)
  | bin (op : Operator)
  | neg
  | cmp (op : CmpOp)
  | isN (ng : Bool)
  | isB (ng k : Bool)
  | ch1 (op op' : CmpOp) (d : ME)
  | ch2 (op' : CmpOp)
  | andI (b : ME)
  | orI (b : ME)
  | notI
  | iteI (a b : ME)
  | tupI (n : Nat)
  | lstI (n : Nat)
  | dicI (n : Nat)
  | idxI
  | sliI (lo hi : Bool)
  | intI
  | slsI (lo hi : Bool)
  | callI (f n : Nat)
  | biI (b : Bi) (n : Nat)
  | mtA (m : Mt) (es : List ME)
  | mtI (m : Mt) (t : Str) (n : Nat)
  | muI (m : Mu) (i n : Nat)
  | tabI (op : TOp) (kvs : List (Str × D)) (n : Nat)
  | dgA
  | dgI
  | dg2I
  | updI (i : Nat)
  | isiI (ts : List Ty)
  | fldI (f : Str)
  | lcI (elt : ME) (t : Tgt) (cs : List ME) (own : List Nat)
  | lcR (elt : ME) (t : Tgt) (cs : List ME) (own : List Nat)
  | lcR2 (elt : ME) (t : Tgt) (cs : List ME) (own : List Nat)
  | lcN (elt : ME) (t : Tgt) (cs : List ME) (own : List Nat)
  | lcZ (elt : ME) (t : Tgt) (cs : List ME) (own : List Nat)
  | drop
  | retI
  | setI (t : Tgt)
  | parI (is : List Nat) (n : Nat)
  | augI (i : Nat) (op : Operator) (x : D)
  | sixA (i : Nat) (k : ME)
  | sixB (i : Nat) (x : D)
  | ifI (a b : List MS)
  | forI (t : Tgt) (body : List MS)
  | forR (t : Tgt) (body : List MS)
  | forR2 (t : Tgt) (body : List MS)
  | forN (t : Tgt) (body : List MS)
  | forZ (t : Tgt) (body : List MS)
  | raiseI (x : Str) (n : Nat)
  | stop
  | lcQ (elt : ME)
/-- the first n of a stack, the deepest first -/
def popN (n : Nat) (st : List Val) : List Val × List Val := ((st.take n).reverse, st.drop n)
abbrev KT := List Val → Env → Res Flow
def push (st : List Val) (k : KT) : Val → Env → Res Flow := fun v e => k (v :: st) e
def flow (st : List Val) (k : KT) : Flow → Env → Res Flow
  | .nx, e => k st e
  | fl, e => .ok fl e
def walkEnum (e : Env) (v : Val) : Option (List D × Env) := (walkL e v).map fun p => (enumV 0 p.1, p.2)
def walkZip (e : Env) (v u : Val) : Option (List D × Env) := match takes e [v, u] with
  | some ([.list xs, .list ys], e3) => some (zipV xs ys, e3)
  | some ([.tuple xs, .tuple ys], e3) => some (zipV xs ys, e3)
  | _ => none
def walkR (e : Env) (v : Val) : Option (List D × Env) := match v with
  | Val.d (.int j) => if -(2 ^ 62) ≤ j ∧ j < 2 ^ 62 then some (rangeV 0 j.toNat, e) else none
  | _ => none
def walkR2 (e : Env) (v u : Val) : Option (List D × Env) := match v, u with
  | Val.d (.int i), Val.d (.int j) => if -(2 ^ 62) ≤ i ∧ i < 2 ^ 62 ∧ -(2 ^ 62) ≤ j ∧ j < 2 ^ 62 then some (rangeV i (j - i).toNat, e) else none
  | _, _ => none
def loopF (c : Ctx) (t : Tgt) (body : List MS) (x : D) (e : Env) : Res Flow := match asg c t (Val.d x) e with
  | some e3 => exs c body e3
  | none => .no
def doFor (c : Ctx) (t : Tgt) (body : List MS) (o : Option (List D × Env)) : Res Flow := match o with
  | some (xs, e1) => forL (loopF c t body) xs e1
  | none => .no
def doLc (c : Ctx) (elt : ME) (t : Tgt) (cs : List ME) (own : List Nat) (o : Option (List D × Env)) : Res Val := match o with
  | some (xs, e1) => if own.all (lcFree c e1) = true then
      (noEx (lcLoop (lcStep c elt t cs own) xs [] (wipeE e1 own))).bind fun ys e2 => .ok (.ol (ys.map Val.d)) (backE e1 e2 own)
    else .no
  | none => .no
def actN (n : Nat) (f : List Val → Env → Res Val) (st : List Val) (e : Env) (k : KT) : Res Flow := (f (popN n st).1 e).bind (push (popN n st).2 k)
def tupF (vs : List Val) (e : Env) : Res Val := match takes e vs with
  | some (ds, e2) => if ds.length ≤ lineN then .ok (Val.d (.tuple ds)) e2 else .no
  | none => .no
def lstF (vs : List Val) (e : Env) : Res Val := match takes e vs with
  | some (ds, e2) => if ds.length ≤ lineN then .ok (.ol (ds.map Val.d)) e2 else .no
  | none => .no
def dicF (vs : List Val) (e : Env) : Res Val := match takes e vs with
  | some (ds, e2) => match twosK ds with
    | some kvs => if kvs.length ≤ 15 then .ok (.od (liftK (mergeD [] kvs))) e2 else .no
    | none => .no
  | none => .no
def biF (b : Bi) (vs : List Val) (e : Env) : Res Val := match sees e vs with
  | some ds => opt (biD b ds) e
  | none => .no
def mtF (m : Mt) (t : Str) (vs : List Val) (e : Env) : Res Val := match sees e vs with
  | some ds => opt (mtD m (.str t) ds) e
  | none => .no
def muF (m : Mu) (i : Nat) (vs : List Val) (e : Env) : Res Val := match takes e vs with
  | some (ds, e2) => match getS e2 i with
    | some o => match muV m o ds with
      | some (r, o') => .ok r (e2.set i (some o'))
      | none => .no
    | none => .no
  | none => .no
def tabF (op : TOp) (kvs : List (Str × D)) (vs : List Val) (e : Env) : Res Val := match takes e vs with
  | some (ds, e2) => opt ((tabD op kvs ds).map Val.d) e2
  | none => .no
def act (c : Ctx) : It → List Val → Env → KT → Res Flow
  | .E a, st, e, k => (ev c a e).bind (push st k)
  | .S s, st, e, k => (ex c s e).bind (flow st k)
  | .B l, st, e, k => (exs c l e).bind (flow st k)
  | .bin op, vb :: va :: st, e, k => (match see e va, see e vb with
    | some x, some y => opt (binD op x y) e
    | _, _ => .no).bind (push st k)
  | .neg, v :: st, e, k => (match v with
    | Val.d (.int i) => .ok (Val.d (.int (-i))) e
    | _ => .no : Res Val).bind (push st k)
  | .cmp op, vb :: va :: st, e, k => (match see e va, see e vb with
    | some x, some y => opt ((cmpD op x y).map fun k => Val.d (.bool k)) e
    | _, _ => .no).bind (push st k)
  | .isN ng, v :: st, e, k => (opt ((nonV e v).map fun k => Val.d (.bool (if ng then !k else k))) e).bind (push st k)
  | .isB ng kk, v :: st, e, k => (opt ((truV v).map fun x => Val.d (.bool (if ng then !decide (x = kk) else decide (x = kk)))) e).bind (push st k)
  | .ch1 op op' d, vb :: va :: st, e, k => (match see e va, see e vb with
    | some x, some y => match cmpD op x y with
      | some true => (ev c d e).bind fun vd e3 => match see e3 vb, see e3 vd with
        | some y', some z => opt ((cmpD op' y' z).map fun k => Val.d (.bool k)) e3
        | _, _ => .no
      | some false => .ok (Val.d (.bool false)) e
      | none => .no
    | _, _ => .no).bind (push st k)
  | .ch2 op', vd :: vb :: st, e, k => (match see e vb, see e vd with
    | some y, some z => opt ((cmpD op' y z).map fun k => Val.d (.bool k)) e
    | _, _ => .no).bind (push st k)
  | .andI b, v :: st, e, k => (match v with
    | Val.d (.bool true) => ev c b e
    | Val.d (.bool false) => .ok (Val.d (.bool false)) e
    | _ => .no).bind (push st k)
  | .orI b, v :: st, e, k => (match v with
    | Val.d (.bool false) => ev c b e
    | Val.d (.bool true) => .ok (Val.d (.bool true)) e
    | _ => .no).bind (push st k)
  | .notI, v :: st, e, k => (match v with
    | Val.d (.bool k) => .ok (Val.d (.bool (!k))) e
    | _ => .no : Res Val).bind (push st k)
  | .iteI a b, v :: st, e, k => (match (see e v).bind truD with
    | some true => ev c a e
    | some false => ev c b e
    | none => .no).bind (push st k)
  | .tupI n, st, e, k => actN n tupF st e k
  | .lstI n, st, e, k => actN n lstF st e k
  | .dicI n, st, e, k => actN n dicF st e k
  | .idxI, vi :: va :: st, e, k => (match see e va, see e vi with
    | some x, some k => opt ((idxD x k).map Val.d) e
    | _, _ => .no : Res Val).bind (push st k)
  | .sliI lo hi, st, e, k => match lo, hi, st with
    | false, false, va :: st => (match see e va with
      | some x => opt (sliD x none none) e
      | none => .no).bind (push st k)
    | true, false, Val.d (.int l) :: va :: st => (match see e va with
      | some x => opt (sliD x (some l) none) e
      | none => .no).bind (push st k)
    | false, true, Val.d (.int h) :: va :: st => (match see e va with
      | some x => opt (sliD x none (some h)) e
      | none => .no).bind (push st k)
    | true, true, Val.d (.int h) :: Val.d (.int l) :: va :: st => (match see e va with
      | some x => opt (sliD x (some l) (some h)) e
      | none => .no).bind (push st k)
    | _, _, _ => .no
  | .intI, v :: st, e, k => (match v with
    | Val.d (.int i) => .ok (Val.d (.int i)) e
    | _ => .no : Res Val).bind (push st k)
  | .slsI lo hi, st, e, k => match lo, hi, st with
    | false, false, Val.d (.int j) :: va :: st => (match see e va with
      | some x => opt (slisD x none none j) e
      | none => .no).bind (push st k)
    | true, false, Val.d (.int j) :: Val.d (.int l) :: va :: st => (match see e va with
      | some x => opt (slisD x (some l) none j) e
      | none => .no).bind (push st k)
    | true, true, Val.d (.int j) :: Val.d (.int h) :: Val.d (.int l) :: va :: st => (match see e va with
      | some x => opt (slisD x (some l) (some h) j) e
      | none => .no).bind (push st k)
    | _, _, _ => .no
  | .callI f n, st, e, k => actN n (runCall c f) st e k
  | .biI b n, st, e, k => actN n (biF b) st e k
  | .mtA m es, vo :: st, e, k => (match vo with
    | Val.d (.str t) => (evs c es e).bind (mtF m t)
    | _ => .no).bind (push st k)
  | .mtI m t n, st, e, k => actN n (mtF m t) st e k
  | .muI m i n, st, e, k => actN n (muF m i) st e k
  | .tabI op kvs n, st, e, k => actN n (tabF op kvs) st e k
  | .dgA, vo :: st, e, k => if ((see e vo).map isDicD) = some true then k (vo :: st) e else .no
  | .dgI, vk :: vo :: st, e, k => (match see e vo, see e vk with
      | some x, some y => opt ((getD2 x y .none).map Val.d) e
      | _, _ => .no : Res Val).bind (push st k)
  | .dg2I, vz :: vk :: vo :: st, e, k => (match take e vz with
      | some (d, e4) => match see e4 vo, see e4 vk with
        | some x, some y => opt ((getD2 x y d).map Val.d) e4
        | _, _ => .no
      | none => .no : Res Val).bind (push st k)
  | .updI i, v :: st, e, k => (match take e v with
        | some (x, e2) => match getS e2 i with
          | some o => match updV o x with
            | some o' => .ok (Val.d .none) (e2.set i (some o'))
            | none => .no
          | none => .no
        | none => .no : Res Val).bind (push st k)
  | .isiI ts, v :: st, e, k => (opt ((isiV c e v ts).map fun k => Val.d (.bool k)) e).bind (push st k)
  | .fldI f, v :: st, e, k => (match v with
    | .ex _ fs => opt ((fs.lookup f).map Val.d) e
    | _ => .no : Res Val).bind (push st k)
  | .lcI elt t cs own, v :: st, e, k => (doLc c elt t cs own (walkV e v)).bind (push st k)
  | .lcR elt t cs own, v :: st, e, k => (doLc c elt t cs own (walkR e v)).bind (push st k)
  | .lcR2 elt t cs own, u :: v :: st, e, k => (doLc c elt t cs own (walkR2 e v u)).bind (push st k)
  | .lcN elt t cs own, v :: st, e, k => (doLc c elt t cs own (walkEnum e v)).bind (push st k)
  | .lcZ elt t cs own, u :: v :: st, e, k => (doLc c elt t cs own (walkZip e v u)).bind (push st k)
  | .drop, _ :: st, e, k => k st e
  | .retI, v :: _, e, _ => match handOut c e v with
    | some (v', e2) => .ok (.ret v') e2
    | none => .no
  | .setI t, v :: st, e, k => match stow e v with
    | some (v', e2) => match asg c t v' e2 with
      | some e3 => k st e3
      | none => .no
    | none => .no
  | .parI is n, st, e, k => match stowAll e (popN n st).1 with
    | some (vs', e2) => match setAll c is vs' e2 with
      | some e3 => k (popN n st).2 e3
      | none => .no
    | none => .no
  | .augI i op x, v :: st, e, k => match see e v with
      | some y => match augD op x y with
        | some z => match setSl c e i (Val.d z) with
          | some e2 => k st e2
          | none => .no
        | none => .no
      | none => .no
  | .sixA i kk, v :: st, e, k => match take e v with
    | some (x, e2) => if isOl (getS e2 i) = true then (ev c kk e2).bind fun vk e3 => match see e3 vk, getS e3 i with
      | some kd, some o => match setIx o kd x with
        | some o' => k st (e3.set i (some o'))
        | none => .no
      | _, _ => .no
      else .no
    | none => .no
  | .sixB i x, vk :: st, e, k => match see e vk, getS e i with
      | some kd, some o => match setIx o kd x with
        | some o' => k st (e.set i (some o'))
        | none => .no
      | _, _ => .no
  | .ifI a b, v :: st, e, k => match (see e v).bind truD with
    | some true => (exs c a e).bind (flow st k)
    | some false => (exs c b e).bind (flow st k)
    | none => .no
  | .forI t body, v :: st, e, k => (doFor c t body (walkV e v)).bind (flow st k)
  | .forR t body, v :: st, e, k => (doFor c t body (walkR e v)).bind (flow st k)
  | .forR2 t body, u :: v :: st, e, k => (doFor c t body (walkR2 e v u)).bind (flow st k)
  | .forN t body, v :: st, e, k => (doFor c t body (walkEnum e v)).bind (flow st k)
  | .forZ t body, u :: v :: st, e, k => (doFor c t body (walkZip e v u)).bind (flow st k)
  | .raiseI x n, st, e, _ => match takes e (popN n st).1 with
    | some (ds, e2) => if ds.length ≤ lineN then .ex (excOf c x ds) e2 else .no
    | none => .no
  | .stop, v :: _, e, _ => .ok (.ret v) e
  | .lcQ elt, v :: st, e, k => match (see e v).bind truD with
    | some true => (ev c elt e).bind fun v e => .ok (.ret v) e
    | some false => .ok .ct e
    | none => .no
  | _, _, _, _ => .no
def go (c : Ctx) : List It → List Val → Env → Res Flow
  | [], _, e => .ok .nx e
  | i :: K, st, e => act c i st e (go c K)
def Es (l : List ME) (K : List It) : List It := match l with
  | [] => K
  | a :: r => .E a :: Es r K
section
variable {c : Ctx} {K : List It} {st : List Val} {e : Env}
theorem go_cons {i : It} : go c (i :: K) st e = act c i st e (go c K) := rfl
@[simp] theorem go_nil : go c [] st e = .ok .nx e := (rfl)
/-! ### expressions -/
@[simp] theorem go_c {x : D} : go c (.E (.c x) :: K) st e = go c K (Val.d x :: st) e := (rfl)
def goV (c : Ctx) (o : Option Val) (i : Nat) (K : List It) (st : List Val) (e : Env) : Res Flow := match o with
  | some (.ol _) => go c K (.pk i :: st) e
  | some (.od _) => go c K (.pk i :: st) e
  | some (.pk _) => .no
  | some v => go c K (v :: st) e
  | none => .no
@[simp] theorem go_v {i : Nat} : go c (.E (.v i) :: K) st e = goV c (getS e i) i K st e := by
  show (match getS e i with
    | some (.ol _) => .ok (.pk i) e
    | some (.od _) => .ok (.pk i) e
    | some (.pk _) => .no
    | some v => .ok v e
    | none => .no : Res Val).bind (push st (go c K)) = _
  unfold goV
  split <;> first | rfl | (rename_i h _ _ _; rw [h]; rfl) | (rename_i h; rw [h]; rfl)
@[simp] theorem goV_d {x : D} {i : Nat} : goV c (some (Val.d x)) i K st e = go c K (Val.d x :: st) e := (rfl)
@[simp] theorem goV_ol {x : List Val} {i : Nat} : goV c (some (.ol x)) i K st e = go c K (.pk i :: st) e := (rfl)
@[simp] theorem goV_od {x : List (Key × Val)} {i : Nat} : goV c (some (.od x)) i K st e = go c K (.pk i :: st) e := (rfl)
@[simp] theorem goV_ex {x : Str} {fs : List (Str × D)} {i : Nat} : goV c (some (.ex x fs)) i K st e = go c K (.ex x fs :: st) e := (rfl)
@[simp] theorem go_bin {op : Operator} {a b : ME} : go c (.E (.bin op a b) :: K) st e = go c (.E a :: .E b :: .bin op :: K) st e := by
  show ((ev c a e).bind fun va e1 => (ev c b e1).bind fun vb e2 => match see e2 va, see e2 vb with
    | some x, some y => opt (binD op x y) e2
    | _, _ => .no).bind _ = _
  rw [Res.bind_assoc]
  simp only [Res.bind_assoc]
  rfl
@[simp] theorem go_neg {a : ME} : go c (.E (.neg a) :: K) st e = go c (.E a :: .neg :: K) st e := by
  show ((ev c a e).bind _).bind _ = _
  rw [Res.bind_assoc]
  rfl
@[simp] theorem go_cmp {op : CmpOp} {a b : ME} : go c (.E (.cmp op a b) :: K) st e = go c (.E a :: .E b :: .cmp op :: K) st e := by
  show ((ev c a e).bind fun va e1 => (ev c b e1).bind fun vb e2 => _).bind _ = _
  simp only [Res.bind_assoc]
  rfl
@[simp] theorem go_isN {ng : Bool} {a : ME} : go c (.E (.isN ng a) :: K) st e = go c (.E a :: .isN ng :: K) st e := by
  show ((ev c a e).bind _).bind _ = _
  rw [Res.bind_assoc]
  rfl
@[simp] theorem go_isB {ng k : Bool} {a : ME} : go c (.E (.isB ng a k) :: K) st e = go c (.E a :: .isB ng k :: K) st e := by
  show ((ev c a e).bind _).bind _ = _
  rw [Res.bind_assoc]
  rfl
@[simp] theorem go_chain {op op' : CmpOp} {a b d : ME} : go c (.E (.chain op op' a b d) :: K) st e = go c (.E a :: .E b :: .ch1 op op' d :: K) st e := by
  show ((ev c a e).bind fun va e1 => (ev c b e1).bind fun vb e2 => _).bind _ = _
  simp only [Res.bind_assoc]
  rfl
@[simp] theorem go_and {a b : ME} : go c (.E (.and a b) :: K) st e = go c (.E a :: .andI b :: K) st e := by
  show ((ev c a e).bind _).bind _ = _
  rw [Res.bind_assoc]
  rfl
@[simp] theorem go_or {a b : ME} : go c (.E (.or a b) :: K) st e = go c (.E a :: .orI b :: K) st e := by
  show ((ev c a e).bind _).bind _ = _
  rw [Res.bind_assoc]
  rfl
@[simp] theorem go_not {a : ME} : go c (.E (.not a) :: K) st e = go c (.E a :: .notI :: K) st e := by
  show ((ev c a e).bind _).bind _ = _
  rw [Res.bind_assoc]
  rfl
@[simp] theorem go_ite {t a b : ME} : go c (.E (.ite t a b) :: K) st e = go c (.E t :: .iteI a b :: K) st e := by
  show ((ev c t e).bind _).bind _ = _
  rw [Res.bind_assoc]
  rfl
theorem evs_go {f : List Val → Env → Res Val} {i : It} {n : Nat} (hi : ∀ st e vs, vs.length = n → act c i (vs.reverse ++ st) e (go c K) = (f vs e).bind (push st (go c K))) : ∀ (l : List ME) (acc : List Val) (e : Env), acc.length + l.length = n →
    (evs c l e).bind (fun vs e1 => (f (acc ++ vs) e1).bind (push st (go c K))) = go c (Es l (i :: K)) (acc.reverse ++ st) e
  | [], acc, e, h => by
    show (f (acc ++ []) e).bind (push st (go c K)) = act c i (acc.reverse ++ st) e (go c K)
    rw [hi st e acc (by simpa using h), List.append_nil]
  | a :: r, acc, e, h => by
    have ih := fun v e1 => evs_go (f := f) (i := i) (n := n) hi r (acc ++ [v]) e1 (by simp at h ⊢; omega)
    show ((ev c a e).bind fun v e1 => (evs c r e1).bind fun vs e2 => .ok (v :: vs) e2).bind _ = (ev c a e).bind fun v e1 => go c (Es r (i :: K)) (v :: (acc.reverse ++ st)) e1
    rw [Res.bind_assoc]
    congr 1
    funext v e1
    rw [Res.bind_assoc]
    have := ih v e1
    rw [List.reverse_append] at this
    rw [show v :: (acc.reverse ++ st) = [v].reverse ++ acc.reverse ++ st from rfl, ← this]
    congr 1
    funext vs e2
    show (f (acc ++ v :: vs) e2).bind _ = _
    rw [List.append_assoc]
    rfl
theorem popN_rev {n : Nat} {vs st : List Val} (h : vs.length = n) : popN n (vs.reverse ++ st) = (vs, st) := by
  subst h
  unfold popN
  rw [List.take_left' (by simp), List.drop_left' (by simp), List.reverse_reverse]
theorem actN_rev {n : Nat} {f : List Val → Env → Res Val} {vs st : List Val} {e : Env} {k : KT} (h : vs.length = n) : actN n f (vs.reverse ++ st) e k = (f vs e).bind (push st k) := by
  unfold actN
  rw [popN_rev h]
@[simp] theorem go_tup {es : List ME} : go c (.E (.tup es) :: K) st e = go c (Es es (.tupI es.length :: K)) st e := by
  have := evs_go (c := c) (K := K) (st := st) (i := .tupI es.length) (n := es.length) (f := tupF) (fun st e vs h => actN_rev h) es [] e (by simp)
  refine Eq.trans ?_ this
  show ((evs c es e).bind _).bind _ = _
  rw [Res.bind_assoc]
  rfl
@[simp] theorem go_lst {es : List ME} : go c (.E (.lst es) :: K) st e = go c (Es es (.lstI es.length :: K)) st e := by
  have := evs_go (c := c) (K := K) (st := st) (i := .lstI es.length) (n := es.length) (f := lstF) (fun st e vs h => actN_rev h) es [] e (by simp)
  refine Eq.trans ?_ this
  show ((evs c es e).bind _).bind _ = _
  rw [Res.bind_assoc]
  rfl
@[simp] theorem go_dic {es : List ME} : go c (.E (.dic es) :: K) st e = go c (Es es (.dicI es.length :: K)) st e := by
  have := evs_go (c := c) (K := K) (st := st) (i := .dicI es.length) (n := es.length) (f := dicF) (fun st e vs h => actN_rev h) es [] e (by simp)
  refine Eq.trans ?_ this
  show ((evs c es e).bind _).bind _ = _
  rw [Res.bind_assoc]
  rfl
@[simp] theorem go_idx {a b : ME} : go c (.E (.idx a b) :: K) st e = go c (.E a :: .E b :: .idxI :: K) st e := by
  show ((ev c a e).bind fun va e1 => (ev c b e1).bind fun vb e2 => _).bind _ = _
  simp only [Res.bind_assoc]
  rfl
@[simp] theorem go_call {f : Nat} {es : List ME} : go c (.E (.call f es) :: K) st e = go c (Es es (.callI f es.length :: K)) st e := by
  have := evs_go (c := c) (K := K) (st := st) (i := .callI f es.length) (n := es.length) (f := runCall c f) (fun st e vs h => actN_rev h) es [] e (by simp)
  refine Eq.trans ?_ this
  show ((evs c es e).bind _).bind _ = _
  rw [Res.bind_assoc]
  rfl
@[simp] theorem go_bi {b : Bi} {es : List ME} : go c (.E (.bi b es) :: K) st e = go c (Es es (.biI b es.length :: K)) st e := by
  have := evs_go (c := c) (K := K) (st := st) (i := .biI b es.length) (n := es.length) (f := biF b) (fun st e vs h => actN_rev h) es [] e (by simp)
  refine Eq.trans ?_ this
  show ((evs c es e).bind _).bind _ = _
  rw [Res.bind_assoc]
  rfl
@[simp] theorem go_tab {op : TOp} {kvs : List (Str × D)} {es : List ME} : go c (.E (.tab op kvs es) :: K) st e = go c (Es es (.tabI op kvs es.length :: K)) st e := by
  have := evs_go (c := c) (K := K) (st := st) (i := .tabI op kvs es.length) (n := es.length) (f := tabF op kvs) (fun st e vs h => actN_rev h) es [] e (by simp)
  refine Eq.trans ?_ this
  show ((evs c es e).bind _).bind _ = _
  rw [Res.bind_assoc]
  rfl
@[simp] theorem go_mt {m : Mt} {o : ME} {es : List ME} : go c (.E (.mt m o es) :: K) st e = go c (.E o :: .mtA m es :: K) st e := by
  show ((ev c o e).bind _).bind _ = _
  rw [Res.bind_assoc]
  rfl
@[simp] theorem go_mtA {m : Mt} {t : Str} {es : List ME} : go c (.mtA m es :: K) (Val.d (.str t) :: st) e = go c (Es es (.mtI m t es.length :: K)) st e :=
  evs_go (c := c) (K := K) (st := st) (i := .mtI m t es.length) (n := es.length) (f := mtF m t) (fun st e vs h => actN_rev h) es [] e (by simp) ▸ (Res.bind_assoc ..)
theorem go_mu {m : Mu} {i : Nat} {es : List ME} (h : isOl (getS e i) = true) : go c (.E (.mu m i es) :: K) st e = go c (Es es (.muI m i es.length :: K)) st e := by
  have := evs_go (c := c) (K := K) (st := st) (i := .muI m i es.length) (n := es.length) (f := muF m i) (fun st e vs h => actN_rev h) es [] e (by simp)
  refine Eq.trans ?_ this
  show (if isOl (getS e i) = true then (evs c es e).bind (muF m i) else Res.no).bind _ = _
  rw [if_pos h, Res.bind_assoc]
  rfl
@[simp] theorem go_dget {o k : ME} : go c (.E (.dget o k) :: K) st e = go c (.E o :: .dgA :: .E k :: .dgI :: K) st e := by
  show ((ev c o e).bind fun vo e1 => if ((see e1 vo).map isDicD) = some true then (ev c k e1).bind fun vk e2 => _ else .no).bind _ = (ev c o e).bind fun v e1 => if ((see e1 v).map isDicD) = some true then (ev c k e1).bind fun vk e2 => _ else .no
  rw [Res.bind_assoc]
  congr 1
  funext vo e1
  split
  · rw [Res.bind_assoc]; rfl
  · rfl
@[simp] theorem go_dget2 {o k z : ME} : go c (.E (.dget2 o k z) :: K) st e = go c (.E o :: .dgA :: .E k :: .E z :: .dg2I :: K) st e := by
  show ((ev c o e).bind fun vo e1 => if ((see e1 vo).map isDicD) = some true then (ev c k e1).bind fun vk e2 => (ev c z e2).bind fun vz e3 => _ else .no).bind _ = (ev c o e).bind fun v e1 => if ((see e1 v).map isDicD) = some true then (ev c k e1).bind fun vk e2 => (ev c z e2).bind fun vz e3 => _ else .no
  rw [Res.bind_assoc]
  congr 1
  funext vo e1
  split
  · simp only [Res.bind_assoc]; rfl
  · rfl
theorem go_upd {i : Nat} {a : ME} (h : isOd (getS e i) = true) : go c (.E (.upd i a) :: K) st e = go c (.E a :: .updI i :: K) st e := by
  show Res.bind (if isOd (getS e i) = true then _ else _) _ = _
  rw [if_pos h, Res.bind_assoc]
  rfl
@[simp] theorem go_isi {a : ME} {ts : List Ty} : go c (.E (.isi a ts) :: K) st e = go c (.E a :: .isiI ts :: K) st e := by
  show ((ev c a e).bind _).bind _ = _
  rw [Res.bind_assoc]
  rfl
@[simp] theorem go_fld {a : ME} {f : Str} : go c (.E (.fld a f) :: K) st e = go c (.E a :: .fldI f :: K) st e := by
  show ((ev c a e).bind _).bind _ = _
  rw [Res.bind_assoc]
  rfl
@[simp] theorem go_sli0 {a : ME} : go c (.E (.sli a none none) :: K) st e = go c (.E a :: .sliI false false :: K) st e := by
  show ((ev c a e).bind fun va e1 => (Res.ok none e1).bind fun l e2 => (Res.ok none e2).bind fun h e3 => _).bind _ = _
  simp only [Res.bind_assoc, Res.bind_ok]
  rfl
def intP (v : Val) (e : Env) : Res (Option Int) := match v with
  | Val.d (.int i) => .ok (some i) e
  | _ => .no
@[simp] theorem go_sli1 {a l : ME} : go c (.E (.sli a (some l) none) :: K) st e = go c (.E a :: .E l :: .sliI true false :: K) st e := by
  show ((ev c a e).bind fun va e1 => ((ev c l e1).bind intP).bind fun l e2 => (Res.ok none e2).bind fun h e3 => _).bind _ = (ev c a e).bind fun va e1 => (ev c l e1).bind fun vl e2 => act c (.sliI true false) (vl :: va :: st) e2 (go c K)
  simp only [Res.bind_assoc, Res.bind_ok]
  congr 1; funext va e1
  congr 1; funext vl e2
  cases vl with
  | d x => cases x <;> rfl
  | _ => rfl
@[simp] theorem go_sli2 {a h : ME} : go c (.E (.sli a none (some h)) :: K) st e = go c (.E a :: .E h :: .sliI false true :: K) st e := by
  show ((ev c a e).bind fun va e1 => (Res.ok none e1).bind fun l e2 => ((ev c h e2).bind intP).bind fun h e3 => _).bind _ = (ev c a e).bind fun va e1 => (ev c h e1).bind fun vl e2 => act c (.sliI false true) (vl :: va :: st) e2 (go c K)
  simp only [Res.bind_assoc, Res.bind_ok]
  congr 1; funext va e1
  congr 1; funext vl e2
  cases vl with
  | d x => cases x <;> rfl
  | _ => rfl
/-! ### comprehensions -/
@[simp] theorem go_lc_seq {elt a : ME} {t : Tgt} {cs : List ME} {own : List Nat} : go c (.E (.lc elt t (.seq a) cs own) :: K) st e = go c (.E a :: .lcI elt t cs own :: K) st e := by
  show (((ev c a e).bind fun v e1 => match walkV e1 v with
    | some (xs, e2) => .ok xs e2
    | none => .no).bind fun xs e1 => _).bind _ = (ev c a e).bind fun v e1 => (doLc c elt t cs own (walkV e1 v)).bind (push st (go c K))
  rw [Res.bind_assoc, Res.bind_assoc]
  congr 1; funext v e1
  cases walkV e1 v <;> rfl
@[simp] theorem go_lc_rng1 {elt a : ME} {t : Tgt} {cs : List ME} {own : List Nat} : go c (.E (.lc elt t (.rng1 a) cs own) :: K) st e = go c (.E a :: .lcR elt t cs own :: K) st e := by
  show (((ev c a e).bind fun v e1 => match v with
    | Val.d (.int j) => if -(2 ^ 62) ≤ j ∧ j < 2 ^ 62 then .ok (rangeV 0 j.toNat) e1 else .no
    | _ => .no).bind fun xs e1 => _).bind _ = (ev c a e).bind fun v e1 => (doLc c elt t cs own (walkR e1 v)).bind (push st (go c K))
  rw [Res.bind_assoc, Res.bind_assoc]
  congr 1; funext v e1
  cases v with
  | d x =>
    cases x with
    | int j =>
      show Res.bind (if _ then _ else _) _ = (doLc c elt t cs own (if _ then _ else _)).bind _
      by_cases h : -(2 ^ 62) ≤ j ∧ j < 2 ^ 62
      · rw [if_pos h, if_pos h]; rfl
      · rw [if_neg h, if_neg h]; rfl
    | _ => rfl
  | _ => rfl
@[simp] theorem go_lc_rng2 {elt a b : ME} {t : Tgt} {cs : List ME} {own : List Nat} : go c (.E (.lc elt t (.rng2 a b) cs own) :: K) st e = go c (.E a :: .E b :: .lcR2 elt t cs own :: K) st e := by
  show (((ev c a e).bind fun v e1 => (ev c b e1).bind fun u e2 => match v, u with
    | Val.d (.int i), Val.d (.int j) => if -(2 ^ 62) ≤ i ∧ i < 2 ^ 62 ∧ -(2 ^ 62) ≤ j ∧ j < 2 ^ 62 then .ok (rangeV i (j - i).toNat) e2 else .no
    | _, _ => .no).bind fun xs e1 => _).bind _ = (ev c a e).bind fun v e1 => (ev c b e1).bind fun u e2 => (doLc c elt t cs own (walkR2 e2 v u)).bind (push st (go c K))
  simp only [Res.bind_assoc]
  congr 1; funext v e1
  congr 1; funext u e2
  unfold walkR2
  split
  · rename_i i j
    by_cases h : -(2 ^ 62) ≤ i ∧ i < 2 ^ 62 ∧ -(2 ^ 62) ≤ j ∧ j < 2 ^ 62
    · simp only [if_pos h]; rfl
    · simp only [if_neg h]; rfl
  · rfl
@[simp] theorem go_lc_enum {elt a : ME} {t : Tgt} {cs : List ME} {own : List Nat} : go c (.E (.lc elt t (.enum a) cs own) :: K) st e = go c (.E a :: .lcN elt t cs own :: K) st e := by
  show (((ev c a e).bind fun v e1 => match walkL e1 v with
    | some (xs, e2) => .ok (enumV 0 xs) e2
    | none => .no).bind fun xs e1 => _).bind _ = (ev c a e).bind fun v e1 => (doLc c elt t cs own (walkEnum e1 v)).bind (push st (go c K))
  rw [Res.bind_assoc, Res.bind_assoc]
  congr 1; funext v e1
  unfold walkEnum
  cases walkL e1 v <;> rfl
@[simp] theorem go_lc_zip {elt a b : ME} {t : Tgt} {cs : List ME} {own : List Nat} : go c (.E (.lc elt t (.zip a b) cs own) :: K) st e = go c (.E a :: .E b :: .lcZ elt t cs own :: K) st e := by
  show (((ev c a e).bind fun v e1 => (ev c b e1).bind fun u e2 => match takes e2 [v, u] with
    | some ([.list xs, .list ys], e3) => .ok (zipV xs ys) e3
    | some ([.tuple xs, .tuple ys], e3) => .ok (zipV xs ys) e3
    | _ => .no).bind fun xs e1 => _).bind _ = (ev c a e).bind fun v e1 => (ev c b e1).bind fun u e2 => (doLc c elt t cs own (walkZip e2 v u)).bind (push st (go c K))
  simp only [Res.bind_assoc]
  congr 1; funext v e1
  congr 1; funext u e2
  unfold walkZip
  split <;> rfl
/-! ### statements -/
@[simp] theorem go_B0 : go c (.B [] :: K) st e = go c K st e := (rfl)
@[simp] theorem go_B1 {s : MS} {r : List MS} : go c (.B (s :: r) :: K) st e = go c (.S s :: .B r :: K) st e := by
  show ((ex c s e).bind fun fl e1 => match fl with
    | .nx => exs c r e1
    | fl => .ok fl e1).bind (flow st (go c K)) = (ex c s e).bind (flow st (go c (.B r :: K)))
  rw [Res.bind_assoc]
  congr 1; funext fl e1
  cases fl <;> rfl
@[simp] theorem go_expr {a : ME} : go c (.S (.expr a) :: K) st e = go c (.E a :: .drop :: K) st e := by
  show ((ev c a e).bind fun _ e1 => Res.ok Flow.nx e1).bind _ = _
  rw [Res.bind_assoc]
  rfl
@[simp] theorem go_ret {a : ME} : go c (.S (.ret a) :: K) st e = go c [.E a, .retI] st e := by
  show ((ev c a e).bind fun v e1 => match handOut c e1 v with
    | some (v', e2) => Res.ok (Flow.ret v') e2
    | none => .no).bind _ = (ev c a e).bind fun v e1 => match handOut c e1 v with
    | some (v', e2) => Res.ok (Flow.ret v') e2
    | none => .no
  rw [Res.bind_assoc]
  congr 1; funext v e1
  cases handOut c e1 v <;> rfl
@[simp] theorem go_retN : go c (.S .retN :: K) st e = Res.ok (Flow.ret (Val.d .none)) e := (rfl)
@[simp] theorem go_set {t : Tgt} {a : ME} : go c (.S (.set t a) :: K) st e = go c (.E a :: .setI t :: K) st e := by
  show ((ev c a e).bind fun v e1 => match stow e1 v with
    | some (v', e2) => match asg c t v' e2 with
      | some e3 => Res.ok Flow.nx e3
      | none => .no
    | none => .no).bind _ = (ev c a e).bind fun v e1 => match stow e1 v with
    | some (v', e2) => match asg c t v' e2 with
      | some e3 => go c K st e3
      | none => .no
    | none => .no
  rw [Res.bind_assoc]
  congr 1; funext v e1
  cases stow e1 v with
  | none => rfl
  | some p =>
    show Res.bind (match asg c t p.1 p.2 with
      | some e3 => Res.ok Flow.nx e3
      | none => .no) _ = (match asg c t p.1 p.2 with
      | some e3 => go c K st e3
      | none => .no)
    cases asg c t p.1 p.2 <;> rfl
theorem evs_goK {f : List Val → Env → Res Flow} {i : It} {n : Nat} (hi : ∀ st e vs, vs.length = n → act c i (vs.reverse ++ st) e (go c K) = (f vs e).bind (flow st (go c K))) : ∀ (l : List ME) (acc : List Val) (e : Env), acc.length + l.length = n →
    (evs c l e).bind (fun vs e1 => (f (acc ++ vs) e1).bind (flow st (go c K))) = go c (Es l (i :: K)) (acc.reverse ++ st) e
  | [], acc, e, h => by
    show (f (acc ++ []) e).bind (flow st (go c K)) = act c i (acc.reverse ++ st) e (go c K)
    rw [hi st e acc (by simpa using h), List.append_nil]
  | a :: r, acc, e, h => by
    have ih := fun v e1 => evs_goK (f := f) (i := i) (n := n) hi r (acc ++ [v]) e1 (by simp at h ⊢; omega)
    show ((ev c a e).bind fun v e1 => (evs c r e1).bind fun vs e2 => .ok (v :: vs) e2).bind _ = (ev c a e).bind fun v e1 => go c (Es r (i :: K)) (v :: (acc.reverse ++ st)) e1
    rw [Res.bind_assoc]
    congr 1
    funext v e1
    rw [Res.bind_assoc]
    have := ih v e1
    rw [List.reverse_append] at this
    rw [show v :: (acc.reverse ++ st) = [v].reverse ++ acc.reverse ++ st from rfl, ← this]
    congr 1
    funext vs e2
    show (f (acc ++ v :: vs) e2).bind _ = _
    rw [List.append_assoc]
    rfl
@[simp] theorem go_par {is : List Nat} {es : List ME} : go c (.S (.par is es) :: K) st e = go c (Es es (.parI is es.length :: K)) st e := by
  have := evs_goK (c := c) (K := K) (st := st) (i := .parI is es.length) (n := es.length) (f := fun vs e => match stowAll e vs with
    | some (vs', e2) => match setAll c is vs' e2 with
      | some e3 => Res.ok Flow.nx e3
      | none => .no
    | none => .no) (fun st e vs h => by
    show (match stowAll e (popN es.length (vs.reverse ++ st)).1 with
      | some (vs', e2) => match setAll c is vs' e2 with
        | some e3 => go c K (popN es.length (vs.reverse ++ st)).2 e3
        | none => .no
      | none => .no) = _
    rw [popN_rev h]
    dsimp only
    cases stowAll e vs with
    | none => rfl
    | some p =>
      dsimp only
      cases setAll c is p.1 p.2 <;> rfl) es [] e (by simp)
  refine Eq.trans ?_ this
  show ((evs c es e).bind _).bind _ = _
  rw [Res.bind_assoc]
  rfl
def goAug (c : Ctx) (o : Option Val) (i : Nat) (op : Operator) (a : ME) (K : List It) (st : List Val) (e : Env) : Res Flow := match o with
  | some (Val.d x) => go c (.E a :: .augI i op x :: K) st e
  | _ => .no
@[simp] theorem goAug_d {x : D} {i : Nat} {op : Operator} {a : ME} : goAug c (some (Val.d x)) i op a K st e = go c (.E a :: .augI i op x :: K) st e := (rfl)
@[simp] theorem go_aug {i : Nat} {op : Operator} {a : ME} : go c (.S (.aug i op a) :: K) st e = goAug c (getS e i) i op a K st e := by
  show Res.bind (match getS e i with
    | some (Val.d x) => (ev c a e).bind fun v e1 => match see e1 v with
      | some y => match augD op x y with
        | some z => match setSl c e1 i (Val.d z) with
          | some e2 => Res.ok Flow.nx e2
          | none => .no
        | none => .no
      | none => .no
    | _ => .no) (flow st (go c K)) = _
  unfold goAug
  split
  · rename_i x _
    rw [Res.bind_assoc]
    show _ = (ev c a e).bind fun v e1 => match see e1 v with
      | some y => match augD op x y with
        | some z => match setSl c e1 i (Val.d z) with
          | some e2 => go c K st e2
          | none => .no
        | none => .no
      | none => .no
    congr 1; funext v e1
    cases see e1 v with
    | none => rfl
    | some y =>
      dsimp only
      cases augD op x y with
      | none => rfl
      | some z =>
        dsimp only
        cases setSl c e1 i (Val.d z) <;> rfl
  · rfl
@[simp] theorem go_setix {i : Nat} {k a : ME} : go c (.S (.setix i k a) :: K) st e = go c (.E a :: .sixA i k :: K) st e := by
  show ((ev c a e).bind fun v e1 => match take e1 v with
    | some (x, e2) => if isOl (getS e2 i) = true then (ev c k e2).bind fun vk e3 => match see e3 vk, getS e3 i with
      | some kd, some o => match setIx o kd x with
        | some o' => Res.ok Flow.nx (e3.set i (some o'))
        | none => .no
      | _, _ => .no
      else .no
    | none => .no).bind _ = (ev c a e).bind fun v e1 => match take e1 v with
    | some (x, e2) => if isOl (getS e2 i) = true then (ev c k e2).bind fun vk e3 => match see e3 vk, getS e3 i with
      | some kd, some o => match setIx o kd x with
        | some o' => go c K st (e3.set i (some o'))
        | none => .no
      | _, _ => .no
      else .no
    | none => .no
  rw [Res.bind_assoc]
  congr 1; funext v e1
  cases take e1 v with
  | none => rfl
  | some p =>
    dsimp only
    by_cases h : isOl (getS p.2 i) = true
    · rw [if_pos h, if_pos h, Res.bind_assoc]
      congr 1; funext vk e3
      split
      · rename_i kd o h1 h2
        cases setIx o kd p.1 <;> rfl
      · rfl
    · rw [if_neg h, if_neg h]
      rfl
def goSix (c : Ctx) (o : Option (D × Env)) (i : Nat) (k : ME) (K : List It) (st : List Val) : Res Flow := match o with
  | some (x, e2) => if isOl (getS e2 i) = true then go c (.E k :: .sixB i x :: K) st e2 else .no
  | none => .no
@[simp] theorem goSix_some {x : D} {e2 : Env} {i : Nat} {k : ME} : goSix c (some (x, e2)) i k K st = if isOl (getS e2 i) = true then go c (.E k :: .sixB i x :: K) st e2 else .no := (rfl)
@[simp] theorem go_sixA {i : Nat} {k : ME} {v : Val} : go c (.sixA i k :: K) (v :: st) e = goSix c (take e v) i k K st := (rfl)
@[simp] theorem go_if {t : ME} {a b : List MS} : go c (.S (.ite t a b) :: K) st e = go c (.E t :: .ifI a b :: K) st e := by
  show ((ev c t e).bind fun v e1 => match (see e1 v).bind truD with
    | some true => exs c a e1
    | some false => exs c b e1
    | none => .no).bind _ = (ev c t e).bind fun v e1 => match (see e1 v).bind truD with
    | some true => (exs c a e1).bind (flow st (go c K))
    | some false => (exs c b e1).bind (flow st (go c K))
    | none => .no
  rw [Res.bind_assoc]
  congr 1; funext v e1
  split <;> rfl
theorem for_go {t : Tgt} {it : MI} {body : List MS} {r : Res (List D)} (h : evi c it e = r) : go c (.S (.for_ t it body) :: K) st e = (r.bind fun xs e1 => forL (loopF c t body) xs e1).bind (flow st (go c K)) := by
  subst h
  rfl
@[simp] theorem go_for_seq {t : Tgt} {a : ME} {body : List MS} : go c (.S (.for_ t (.seq a) body) :: K) st e = go c (.E a :: .forI t body :: K) st e := by
  rw [for_go rfl]
  show (((ev c a e).bind fun v e1 => match walkV e1 v with
    | some (xs, e2) => .ok xs e2
    | none => .no).bind fun xs e1 => _).bind _ = (ev c a e).bind fun v e1 => (doFor c t body (walkV e1 v)).bind (flow st (go c K))
  rw [Res.bind_assoc, Res.bind_assoc]
  congr 1; funext v e1
  cases walkV e1 v <;> rfl
@[simp] theorem go_for_rng1 {t : Tgt} {a : ME} {body : List MS} : go c (.S (.for_ t (.rng1 a) body) :: K) st e = go c (.E a :: .forR t body :: K) st e := by
  rw [for_go rfl]
  show (((ev c a e).bind fun v e1 => match v with
    | Val.d (.int j) => if -(2 ^ 62) ≤ j ∧ j < 2 ^ 62 then .ok (rangeV 0 j.toNat) e1 else .no
    | _ => .no).bind fun xs e1 => _).bind _ = (ev c a e).bind fun v e1 => (doFor c t body (walkR e1 v)).bind (flow st (go c K))
  rw [Res.bind_assoc, Res.bind_assoc]
  congr 1; funext v e1
  cases v with
  | d x =>
    cases x with
    | int j =>
      show Res.bind (if _ then _ else _) _ = (doFor c t body (if _ then _ else _)).bind _
      by_cases h : -(2 ^ 62) ≤ j ∧ j < 2 ^ 62
      · rw [if_pos h, if_pos h]; rfl
      · rw [if_neg h, if_neg h]; rfl
    | _ => rfl
  | _ => rfl
@[simp] theorem go_for_rng2 {t : Tgt} {a b : ME} {body : List MS} : go c (.S (.for_ t (.rng2 a b) body) :: K) st e = go c (.E a :: .E b :: .forR2 t body :: K) st e := by
  rw [for_go rfl]
  show (((ev c a e).bind fun v e1 => (ev c b e1).bind fun u e2 => match v, u with
    | Val.d (.int i), Val.d (.int j) => if -(2 ^ 62) ≤ i ∧ i < 2 ^ 62 ∧ -(2 ^ 62) ≤ j ∧ j < 2 ^ 62 then .ok (rangeV i (j - i).toNat) e2 else .no
    | _, _ => .no).bind fun xs e1 => _).bind _ = (ev c a e).bind fun v e1 => (ev c b e1).bind fun u e2 => (doFor c t body (walkR2 e2 v u)).bind (flow st (go c K))
  simp only [Res.bind_assoc]
  congr 1; funext v e1
  congr 1; funext u e2
  unfold walkR2
  split
  · rename_i i j
    by_cases h : -(2 ^ 62) ≤ i ∧ i < 2 ^ 62 ∧ -(2 ^ 62) ≤ j ∧ j < 2 ^ 62
    · simp only [if_pos h]; rfl
    · simp only [if_neg h]; rfl
  · rfl
@[simp] theorem go_for_enum {t : Tgt} {a : ME} {body : List MS} : go c (.S (.for_ t (.enum a) body) :: K) st e = go c (.E a :: .forN t body :: K) st e := by
  rw [for_go rfl]
  show (((ev c a e).bind fun v e1 => match walkL e1 v with
    | some (xs, e2) => .ok (enumV 0 xs) e2
    | none => .no).bind fun xs e1 => _).bind _ = (ev c a e).bind fun v e1 => (doFor c t body (walkEnum e1 v)).bind (flow st (go c K))
  rw [Res.bind_assoc, Res.bind_assoc]
  congr 1; funext v e1
  unfold walkEnum
  cases walkL e1 v <;> rfl
@[simp] theorem go_for_zip {t : Tgt} {a b : ME} {body : List MS} : go c (.S (.for_ t (.zip a b) body) :: K) st e = go c (.E a :: .E b :: .forZ t body :: K) st e := by
  rw [for_go rfl]
  show (((ev c a e).bind fun v e1 => (ev c b e1).bind fun u e2 => match takes e2 [v, u] with
    | some ([.list xs, .list ys], e3) => .ok (zipV xs ys) e3
    | some ([.tuple xs, .tuple ys], e3) => .ok (zipV xs ys) e3
    | _ => .no).bind fun xs e1 => _).bind _ = (ev c a e).bind fun v e1 => (ev c b e1).bind fun u e2 => (doFor c t body (walkZip e2 v u)).bind (flow st (go c K))
  simp only [Res.bind_assoc]
  congr 1; funext v e1
  congr 1; funext u e2
  unfold walkZip
  split <;> rfl
@[simp] theorem go_raise {x : Str} {es : List ME} : go c (.S (.raise x es) :: K) st e = go c (Es es (.raiseI x es.length :: K)) st e := by
  have := evs_goK (c := c) (K := K) (st := st) (i := .raiseI x es.length) (n := es.length) (f := fun vs e => match takes e vs with
    | some (ds, e2) => if ds.length ≤ lineN then Res.ex (excOf c x ds) e2 else Res.no
    | none => Res.no) (fun st e vs h => by
    show (match takes e (popN es.length (vs.reverse ++ st)).1 with
      | some (ds, e2) => if ds.length ≤ lineN then Res.ex (excOf c x ds) e2 else Res.no
      | none => Res.no) = _
    rw [popN_rev h]
    dsimp only
    cases takes e vs with
    | none => rfl
    | some p =>
      dsimp only
      split <;> rfl) es [] e (by simp)
  refine Eq.trans ?_ this
  show ((evs c es e).bind _).bind _ = _
  rw [Res.bind_assoc]
  rfl
@[simp] theorem go_pass : go c (.S .pass :: K) st e = go c K st e := (rfl)
@[simp] theorem go_brk : go c (.S .brk :: K) st e = Res.ok Flow.bk e := (rfl)
@[simp] theorem go_cont : go c (.S .cont :: K) st e = Res.ok Flow.ct e := (rfl)
/-- try: .. except x as n: y = n -/
def goTry (c : Ctx) (r : Res Flow) (x : Str) (n y : Nat) (K : List It) (st : List Val) : Res Flow := match r with
  | .ex z e1 => if c.sub z.c x then match setSl c e1 y (.ex z.c z.fs) with
      | some e2 => match setSl c e2 n (.ex z.c z.fs) with
        | some e3 => go c K st (e3.set n none)
        | none => .no
      | none => .no
    else .ex z e1
  | .ok .nx e1 => go c K st e1
  | .ok fl e1 => .ok fl e1
  | .no => .no
theorem exs_go {l : List MS} : exs c l e = go c [.B l] [] e := by
  show exs c l e = (exs c l e).bind (flow [] (go c []))
  cases exs c l e with
  | ok fl e1 => cases fl <;> rfl
  | ex _ _ => rfl
  | no => rfl
@[simp] theorem go_try {body : List MS} {x : Str} {n y : Nat} : go c (.S (.tryset body x n y) :: K) st e = goTry c (go c [.B body] [] e) x n y K st := by
  rw [← exs_go]
  show Res.bind (match exs c body e with
    | .ex z e1 => if c.sub z.c x then match setSl c e1 y (.ex z.c z.fs) with
        | some e2 => match setSl c e2 n (.ex z.c z.fs) with
          | some e3 => Res.ok Flow.nx (e3.set n none)
          | none => .no
        | none => .no
      else .ex z e1
    | r => r) (flow st (go c K)) = _
  unfold goTry
  cases exs c body e with
  | ok fl e1 => cases fl <;> rfl
  | no => rfl
  | ex z e1 =>
    dsimp only
    split
    · cases setSl c e1 y (.ex z.c z.fs) with
      | none => rfl
      | some e2 =>
        dsimp only
        cases setSl c e2 n (.ex z.c z.fs) <;> rfl
    · rfl
end
end PM
end

section
set_option Elab.async false
set_option linter.all false
set_option maxRecDepth 100000
set_option maxHeartbeats 2000000
/-! PMGo2: the steps by values. -/
namespace PM
open PySem
section
variable {c : Ctx} {K : List It} {st : List Val} {e : Env}
def goO (c : Ctx) (o : Option Val) (K : List It) (st : List Val) (e : Env) : Res Flow := match o with
  | some v => go c K (v :: st) e
  | none => .no
@[simp] theorem goO_some {v : Val} : goO c (some v) K st e = go c K (v :: st) e := (rfl)
@[simp] theorem goO_none : goO c none K st e = .no := (rfl)
def goB (c : Ctx) (o : Option Bool) (K : List It) (st : List Val) (e : Env) : Res Flow := match o with
  | some b => go c K (Val.d (.bool b) :: st) e
  | none => .no
@[simp] theorem goB_some {v : Bool} : goB c (some v) K st e = go c K (Val.d (.bool v) :: st) e := (rfl)
@[simp] theorem goB_none : goB c none K st e = .no := (rfl)
def goT (c : Ctx) (o : Option Bool) (K K' : List It) (st : List Val) (e : Env) : Res Flow := match o with
  | some b => if b = true then go c K st e else go c K' st e
  | none => .no
@[simp] theorem goT_some {v : Bool} {K' : List It} : goT c (some v) K K' st e = if v = true then go c K st e else go c K' st e := (rfl)
@[simp] theorem goT_none {K' : List It} : goT c none K K' st e = .no := (rfl)
def goR (c : Ctx) (r : Res Val) (K : List It) (st : List Val) : Res Flow := match r with
  | .ok v e => go c K (v :: st) e
  | .ex x e => .ex x e
  | .no => .no
@[simp] theorem goR_ok {v : Val} {e1 : Env} : goR c (.ok v e1) K st = go c K (v :: st) e1 := (rfl)
@[simp] theorem goR_ex {x : Ex} {e1 : Env} : goR c (.ex x e1) K st = .ex x e1 := (rfl)
@[simp] theorem goR_no : goR c .no K st = .no := (rfl)
def goF (c : Ctx) (r : Res Flow) (K : List It) (st : List Val) : Res Flow := match r with
  | .ok .nx e => go c K st e
  | .ok fl e => .ok fl e
  | .ex x e => .ex x e
  | .no => .no
@[simp] theorem goF_nx {e1 : Env} : goF c (.ok .nx e1) K st = go c K st e1 := (rfl)
@[simp] theorem goF_ret {v : Val} {e1 : Env} : goF c (.ok (.ret v) e1) K st = .ok (.ret v) e1 := (rfl)
@[simp] theorem goF_ex {x : Ex} {e1 : Env} : goF c (.ex x e1) K st = .ex x e1 := (rfl)
@[simp] theorem goF_no : goF c .no K st = .no := (rfl)
theorem goR_eq (r : Res Val) : r.bind (push st (go c K)) = goR c r K st := by cases r <;> rfl
theorem goF_eq (r : Res Flow) : r.bind (flow st (go c K)) = goF c r K st := by
  cases r with
  | ok fl e => cases fl <;> rfl
  | _ => rfl
theorem goO_eq {o : Option Val} : goR c (opt o e) K st = goO c o K st e := by cases o <;> rfl
def goE (c : Ctx) (o : Option Env) (K : List It) (st : List Val) : Res Flow := match o with
  | some e => go c K st e
  | none => .no
@[simp] theorem goE_some {e1 : Env} : goE c (some e1) K st = go c K st e1 := (rfl)
@[simp] theorem goE_none : goE c none K st = .no := (rfl)
/-- two values seen -/
def see2 (e : Env) (va vb : Val) (f : D → D → Option Val) : Option Val := match see e va, see e vb with
  | some x, some y => f x y
  | _, _ => none
@[simp] theorem see2_dd {x y : D} {f : D → D → Option Val} : see2 e (Val.d x) (Val.d y) f = f x y := (rfl)
theorem see2_of {va vb : Val} {x y : D} {f : D → D → Option Val} (h1 : see e va = some x) (h2 : see e vb = some y) : see2 e va vb f = f x y := by
  unfold see2
  rw [h1, h2]
theorem see2_eq {va vb : Val} {f : D → D → Option Val} : goR c (match see e va, see e vb with
    | some x, some y => opt (f x y) e
    | _, _ => .no) K st = goO c (see2 e va vb f) K st e := by
  unfold see2
  split
  · rw [goO_eq]
  · rfl
@[simp] theorem go_bin2 {op : Operator} {va vb : Val} : go c (.bin op :: K) (vb :: va :: st) e = goO c (see2 e va vb (binD op)) K st e := by
  rw [← see2_eq, ← goR_eq]
  rfl
@[simp] theorem go_neg2 {i : Int} : go c (.neg :: K) (Val.d (.int i) :: st) e = go c K (Val.d (.int (-i)) :: st) e := (rfl)
def bD (o : Option Bool) : Option Val := o.map fun k => Val.d (.bool k)
@[simp] theorem bD_some {b : Bool} : bD (some b) = some (Val.d (.bool b)) := (rfl)
@[simp] theorem go_cmp2 {op : CmpOp} {va vb : Val} : go c (.cmp op :: K) (vb :: va :: st) e = goO c (see2 e va vb fun x y => bD (cmpD op x y)) K st e := by
  rw [← see2_eq, ← goR_eq]
  rfl
@[simp] theorem go_isN2 {ng : Bool} {v : Val} : go c (.isN ng :: K) (v :: st) e = goB c ((nonV e v).map fun k => if ng then !k else k) K st e := by
  show (opt ((nonV e v).map fun k => Val.d (.bool (if ng then !k else k))) e).bind _ = _
  cases nonV e v <;> rfl
@[simp] theorem go_isB2 {ng kk b : Bool} : go c (.isB ng kk :: K) (Val.d (.bool b) :: st) e = go c K (Val.d (.bool (if ng then !decide (b = kk) else decide (b = kk))) :: st) e := (rfl)
def see2B (e : Env) (va vb : Val) (f : D → D → Option Bool) : Option Bool := match see e va, see e vb with
  | some x, some y => f x y
  | _, _ => none
@[simp] theorem see2B_dd {x y : D} {f : D → D → Option Bool} : see2B e (Val.d x) (Val.d y) f = f x y := (rfl)
@[simp] theorem go_ch1 {op op' : CmpOp} {d : ME} {va vb : Val} : go c (.ch1 op op' d :: K) (vb :: va :: st) e = goT c (see2B e va vb (cmpD op)) (.E d :: .ch2 op' :: K) (.drop :: .E (.c (.bool false)) :: K) (vb :: st) e := by
  show (match see e va, see e vb with
    | some x, some y => match cmpD op x y with
      | some true => (ev c d e).bind fun vd e3 => match see e3 vb, see e3 vd with
        | some y', some z => opt ((cmpD op' y' z).map fun k => Val.d (.bool k)) e3
        | _, _ => .no
      | some false => .ok (Val.d (.bool false)) e
      | none => .no
    | _, _ => .no : Res Val).bind (push st (go c K)) = _
  unfold see2B
  cases see e va with
  | none => rfl
  | some x =>
    cases see e vb with
    | none => rfl
    | some y =>
      dsimp only
      cases cmpD op x y with
      | none => rfl
      | some b =>
        cases b with
        | false => rfl
        | true =>
          show ((ev c d e).bind fun vd e3 => match see e3 vb, see e3 vd with
            | some y', some z => opt ((cmpD op' y' z).map fun k => Val.d (.bool k)) e3
            | _, _ => .no).bind _ = (ev c d e).bind fun vd e3 => act c (.ch2 op') (vd :: vb :: st) e3 (go c K)
          rw [Res.bind_assoc]
          rfl
@[simp] theorem go_ch2 {op' : CmpOp} {vd vb : Val} : go c (.ch2 op' :: K) (vd :: vb :: st) e = goO c (see2 e vb vd fun x y => bD (cmpD op' x y)) K st e := by
  rw [← see2_eq, ← goR_eq]
  rfl
@[simp] theorem go_and2 {b : ME} {p : Bool} : go c (.andI b :: K) (Val.d (.bool p) :: st) e = if p = true then go c (.E b :: K) st e else go c K (Val.d (.bool false) :: st) e := by
  cases p <;> rfl
@[simp] theorem go_or2 {b : ME} {p : Bool} : go c (.orI b :: K) (Val.d (.bool p) :: st) e = if p = true then go c K (Val.d (.bool true) :: st) e else go c (.E b :: K) st e := by
  cases p <;> rfl
@[simp] theorem go_not2 {p : Bool} : go c (.notI :: K) (Val.d (.bool p) :: st) e = go c K (Val.d (.bool (!p)) :: st) e := (rfl)
@[simp] theorem go_ite2 {a b : ME} {v : Val} : go c (.iteI a b :: K) (v :: st) e = goT c ((see e v).bind truD) (.E a :: K) (.E b :: K) st e := by
  show (match (see e v).bind truD with
    | some true => ev c a e
    | some false => ev c b e
    | none => .no).bind (push st (go c K)) = _
  cases (see e v).bind truD with
  | none => rfl
  | some p => cases p <;> rfl
@[simp] theorem go_if2 {a b : List MS} {v : Val} : go c (.ifI a b :: K) (v :: st) e = goT c ((see e v).bind truD) (.B a :: K) (.B b :: K) st e := by
  show (match (see e v).bind truD with
    | some true => (exs c a e).bind (flow st (go c K))
    | some false => (exs c b e).bind (flow st (go c K))
    | none => .no) = _
  cases (see e v).bind truD with
  | none => rfl
  | some p => cases p <;> rfl
@[simp] theorem go_tup2 {n : Nat} : go c (.tupI n :: K) st e = goR c (tupF (popN n st).1 e) K (popN n st).2 := goR_eq _
@[simp] theorem go_lst2 {n : Nat} : go c (.lstI n :: K) st e = goR c (lstF (popN n st).1 e) K (popN n st).2 := goR_eq _
@[simp] theorem go_dic2 {n : Nat} : go c (.dicI n :: K) st e = goR c (dicF (popN n st).1 e) K (popN n st).2 := goR_eq _
@[simp] theorem go_call2 {f n : Nat} : go c (.callI f n :: K) st e = goR c (runCall c f (popN n st).1 e) K (popN n st).2 := goR_eq _
@[simp] theorem go_bi2 {b : Bi} {n : Nat} : go c (.biI b n :: K) st e = goR c (biF b (popN n st).1 e) K (popN n st).2 := goR_eq _
@[simp] theorem go_mt2 {m : Mt} {t : Str} {n : Nat} : go c (.mtI m t n :: K) st e = goR c (mtF m t (popN n st).1 e) K (popN n st).2 := goR_eq _
@[simp] theorem go_mu2 {m : Mu} {i n : Nat} : go c (.muI m i n :: K) st e = goR c (muF m i (popN n st).1 e) K (popN n st).2 := goR_eq _
@[simp] theorem go_tab2 {op : TOp} {kvs : List (Str × D)} {n : Nat} : go c (.tabI op kvs n :: K) st e = goR c (tabF op kvs (popN n st).1 e) K (popN n st).2 := goR_eq _
@[simp] theorem go_idx2 {va vb : Val} : go c (.idxI :: K) (vb :: va :: st) e = goO c (see2 e va vb fun x y => (idxD x y).map Val.d) K st e := by
  rw [← see2_eq, ← goR_eq]
  rfl
def see1 (e : Env) (va : Val) (f : D → Option Val) : Option Val := (see e va).bind f
@[simp] theorem see1_d {x : D} {f : D → Option Val} : see1 e (Val.d x) f = f x := (rfl)
theorem see1_eq {va : Val} {f : D → Option Val} : (match see e va with
    | some x => opt (f x) e
    | none => .no).bind (push st (go c K)) = goO c (see1 e va f) K st e := by
  unfold see1
  cases see e va with
  | none => rfl
  | some x =>
    show (opt (f x) e).bind _ = goO c (f x) K st e
    cases f x <;> rfl
@[simp] theorem go_sli00 {va : Val} : go c (.sliI false false :: K) (va :: st) e = goO c (see1 e va fun x => sliD x none none) K st e := see1_eq
@[simp] theorem go_sli10 {va : Val} {l : Int} : go c (.sliI true false :: K) (Val.d (.int l) :: va :: st) e = goO c (see1 e va fun x => sliD x (some l) none) K st e := see1_eq
@[simp] theorem go_sli01 {va : Val} {l : Int} : go c (.sliI false true :: K) (Val.d (.int l) :: va :: st) e = goO c (see1 e va fun x => sliD x none (some l)) K st e := see1_eq
@[simp] theorem go_dgA2 {v : Val} : go c (.dgA :: K) (v :: st) e = if ((see e v).map isDicD) = some true then go c K (v :: st) e else .no := (rfl)
@[simp] theorem go_dgI2 {va vb : Val} : go c (.dgI :: K) (vb :: va :: st) e = goO c (see2 e va vb fun x y => (getD2 x y .none).map Val.d) K st e := by
  rw [← see2_eq, ← goR_eq]
  rfl
@[simp] theorem go_dg2I2 {d : D} {va vb : Val} : go c (.dg2I :: K) (Val.d d :: vb :: va :: st) e = goO c (see2 e va vb fun x y => (getD2 x y d).map Val.d) K st e := by
  rw [← see2_eq, ← goR_eq]
  rfl
@[simp] theorem go_upd2 {i : Nat} {v : Val} : go c (.updI i :: K) (v :: st) e = match take e v with
    | some (x, e2) => match (getS e2 i).bind fun o => updV o x with
      | some o' => go c K (Val.d .none :: st) (e2.set i (some o'))
      | none => .no
    | none => .no := by
  show (match take e v with
        | some (x, e2) => match getS e2 i with
          | some o => match updV o x with
            | some o' => .ok (Val.d .none) (e2.set i (some o'))
            | none => .no
          | none => .no
        | none => .no : Res Val).bind (push st (go c K)) = _
  cases take e v with
  | none => rfl
  | some p =>
    dsimp only
    cases getS p.2 i with
    | none => rfl
    | some o =>
      show Res.bind (match updV o p.1 with
            | some o' => .ok (Val.d .none) (p.2.set i (some o'))
            | none => .no) _ = match updV o p.1 with
            | some o' => _
            | none => _
      cases updV o p.1 <;> rfl
@[simp] theorem go_isi2 {ts : List Ty} {v : Val} : go c (.isiI ts :: K) (v :: st) e = goB c (isiV c e v ts) K st e := by
  show (opt ((isiV c e v ts).map fun k => Val.d (.bool k)) e).bind _ = _
  cases isiV c e v ts <;> rfl
@[simp] theorem go_fld2 {f : Str} {x : Str} {fs : List (Str × D)} : go c (.fldI f :: K) (.ex x fs :: st) e = goO c ((fs.lookup f).map Val.d) K st e := by
  show (opt ((fs.lookup f).map Val.d) e).bind _ = _
  cases fs.lookup f <;> rfl
@[simp] theorem go_lcI2 {elt : ME} {t : Tgt} {cs : List ME} {own : List Nat} {v : Val} : go c (.lcI elt t cs own :: K) (v :: st) e = goR c (doLc c elt t cs own (walkV e v)) K st := goR_eq _
@[simp] theorem go_lcR2' {elt : ME} {t : Tgt} {cs : List ME} {own : List Nat} {v : Val} : go c (.lcR elt t cs own :: K) (v :: st) e = goR c (doLc c elt t cs own (walkR e v)) K st := goR_eq _
@[simp] theorem go_lcRR2 {elt : ME} {t : Tgt} {cs : List ME} {own : List Nat} {u v : Val} : go c (.lcR2 elt t cs own :: K) (u :: v :: st) e = goR c (doLc c elt t cs own (walkR2 e v u)) K st := goR_eq _
@[simp] theorem go_lcN2 {elt : ME} {t : Tgt} {cs : List ME} {own : List Nat} {v : Val} : go c (.lcN elt t cs own :: K) (v :: st) e = goR c (doLc c elt t cs own (walkEnum e v)) K st := goR_eq _
@[simp] theorem go_lcZ2 {elt : ME} {t : Tgt} {cs : List ME} {own : List Nat} {u v : Val} : go c (.lcZ elt t cs own :: K) (u :: v :: st) e = goR c (doLc c elt t cs own (walkZip e v u)) K st := goR_eq _
@[simp] theorem go_drop2 {v : Val} : go c (.drop :: K) (v :: st) e = go c K st e := (rfl)
def goH (o : Option (Val × Env)) : Res Flow := match o with
  | some (v', e2) => .ok (.ret v') e2
  | none => .no
@[simp] theorem goH_some {v : Val} {e2 : Env} : goH (some (v, e2)) = .ok (.ret v) e2 := (rfl)
@[simp] theorem go_ret2 {v : Val} : go c (.retI :: K) (v :: st) e = goH (handOut c e v) := (rfl)
def goS (c : Ctx) (o : Option (Val × Env)) (t : Tgt) (K : List It) (st : List Val) : Res Flow := match o with
  | some (v', e2) => goE c (asg c t v' e2) K st
  | none => .no
@[simp] theorem goS_some {v : Val} {e2 : Env} {t : Tgt} : goS c (some (v, e2)) t K st = goE c (asg c t v e2) K st := (rfl)
@[simp] theorem go_set2 {t : Tgt} {v : Val} : go c (.setI t :: K) (v :: st) e = goS c (stow e v) t K st := (rfl)
def goP (c : Ctx) (o : Option (List Val × Env)) (is : List Nat) (K : List It) (st : List Val) : Res Flow := match o with
  | some (vs', e2) => goE c (setAll c is vs' e2) K st
  | none => .no
@[simp] theorem goP_some {vs : List Val} {e2 : Env} {is : List Nat} : goP c (some (vs, e2)) is K st = goE c (setAll c is vs e2) K st := (rfl)
@[simp] theorem go_par2 {is : List Nat} {n : Nat} : go c (.parI is n :: K) st e = goP c (stowAll e (popN n st).1) is K (popN n st).2 := (rfl)
@[simp] theorem go_aug2 {i : Nat} {op : Operator} {x : D} {v : Val} : go c (.augI i op x :: K) (v :: st) e = goE c (((see e v).bind (augD op x)).bind fun z => setSl c e i (Val.d z)) K st := by
  show (match see e v with
      | some y => match augD op x y with
        | some z => match setSl c e i (Val.d z) with
          | some e2 => go c K st e2
          | none => .no
        | none => .no
      | none => .no) = _
  cases see e v with
  | none => rfl
  | some y =>
    show (match augD op x y with
        | some z => match setSl c e i (Val.d z) with
          | some e2 => go c K st e2
          | none => .no
        | none => .no) = goE c ((augD op x y).bind fun z => setSl c e i (Val.d z)) K st
    cases augD op x y with
    | none => rfl
    | some z => rfl
@[simp] theorem go_sixB2 {i : Nat} {x : D} {v : Val} : go c (.sixB i x :: K) (v :: st) e = goE c ((see e v).bind fun kd => (getS e i).bind fun o => (setIx o kd x).map fun o' => e.set i (some o')) K st := by
  show (match see e v, getS e i with
      | some kd, some o => match setIx o kd x with
        | some o' => go c K st (e.set i (some o'))
        | none => .no
      | _, _ => .no) = _
  cases see e v with
  | none => rfl
  | some kd =>
    cases getS e i with
    | none => rfl
    | some o =>
      show (match setIx o kd x with
        | some o' => go c K st (e.set i (some o'))
        | none => .no) = goE c ((setIx o kd x).map fun o' => e.set i (some o')) K st
      cases setIx o kd x <;> rfl
@[simp] theorem doFor_some {t : Tgt} {body : List MS} {xs : List D} {e1 : Env} : doFor c t body (some (xs, e1)) = forL (loopF c t body) xs e1 := (rfl)
@[simp] theorem go_for2 {t : Tgt} {body : List MS} {v : Val} : go c (.forI t body :: K) (v :: st) e = goF c (doFor c t body (walkV e v)) K st := goF_eq _
@[simp] theorem go_forR2' {t : Tgt} {body : List MS} {v : Val} : go c (.forR t body :: K) (v :: st) e = goF c (doFor c t body (walkR e v)) K st := goF_eq _
@[simp] theorem go_forRR2 {t : Tgt} {body : List MS} {u v : Val} : go c (.forR2 t body :: K) (u :: v :: st) e = goF c (doFor c t body (walkR2 e v u)) K st := goF_eq _
@[simp] theorem go_forN2 {t : Tgt} {body : List MS} {v : Val} : go c (.forN t body :: K) (v :: st) e = goF c (doFor c t body (walkEnum e v)) K st := goF_eq _
@[simp] theorem go_forZ2 {t : Tgt} {body : List MS} {u v : Val} : go c (.forZ t body :: K) (u :: v :: st) e = goF c (doFor c t body (walkZip e v u)) K st := goF_eq _
def goX (c : Ctx) (x : Str) (o : Option (List D × Env)) : Res Flow := match o with
  | some (ds, e2) => if ds.length ≤ lineN then .ex (excOf c x ds) e2 else .no
  | none => .no
@[simp] theorem goX_some {x : Str} {ds : List D} {e2 : Env} : goX c x (some (ds, e2)) = if ds.length ≤ lineN then .ex (excOf c x ds) e2 else .no := (rfl)
@[simp] theorem go_raise2 {x : Str} {n : Nat} : go c (.raiseI x n :: K) st e = goX c x (takes e (popN n st).1) := by
  show (match takes e (popN n st).1 with
    | some (ds, e2) => if ds.length ≤ lineN then Res.ex (excOf c x ds) e2 else Res.no
    | none => Res.no) = _
  cases takes e (popN n st).1 <;> rfl
@[simp] theorem goTry_nx {x : Str} {n y : Nat} {e1 : Env} : goTry c (.ok .nx e1) x n y K st = go c K st e1 := (rfl)
@[simp] theorem goTry_ex {x : Str} {n y : Nat} {z : Ex} {e1 : Env} : goTry c (.ex z e1) x n y K st = if c.sub z.c x then goE c ((setSl c e1 y (.ex z.c z.fs)).bind fun e2 => (setSl c e2 n (.ex z.c z.fs)).map fun e3 => e3.set n none) K st else .ex z e1 := by
  show (if c.sub z.c x then match setSl c e1 y (.ex z.c z.fs) with
      | some e2 => match setSl c e2 n (.ex z.c z.fs) with
        | some e3 => go c K st (e3.set n none)
        | none => .no
      | none => .no
    else .ex z e1) = _
  split
  · cases setSl c e1 y (.ex z.c z.fs) with
    | none => rfl
    | some e2 =>
      show (match setSl c e2 n (.ex z.c z.fs) with
        | some e3 => go c K st (e3.set n none)
        | none => .no) = goE c ((setSl c e2 n (.ex z.c z.fs)).map fun e3 => e3.set n none) K st
      cases setSl c e2 n (.ex z.c z.fs) <;> rfl
  · rfl
/-! ### a turn of a loop, of a comprehension -/
def goL (c : Ctx) (o : Option Env) (body : List MS) : Res Flow := match o with
  | some e3 => go c [.B body] [] e3
  | none => .no
@[simp] theorem goL_some {e3 : Env} {body : List MS} : goL c (some e3) body = go c [.B body] [] e3 := (rfl)
theorem loopF_go {t : Tgt} {body : List MS} {x : D} : loopF c t body x e = goL c (asg c t (Val.d x) e) body := by
  unfold loopF goL
  cases asg c t (Val.d x) e with
  | none => rfl
  | some e3 => exact exs_go
@[simp] theorem go_stop {v : Val} : go c (.stop :: K) (v :: st) e = .ok (.ret v) e := (rfl)
@[simp] theorem go_lcQ {elt : ME} {v : Val} : go c (.lcQ elt :: K) (v :: st) e = match (see e v).bind truD with
    | some true => go c [.E elt, .stop] st e
    | some false => .ok .ct e
    | none => .no := (rfl)
/-- what a turn of a comprehension hands on -/
def lcEnd (own : List Nat) (r : Res Flow) : Res (Option D) := match r with
  | .ok (.ret v) e => match take e v with
    | some (y, e6) => .ok (some y) (wipeE e6 own)
    | none => .no
  | .ok .ct e => .ok none (wipeE e own)
  | .ex x e => .ex x e
  | _ => .no
@[simp] theorem lcEnd_d {own : List Nat} {x : D} {e1 : Env} : lcEnd own (.ok (.ret (Val.d x)) e1) = .ok (some x) (wipeE e1 own) := (rfl)
@[simp] theorem lcEnd_ct {own : List Nat} {e1 : Env} : lcEnd own (.ok .ct e1) = .ok none (wipeE e1 own) := (rfl)
def goC (c : Ctx) (o : Option Env) (L : List It) (own : List Nat) : Res (Option D) := match o with
  | some e3 => lcEnd own (go c L [] e3)
  | none => .no
@[simp] theorem goC_some {e3 : Env} {L : List It} {own : List Nat} : goC c (some e3) L own = lcEnd own (go c L [] e3) := (rfl)
theorem lcStep0 {elt : ME} {t : Tgt} {own : List Nat} {x : D} : lcStep c elt t [] own x e = goC c (asg c t (Val.d x) e) [.E elt, .stop] own := by
  unfold lcStep goC
  cases asg c t (Val.d x) e with
  | none => rfl
  | some e3 =>
    show (Res.ok true e3).bind _ = lcEnd own ((ev c elt e3).bind fun v e4 => .ok (.ret v) e4)
    rw [Res.bind_ok, if_pos rfl]
    cases ev c elt e3 with
    | ok v e4 =>
      show (match take e4 v with
        | some (y, e6) => .ok (some y) (wipeE e6 own)
        | none => .no : Res (Option D)) = match take e4 v with
        | some (y, e6) => .ok (some y) (wipeE e6 own)
        | none => .no
      rfl
    | _ => rfl
theorem lcStep1 {elt q : ME} {t : Tgt} {own : List Nat} {x : D} : lcStep c elt t [q] own x e = goC c (asg c t (Val.d x) e) [.E q, .lcQ elt] own := by
  unfold lcStep goC
  cases asg c t (Val.d x) e with
  | none => rfl
  | some e3 =>
    show (((ev c q e3).bind fun v e1 => match (see e1 v).bind truD with
      | some true => .ok true e1
      | some false => .ok false e1
      | none => .no).bind _) = lcEnd own ((ev c q e3).bind fun v e4 => match (see e4 v).bind truD with
    | some true => (ev c elt e4).bind fun v e => .ok (.ret v) e
    | some false => .ok .ct e4
    | none => .no)
    cases ev c q e3 with
    | ok v e4 =>
      rw [Res.bind_ok, Res.bind_ok]
      cases (see e4 v).bind truD with
      | none => rfl
      | some b =>
        cases b with
        | false => rfl
        | true =>
          show Res.bind (ev c elt e4) _ = lcEnd own ((ev c elt e4).bind _)
          cases ev c elt e4 with
          | ok w e5 =>
            show (match take e5 w with
              | some (y, e6) => .ok (some y) (wipeE e6 own)
              | none => .no : Res (Option D)) = match take e5 w with
              | some (y, e6) => .ok (some y) (wipeE e6 own)
              | none => .no
            rfl
          | _ => rfl
    | _ => rfl
/-- a comprehension, its turns known -/
theorem doLc_of {elt : ME} {t : Tgt} {cs : List ME} {own : List Nat} {xs : List D} {e1 : Env} {g : D → Option D} (hf : own.all (lcFree c e1) = true) (hl : xs.length ≤ lineN) (hs : ∀ x ∈ xs, lcStep c elt t cs own x (wipeE e1 own) = .ok (g x) (wipeE e1 own)) :
    doLc c elt t cs own (some (xs, e1)) = .ok (.ol ((xs.filterMap g).map Val.d)) (backE e1 (wipeE e1 own) own) := by
  show (if own.all (lcFree c e1) = true then _ else _) = _
  rw [if_pos hf, lc_filter hs (by simpa using hl)]
  rfl
theorem doLc_map {elt : ME} {t : Tgt} {cs : List ME} {own : List Nat} {xs : List D} {e1 : Env} {g : D → D} (hf : own.all (lcFree c e1) = true) (hl : xs.length ≤ lineN) (hs : ∀ x ∈ xs, lcStep c elt t cs own x (wipeE e1 own) = .ok (some (g x)) (wipeE e1 own)) :
    doLc c elt t cs own (some (xs, e1)) = .ok (.ol ((xs.map g).map Val.d)) (backE e1 (wipeE e1 own) own) := by
  rw [doLc_of (g := fun x => some (g x)) hf hl hs]
  congr 3
  exact congrFun List.filterMap_eq_map xs
/-! ### slots -/
@[simp] theorem getS_zero {o : Option Val} {r : Env} : getS (o :: r) 0 = o := by simp [getS]
@[simp] theorem getS_succ {o : Option Val} {r : Env} {i : Nat} : getS (o :: r) (i + 1) = getS r i := by simp [getS]
/-- a loop by what is done to a state -/
theorem forL_state {σ : Type} {f : D → Env → Res Flow} (mk : σ → Env) (stp : σ → D → σ) (P : σ → Prop) : ∀ {xs : List D} {s : σ}, P s → (∀ s x, x ∈ xs → P s → f x (mk s) = .ok .nx (mk (stp s x)) ∧ P (stp s x)) → forL f xs (mk s) = .ok .nx (mk (xs.foldl stp s)) ∧ P (xs.foldl stp s)
  | [], s, p, _ => ⟨rfl, p⟩
  | x :: xs, s, p, h => by
    obtain ⟨h1, p1⟩ := h s x List.mem_cons_self p
    obtain ⟨h2, p2⟩ := forL_state mk stp P (xs := xs) p1 fun s y m => h s y (List.mem_cons_of_mem _ m)
    refine ⟨?_, p2⟩
    show (f x (mk s)).bind _ = _
    rw [h1]
    exact h2
@[simp] theorem forL_nil {f : D → Env → Res Flow} : forL f [] e = .ok .nx e := (rfl)
theorem forL_nx {f : D → Env → Res Flow} {x : D} {xs : List D} {e1 : Env} (h : f x e = .ok .nx e1) : forL f (x :: xs) e = forL f xs e1 := by
  show (f x e).bind _ = _
  rw [h]
  rfl
theorem forL_ct {f : D → Env → Res Flow} {x : D} {xs : List D} {e1 : Env} (h : f x e = .ok .ct e1) : forL f (x :: xs) e = forL f xs e1 := by
  show (f x e).bind _ = _
  rw [h]
  rfl
theorem forL_ret {f : D → Env → Res Flow} {x : D} {xs : List D} {e1 : Env} {v : Val} (h : f x e = .ok (.ret v) e1) : forL f (x :: xs) e = .ok (.ret v) e1 := by
  show (f x e).bind _ = _
  rw [h]
  rfl
/-! ### a def's run -/
def cxP (G : Prog) (k : Nat) (pr : List Bool) : Ctx := ⟨callM G k, G.sub, G.flds, pr⟩
@[simp] theorem cxP_call {G : Prog} {k : Nat} {pr : List Bool} : (cxP G k pr).call = callM G k := rfl
@[simp] theorem cxP_sub {G : Prog} {k : Nat} {pr : List Bool} : (cxP G k pr).sub = G.sub := rfl
@[simp] theorem cxP_flds {G : Prog} {k : Nat} {pr : List Bool} : (cxP G k pr).flds = G.flds := rfl
@[simp] theorem cxP_pr {G : Prog} {k : Nat} {pr : List Bool} : (cxP G k pr).pr = pr := rfl
abbrev cxG (G : Prog) (k : Nat) (as : List Val) : Ctx := cxP G k (as.map owned)
theorem call_go {G : Prog} {k i : Nat} {fd : FD} {as : List Val} (h : G.funs[i]? = some fd) (hn : as.length = fd.np ∧ fd.np ≤ fd.n) : callM G (k + 1) i as = endM as (go (cxP G k (as.map owned)) [.B fd.mb] [] (as.map some ++ List.replicate (fd.n - fd.np) none)) := by
  show (match G.funs[i]? with
    | some fd => if as.length = fd.np ∧ fd.np ≤ fd.n then endM as (exs (cxG G k as) fd.mb (as.map some ++ List.replicate (fd.n - fd.np) none)) else .no
    | none => .no) = _
  rw [h]
  dsimp only
  rw [if_pos hn, exs_go]
/-- a call by values that are data alone -/
theorem runCall_d {f : Nat} {vs : List Val} (hp : pks vs = []) (hl : lend e vs = some vs) : runCall c f vs e = match c.call f vs with
    | .ok v as' => .ok v (back e vs as')
    | .ex x as' => .ex x (back e vs as')
    | .no => .no := by
  unfold runCall
  rw [hp, if_pos List.nodup_nil, hl]
  all_goals rfl
end
end PM
end

section
set_option Elab.async false
set_option linter.all false
set_option maxRecDepth 100000
set_option maxHeartbeats 2000000
/-! PMGo3: what simp is to know of the machine's values. -/
namespace PM
open PySem
/-- an owned list of data -/
def OL (ds : List D) : Val := .ol (ds.map Val.d)
/-- an owned dict of data -/
def OD (kvs : List (Key × D)) : Val := .od (liftK kvs)
section
variable {c : Ctx} {K : List It} {st : List Val} {e : Env}
section
variable {ds : List D} {i : Nat} {x : D}
@[simp] theorem frD_OL : frD (OL ds) = some (.list ds) := by unfold OL; rw [frD_ol, allD_map]; rfl
@[simp] theorem see_OL : see e (OL ds) = some (.list ds) := frD_OL
@[simp] theorem take_OL : take e (OL ds) = some (.list ds, e) := by show (frD (OL ds)).map _ = _; rw [frD_OL]; rfl
@[simp] theorem stow_OL : stow e (OL ds) = some (OL ds, e) := (rfl)
@[simp] theorem handOut_OL : handOut c e (OL ds) = some (OL ds, e) := (rfl)
@[simp] theorem owned_OL : owned (OL ds) = true := (rfl)
@[simp] theorem isOl_OL : isOl (some (OL ds)) = true := (rfl)
@[simp] theorem pks_OL {r : List Val} : pks (OL ds :: r) = pks r := (rfl)
@[simp] theorem lend_OL {r : List Val} : lend e (OL ds :: r) = (lend e r).map (OL ds :: ·) := (rfl)
@[simp] theorem back_OL {a : Val} {r as : List Val} : back e (OL ds :: r) (a :: as) = back e r as := by
  unfold OL
  conv => lhs; unfold back
@[simp] theorem parts_OL {k : Nat} {r : List Val} : parts e k (OL ds :: r) = (getS e k).bind fun v => (parts e (k + 1) r).map (v :: ·) := (rfl)
@[simp] theorem nonV_OL : nonV e (OL ds) = some false := (rfl)
@[simp] theorem isi_OL {ts : List Ty} : isiV c e (OL ds) ts = some (ts.any fun t => tyD t (.list ds)) := by
  show (see e (OL ds)).map _ = _
  rw [see_OL]
  rfl
@[simp] theorem goV_OL : goV c (some (OL ds)) i K st e = go c K (.pk i :: st) e := (rfl)
@[simp] theorem walkV_OL : walkV e (OL ds) = some (ds, e) := by
  unfold walkV
  rw [take_OL]
  rfl
@[simp] theorem app_OL : muV .append (OL ds) [x] = if ds.length < lineN then some (Val.d .none, OL (ds ++ [x])) else none := by
  show (if (ds.map Val.d).length < lineN then some (Val.d .none, Val.ol (ds.map Val.d ++ [Val.d x])) else none) = _
  rw [List.length_map]
  unfold OL
  rw [List.map_append]
  rfl
@[simp] theorem ext_OL {xs : List D} : muV .extend (OL ds) [.list xs] = if ds.length + xs.length ≤ lineN then some (Val.d .none, OL (ds ++ xs)) else none := by
  show (if (ds.map Val.d).length + xs.length ≤ lineN then some (Val.d .none, Val.ol (ds.map Val.d ++ xs.map Val.d)) else none) = _
  rw [List.length_map]
  unfold OL
  rw [List.map_append]
@[simp] theorem extT_OL {xs : List D} : muV .extend (OL ds) [.tuple xs] = if ds.length + xs.length ≤ lineN then some (Val.d .none, OL (ds ++ xs)) else none := by
  show (if (ds.map Val.d).length + xs.length ≤ lineN then some (Val.d .none, Val.ol (ds.map Val.d ++ xs.map Val.d)) else none) = _
  rw [List.length_map]
  unfold OL
  rw [List.map_append]
@[simp] theorem pop_OL : muV .pop (OL ds) [] = ds.getLast?.map fun x => (Val.d x, OL ds.dropLast) := by
  show ((allD (ds.map Val.d)).bind fun ds => match ds.getLast? with
    | some x => some (Val.d x, Val.ol (ds.dropLast.map Val.d))
    | none => none) = _
  rw [allD_map]
  show (match ds.getLast? with
    | some x => some (Val.d x, Val.ol (ds.dropLast.map Val.d))
    | none => none) = _
  cases ds.getLast? <;> rfl
@[simp] theorem clear_OL : muV .clear (OL ds) [] = some (Val.d .none, OL []) := by
  show ((allD (ds.map Val.d)).map fun _ => (Val.d .none, Val.ol [])) = _
  rw [allD_map]
  rfl
@[simp] theorem setIx_OL {j : Int} : setIx (OL ds) (.int j) x = (L2.ixN ds.length j).map fun k => OL (ds.set k x) := by
  show ((allD (ds.map Val.d)).bind fun ds => (L2.ixN ds.length j).map fun k => Val.ol ((ds.set k x).map Val.d)) = _
  rw [allD_map]
  rfl
end
section
variable {ks : List (Key × D)} {i : Nat} {x : D}
/-- a dict's data -/
def keysD (ks : List (Key × D)) : List (D × D) := ks.map fun p => (keyD p.1, p.2)
theorem allKD_lift : allKD (liftK ks) = some (keysD ks) := by
  induction ks with
  | nil => rfl
  | cons p r ih =>
    obtain ⟨k, v⟩ := p
    show (match isD (Val.d v), allKD (liftK r) with
      | some x, some xs => some ((keyD k, x) :: xs)
      | _, _ => none) = _
    rw [ih]
    rfl
theorem unK_lift : unK (liftK ks) = some ks := by
  induction ks with
  | nil => rfl
  | cons p r ih =>
    obtain ⟨k, v⟩ := p
    show (match isD (Val.d v), unK (liftK r) with
      | some x, some xs => some ((k, x) :: xs)
      | _, _ => none) = _
    rw [ih]
    rfl
@[simp] theorem frD_OD : frD (OD ks) = some (.dict (keysD ks)) := by
  show (allKD (liftK ks)).map PyData.dict = _
  rw [allKD_lift]
  rfl
@[simp] theorem see_OD : see e (OD ks) = some (.dict (keysD ks)) := frD_OD
@[simp] theorem take_OD : take e (OD ks) = some (.dict (keysD ks), e) := by show (frD (OD ks)).map _ = _; rw [frD_OD]; rfl
@[simp] theorem stow_OD : stow e (OD ks) = some (OD ks, e) := (rfl)
@[simp] theorem handOut_OD : handOut c e (OD ks) = some (OD ks, e) := (rfl)
@[simp] theorem owned_OD : owned (OD ks) = true := (rfl)
@[simp] theorem isOd_OD : isOd (some (OD ks)) = true := (rfl)
@[simp] theorem pks_OD {r : List Val} : pks (OD ks :: r) = pks r := (rfl)
@[simp] theorem lend_OD {r : List Val} : lend e (OD ks :: r) = (lend e r).map (OD ks :: ·) := (rfl)
@[simp] theorem back_OD {a : Val} {r as : List Val} : back e (OD ks :: r) (a :: as) = back e r as := by
  unfold OD
  conv => lhs; unfold back
@[simp] theorem parts_OD {k : Nat} {r : List Val} : parts e k (OD ks :: r) = (getS e k).bind fun v => (parts e (k + 1) r).map (v :: ·) := (rfl)
@[simp] theorem nonV_OD : nonV e (OD ks) = some false := (rfl)
@[simp] theorem goV_OD : goV c (some (OD ks)) i K st e = go c K (.pk i :: st) e := (rfl)
@[simp] theorem upd_OD {ps : List D} : updV (OD ks) (.list ps) = (pairsK ps).bind fun more => if ks.length + more.length ≤ lineN then some (OD (mergeD ks more)) else none := by
  show ((unK (liftK ks)).bind fun k0 => (pairsK ps).bind fun more => if k0.length + more.length ≤ lineN then some (Val.od (liftK (mergeD k0 more))) else none) = _
  rw [unK_lift]
  rfl
@[simp] theorem keysD_len : (keysD ks).length = ks.length := by simp [keysD]
/-- what stands at a key -/
def lkD : List (Key × D) → Key → Option D
  | [], _ => none
  | (k', v) :: r, k => if k' = k then some v else lkD r k
@[simp] theorem getK_keysD {k : Key} : getK (keysD ks) k = lkD ks k := by
  induction ks with
  | nil => rfl
  | cons p r ih =>
    obtain ⟨k', v⟩ := p
    show getK ((keyD k', v) :: keysD r) k = _
    rw [getK_cons, ih]
    rfl
end
@[simp] theorem popN_eq {n : Nat} {st : List Val} : popN n st = ((st.take n).reverse, st.drop n) := (rfl)
@[simp] theorem Es_nil {K : List It} : Es [] K = K := (rfl)
@[simp] theorem Es_cons {a : ME} {r : List ME} {K : List It} : Es (a :: r) K = .E a :: Es r K := (rfl)
@[simp] theorem see_d {x : D} : see e (Val.d x) = some x := (rfl)
@[simp] theorem see_pk {i : Nat} : see e (.pk i) = (getS e i).bind frD := (rfl)
@[simp] theorem see_ol {vs : List Val} : see e (.ol vs) = (allD vs).map .list := (rfl)
@[simp] theorem see_od {vs : List (Key × Val)} : see e (.od vs) = (allKD vs).map .dict := (rfl)
@[simp] theorem see_ex {x : Str} {fs : List (Str × D)} : see e (.ex x fs) = none := (rfl)
@[simp] theorem frD_od {vs : List (Key × Val)} : frD (.od vs) = (allKD vs).map .dict := (rfl)
@[simp] theorem frD_ex {x : Str} {fs : List (Str × D)} : frD (.ex x fs) = none := (rfl)
@[simp] theorem isD_d {x : D} : isD (Val.d x) = some x := (rfl)
@[simp] theorem take_d {x : D} : take e (Val.d x) = some (x, e) := (rfl)
@[simp] theorem take_ol {vs : List Val} : take e (.ol vs) = ((allD vs).map .list).map fun x => (x, e) := (rfl)
@[simp] theorem take_od {vs : List (Key × Val)} : take e (.od vs) = ((allKD vs).map .dict).map fun x => (x, e) := (rfl)
@[simp] theorem take_pk {i : Nat} : take e (.pk i) = (getS e i).bind fun v => (frD v).map fun x => (x, e.set i (some (Val.d x))) := (rfl)
@[simp] theorem takes_nil : takes e [] = some ([], e) := (rfl)
@[simp] theorem takes_cons {v : Val} {vs : List Val} : takes e (v :: vs) = (take e v).bind fun p => (takes p.2 vs).map fun q => (p.1 :: q.1, q.2) := (rfl)
@[simp] theorem sees_nil : sees e [] = some [] := (rfl)
@[simp] theorem sees_cons {v : Val} {vs : List Val} : sees e (v :: vs) = (see e v).bind fun x => (sees e vs).map fun xs => x :: xs := by
  show (match see e v, sees e vs with
    | some x, some xs => some (x :: xs)
    | _, _ => none) = _
  cases see e v with
  | none => rfl
  | some x => cases sees e vs <;> rfl
@[simp] theorem stow_d {x : D} : stow e (Val.d x) = some (Val.d x, e) := (rfl)
@[simp] theorem stow_ol {x : List Val} : stow e (.ol x) = some (.ol x, e) := (rfl)
@[simp] theorem stow_od {x : List (Key × Val)} : stow e (.od x) = some (.od x, e) := (rfl)
@[simp] theorem stow_ex {x : Str} {fs : List (Str × D)} : stow e (.ex x fs) = some (.ex x fs, e) := (rfl)
@[simp] theorem stow_pk {i : Nat} : stow e (.pk i) = ((getS e i).bind fun v => (frD v).map fun x => (x, e.set i (some (Val.d x)))).map fun p => (Val.d p.1, p.2) := (rfl)
@[simp] theorem stowAll_nil : stowAll e [] = some ([], e) := (rfl)
@[simp] theorem stowAll_cons {v : Val} {vs : List Val} : stowAll e (v :: vs) = (stow e v).bind fun p => (stowAll p.2 vs).map fun q => (p.1 :: q.1, q.2) := (rfl)
@[simp] theorem handOut_d {x : D} : handOut c e (Val.d x) = some (Val.d x, e) := (rfl)
@[simp] theorem handOut_ol {x : List Val} : handOut c e (.ol x) = some (.ol x, e) := (rfl)
@[simp] theorem handOut_od {x : List (Key × Val)} : handOut c e (.od x) = some (.od x, e) := (rfl)
@[simp] theorem handOut_pk {i : Nat} : handOut c e (.pk i) = if c.pr[i]? = some true then stow e (.pk i) else (getS e i).map fun v => (v, e.set i none) := (rfl)
@[simp] theorem setSl_eq {i : Nat} {v : Val} : setSl c e i v = if c.pr[i]? = some true ∨ e.length ≤ i then none else some (e.set i (some v)) := (rfl)
@[simp] theorem asg_nm {i : Nat} {v : Val} : asg c (.nm i) v e = setSl c e i v := by unfold asg; rfl
@[simp] theorem asg_tup {ts : List Tgt} {ds : List D} : asg c (.tup ts) (Val.d (.tuple ds)) e = asgs c ts ds e := by
  conv => lhs; unfold asg
@[simp] theorem asgs_nil : asgs c [] [] e = some e := by unfold asgs; rfl
@[simp] theorem asgs_cons {t : Tgt} {ts : List Tgt} {x : D} {xs : List D} : asgs c (t :: ts) (x :: xs) e = (asg c t (Val.d x) e).bind fun e1 => asgs c ts xs e1 := by
  conv => lhs; unfold asgs
@[simp] theorem setAll_nil : setAll c [] [] e = some e := (rfl)
@[simp] theorem setAll_cons {i : Nat} {is : List Nat} {v : Val} {vs : List Val} : setAll c (i :: is) (v :: vs) e = (setSl c e i v).bind fun e1 => setAll c is vs e1 := (rfl)
@[simp] theorem isOl_ol {vs : List Val} : isOl (some (.ol vs)) = true := (rfl)
@[simp] theorem isOd_od {vs : List (Key × Val)} : isOd (some (.od vs)) = true := (rfl)
@[simp] theorem owned_d {x : D} : owned (Val.d x) = false := (rfl)
@[simp] theorem owned_ol {vs : List Val} : owned (.ol vs) = true := (rfl)
@[simp] theorem owned_od {vs : List (Key × Val)} : owned (.od vs) = true := (rfl)
@[simp] theorem owned_ex {x : Str} {fs : List (Str × D)} : owned (.ex x fs) = false := (rfl)
@[simp] theorem pks_nil : pks [] = [] := (rfl)
@[simp] theorem pks_d {x : D} {r : List Val} : pks (Val.d x :: r) = pks r := (rfl)
@[simp] theorem pks_ol {x : List Val} {r : List Val} : pks (.ol x :: r) = pks r := (rfl)
@[simp] theorem pks_od {x : List (Key × Val)} {r : List Val} : pks (.od x :: r) = pks r := (rfl)
@[simp] theorem pks_ex {x : Str} {fs : List (Str × D)} {r : List Val} : pks (.ex x fs :: r) = pks r := (rfl)
@[simp] theorem pks_pk {i : Nat} {r : List Val} : pks (.pk i :: r) = i :: pks r := (rfl)
@[simp] theorem lend_nil : lend e [] = some [] := (rfl)
@[simp] theorem lend_pk {i : Nat} {r : List Val} : lend e (.pk i :: r) = (getS e i).bind fun v => (lend e r).map (v :: ·) := (rfl)
@[simp] theorem lend_d {x : D} {r : List Val} : lend e (Val.d x :: r) = (lend e r).map (Val.d x :: ·) := (rfl)
@[simp] theorem lend_ol {x : List Val} {r : List Val} : lend e (.ol x :: r) = (lend e r).map (.ol x :: ·) := (rfl)
@[simp] theorem lend_od {x : List (Key × Val)} {r : List Val} : lend e (.od x :: r) = (lend e r).map (.od x :: ·) := (rfl)
@[simp] theorem lend_ex {x : Str} {fs : List (Str × D)} {r : List Val} : lend e (.ex x fs :: r) = (lend e r).map (.ex x fs :: ·) := (rfl)
@[simp] theorem back_nil {as : List Val} : back e [] as = e := by unfold back; cases as <;> rfl
@[simp] theorem back_pk {i : Nat} {a : Val} {r as : List Val} : back e (.pk i :: r) (a :: as) = back (e.set i (some a)) r as := by
  conv => lhs; unfold back
@[simp] theorem back_d {x : D} {a : Val} {r as : List Val} : back e (Val.d x :: r) (a :: as) = back e r as := by
  conv => lhs; unfold back
@[simp] theorem back_ol {x : List Val} {a : Val} {r as : List Val} : back e (.ol x :: r) (a :: as) = back e r as := by
  conv => lhs; unfold back
@[simp] theorem back_od {x : List (Key × Val)} {a : Val} {r as : List Val} : back e (.od x :: r) (a :: as) = back e r as := by
  conv => lhs; unfold back
@[simp] theorem back_ex {x : Str} {fs : List (Str × D)} {a : Val} {r as : List Val} : back e (.ex x fs :: r) (a :: as) = back e r as := by
  conv => lhs; unfold back
@[simp] theorem see2_bind {va vb : Val} {f : D → D → Option Val} : see2 e va vb f = (see e va).bind fun x => (see e vb).bind fun y => f x y := by
  unfold see2
  cases see e va with
  | none => rfl
  | some x => cases see e vb <;> rfl
@[simp] theorem see2B_bind {va vb : Val} {f : D → D → Option Bool} : see2B e va vb f = (see e va).bind fun x => (see e vb).bind fun y => f x y := by
  unfold see2B
  cases see e va with
  | none => rfl
  | some x => cases see e vb <;> rfl
@[simp] theorem see1_bind {va : Val} {f : D → Option Val} : see1 e va f = (see e va).bind f := (rfl)
/-- what a call hands back -/
def goCR (c : Ctx) (vs : List Val) (r : CRes) (K : List It) (st : List Val) (e : Env) : Res Flow := match r with
  | .ok v as' => go c K (v :: st) (back e vs as')
  | .ex x as' => .ex x (back e vs as')
  | .no => .no
@[simp] theorem goCR_ok {vs as' : List Val} {v : Val} : goCR c vs (.ok v as') K st e = go c K (v :: st) (back e vs as') := (rfl)
@[simp] theorem goCR_ex {vs as' : List Val} {x : Ex} : goCR c vs (.ex x as') K st e = .ex x (back e vs as') := (rfl)
def goCall (c : Ctx) (f : Nat) (vs : List Val) (o : Option (List Val)) (K : List It) (st : List Val) (e : Env) : Res Flow := match o with
  | some as => goCR c vs (c.call f as) K st e
  | none => .no
@[simp] theorem goCall_some {f : Nat} {vs as : List Val} : goCall c f vs (some as) K st e = goCR c vs (c.call f as) K st e := (rfl)
@[simp] theorem goR_call {f : Nat} {vs : List Val} : goR c (runCall c f vs e) K st = if (pks vs).Nodup then goCall c f vs (lend e vs) K st e else .no := by
  unfold runCall
  split
  · unfold goCall
    cases lend e vs with
    | none => rfl
    | some as =>
      show goR c (match c.call f as with
        | .ok v as' => .ok v (back e vs as')
        | .ex x as' => .ex x (back e vs as')
        | .no => .no) K st = goCR c vs (c.call f as) K st e
      cases c.call f as <;> rfl
  · rfl
/-! ### built-ins -/
def goBi (c : Ctx) (b : Bi) (o : Option (List D)) (K : List It) (st : List Val) (e : Env) : Res Flow := match o with
  | some ds => goO c (biD b ds) K st e
  | none => .no
@[simp] theorem goBi_some {b : Bi} {ds : List D} : goBi c b (some ds) K st e = goO c (biD b ds) K st e := (rfl)
@[simp] theorem goR_bi {b : Bi} {vs : List Val} : goR c (biF b vs e) K st = goBi c b (sees e vs) K st e := by
  unfold biF goBi
  cases sees e vs with
  | none => rfl
  | some ds => exact goO_eq
def goMt (c : Ctx) (m : Mt) (t : Str) (o : Option (List D)) (K : List It) (st : List Val) (e : Env) : Res Flow := match o with
  | some ds => goO c (mtD m (.str t) ds) K st e
  | none => .no
@[simp] theorem goMt_some {m : Mt} {t : Str} {ds : List D} : goMt c m t (some ds) K st e = goO c (mtD m (.str t) ds) K st e := (rfl)
@[simp] theorem goR_mt {m : Mt} {t : Str} {vs : List Val} : goR c (mtF m t vs e) K st = goMt c m t (sees e vs) K st e := by
  unfold mtF goMt
  cases sees e vs with
  | none => rfl
  | some ds => exact goO_eq
def goMu (c : Ctx) (m : Mu) (i : Nat) (o : Option (List D × Env)) (K : List It) (st : List Val) : Res Flow := match o with
  | some (ds, e2) => match (getS e2 i).bind fun o => muV m o ds with
    | some (r, o') => go c K (r :: st) (e2.set i (some o'))
    | none => .no
  | none => .no
def goMu2 (c : Ctx) (i : Nat) (o : Option (Val × Val)) (K : List It) (st : List Val) (e : Env) : Res Flow := match o with
  | some (r, o') => go c K (r :: st) (e.set i (some o'))
  | none => .no
@[simp] theorem goMu2_some {i : Nat} {r o' : Val} : goMu2 c i (some (r, o')) K st e = go c K (r :: st) (e.set i (some o')) := (rfl)
@[simp] theorem goMu_some {m : Mu} {i : Nat} {ds : List D} {e2 : Env} : goMu c m i (some (ds, e2)) K st = goMu2 c i ((getS e2 i).bind fun o => muV m o ds) K st e2 := (rfl)
@[simp] theorem goR_mu {m : Mu} {i : Nat} {vs : List Val} : goR c (muF m i vs e) K st = goMu c m i (takes e vs) K st := by
  unfold muF goMu
  cases takes e vs with
  | none => rfl
  | some p =>
    dsimp only
    cases getS p.2 i with
    | none => rfl
    | some o =>
      show goR c (match muV m o p.1 with
        | some (r, o') => .ok r (p.2.set i (some o'))
        | none => .no) K st = match muV m o p.1 with
        | some (r, o') => _
        | none => _
      cases muV m o p.1 <;> rfl
def goTu (c : Ctx) (o : Option (List D × Env)) (K : List It) (st : List Val) : Res Flow := match o with
  | some (ds, e2) => if ds.length ≤ lineN then go c K (Val.d (.tuple ds) :: st) e2 else .no
  | none => .no
@[simp] theorem goTu_some {ds : List D} {e2 : Env} : goTu c (some (ds, e2)) K st = if ds.length ≤ lineN then go c K (Val.d (.tuple ds) :: st) e2 else .no := (rfl)
@[simp] theorem goR_tup {vs : List Val} : goR c (tupF vs e) K st = goTu c (takes e vs) K st := by
  unfold tupF goTu
  cases takes e vs with
  | none => rfl
  | some p =>
    dsimp only
    split <;> rfl
def goLs (c : Ctx) (o : Option (List D × Env)) (K : List It) (st : List Val) : Res Flow := match o with
  | some (ds, e2) => if ds.length ≤ lineN then go c K (OL ds :: st) e2 else .no
  | none => .no
@[simp] theorem goLs_some {ds : List D} {e2 : Env} : goLs c (some (ds, e2)) K st = if ds.length ≤ lineN then go c K (OL ds :: st) e2 else .no := (rfl)
@[simp] theorem goR_lst {vs : List Val} : goR c (lstF vs e) K st = goLs c (takes e vs) K st := by
  unfold lstF goLs
  cases takes e vs with
  | none => rfl
  | some p =>
    dsimp only
    split <;> rfl
def goDi (c : Ctx) (o : Option (List D × Env)) (K : List It) (st : List Val) : Res Flow := match o with
  | some (ds, e2) => match twosK ds with
    | some kvs => if kvs.length ≤ 15 then go c K (OD (mergeD [] kvs) :: st) e2 else .no
    | none => .no
  | none => .no
@[simp] theorem goDi_some {ds : List D} {e2 : Env} : goDi c (some (ds, e2)) K st = match twosK ds with
    | some kvs => if kvs.length ≤ 15 then go c K (OD (mergeD [] kvs) :: st) e2 else .no
    | none => .no := (rfl)
@[simp] theorem goR_dic {vs : List Val} : goR c (dicF vs e) K st = goDi c (takes e vs) K st := by
  unfold dicF goDi
  cases takes e vs with
  | none => rfl
  | some p =>
    dsimp only
    cases twosK p.1 with
    | none => rfl
    | some kvs =>
      dsimp only
      split <;> rfl
def goTa (c : Ctx) (op : TOp) (kvs : List (Str × D)) (o : Option (List D × Env)) (K : List It) (st : List Val) : Res Flow := match o with
  | some (ds, e2) => goO c ((tabD op kvs ds).map Val.d) K st e2
  | none => .no
@[simp] theorem goTa_some {op : TOp} {kvs : List (Str × D)} {ds : List D} {e2 : Env} : goTa c op kvs (some (ds, e2)) K st = goO c ((tabD op kvs ds).map Val.d) K st e2 := (rfl)
@[simp] theorem goR_tab {op : TOp} {kvs : List (Str × D)} {vs : List Val} : goR c (tabF op kvs vs e) K st = goTa c op kvs (takes e vs) K st := by
  unfold tabF goTa
  cases takes e vs with
  | none => rfl
  | some p => exact goO_eq
@[simp] theorem go_mu' {m : Mu} {i : Nat} {es : List ME} : go c (.E (.mu m i es) :: K) st e = if isOl (getS e i) = true then go c (Es es (.muI m i es.length :: K)) st e else .no := by
  by_cases h : isOl (getS e i) = true
  · rw [if_pos h, go_mu h]
  · rw [if_neg h]
    show Res.bind (if isOl (getS e i) = true then _ else _) _ = _
    rw [if_neg h]
    rfl
@[simp] theorem go_upd' {i : Nat} {a : ME} : go c (.E (.upd i a) :: K) st e = if isOd (getS e i) = true then go c (.E a :: .updI i :: K) st e else .no := by
  by_cases h : isOd (getS e i) = true
  · rw [if_pos h, go_upd h]
  · rw [if_neg h]
    show Res.bind (if isOd (getS e i) = true then _ else _) _ = _
    rw [if_neg h]
    rfl
/-! ### by data -/
section
variable {i j : Int} {x y z : Str} {xs ys : List D}
@[simp] theorem bin_addI : binD .Add (.int i) (.int j) = some (Val.d (.int (i + j))) := (rfl)
@[simp] theorem bin_subI : binD .Sub (.int i) (.int j) = some (Val.d (.int (i - j))) := (rfl)
@[simp] theorem bin_mulI : binD .Mult (.int i) (.int j) = if okMul i j then some (Val.d (.int (i * j))) else none := (rfl)
@[simp] theorem bin_addS : binD .Add (.str x) (.str y) = if x.length + y.length ≤ lineN then some (Val.d (.str (x ++ y))) else none := (rfl)
@[simp] theorem bin_addT : binD .Add (.tuple xs) (.tuple ys) = if xs.length + ys.length ≤ lineN then some (Val.d (.tuple (xs ++ ys))) else none := (rfl)
@[simp] theorem bin_addL : binD .Add (.list xs) (.list ys) = if xs.length + ys.length ≤ lineN then some (OL (xs ++ ys)) else none := (rfl)
@[simp] theorem bin_mulL : binD .Mult (.list xs) (.int j) = if -(2 ^ 63) ≤ j ∧ j < 2 ^ 63 ∧ xs.length * j.toNat ≤ lineN then some (OL (repD xs j)) else none := (rfl)
@[simp] theorem bin_mulT : binD .Mult (.tuple xs) (.int j) = if xs ≠ [] ∧ 2 ≤ j ∧ j < 2 ^ 62 ∧ xs.length * j.toNat ≤ lineN then some (Val.d (.tuple (repD xs j))) else none := (rfl)
@[simp] theorem bin_mulS : binD .Mult (.str x) (.int j) = if 0 ≤ j ∧ j < 2 ^ 62 ∧ x.length * j.toNat ≤ lineN then some (Val.d (.str ⟨(repD x.cps.toList j).toArray⟩)) else none := (rfl)
@[simp] theorem bin_divI : binD .FloorDiv (.int i) (.int j) = if 0 < j ∧ j < 1073741824 then some (Val.d (.int (i / j))) else none := (rfl)
@[simp] theorem bin_modI : binD .Mod (.int i) (.int j) = if 0 < j then some (Val.d (.int (i % j))) else none := (rfl)
@[simp] theorem bin_powI : binD .Pow (.int i) (.int j) = if 0 ≤ j ∧ j ≤ 1000000 ∧ i.natAbs < 2 ^ 64 then some (Val.d (.int (i ^ j.toNat))) else none := (rfl)
@[simp] theorem cmp_eq {a b : D} : cmpD .Eq a b = eqD a b := (rfl)
@[simp] theorem cmp_ne {a b : D} : cmpD .NotEq a b = (eqD a b).map (!·) := (rfl)
@[simp] theorem cmp_in {a b : D} : cmpD .In a b = inD a b := (rfl)
@[simp] theorem cmp_nin {a b : D} : cmpD .NotIn a b = (inD a b).map (!·) := (rfl)
@[simp] theorem cmp_ltI : cmpD .Lt (.int i) (.int j) = some (decide (i < j)) := (rfl)
@[simp] theorem cmp_leI : cmpD .LtE (.int i) (.int j) = some (decide (i ≤ j)) := (rfl)
@[simp] theorem cmp_gtI : cmpD .Gt (.int i) (.int j) = some (decide (j < i)) := (rfl)
@[simp] theorem cmp_geI : cmpD .GtE (.int i) (.int j) = some (decide (j ≤ i)) := (rfl)
@[simp] theorem cmp_ltS : cmpD .Lt (.str x) (.str y) = some (ltS x y) := (rfl)
@[simp] theorem cmp_leS : cmpD .LtE (.str x) (.str y) = some (!ltS y x) := (rfl)
@[simp] theorem cmp_gtS : cmpD .Gt (.str x) (.str y) = some (ltS y x) := (rfl)
@[simp] theorem cmp_geS : cmpD .GtE (.str x) (.str y) = some (!ltS x y) := (rfl)
@[simp] theorem eqD_int : eqD (.int i) (.int j) = some (decide (i = j)) := by
  unfold eqD
  rw [if_pos (by rfl)]
  by_cases h : i = j <;> simp [PyData.eqv, h]
@[simp] theorem eqD_str : eqD (.str x) (.str y) = some (decide (x = y)) := by
  unfold eqD
  rw [if_pos (by rfl)]
  by_cases h : x = y <;> simp [PyData.eqv, h]
@[simp] theorem eqD_bool {p q : Bool} : eqD (.bool p) (.bool q) = some (decide (p = q)) := by
  unfold eqD
  rw [if_pos (by rfl)]
  cases p <;> cases q <;> rfl
@[simp] theorem eqD_non : eqD .none .none = some true := (rfl)
@[simp] theorem eqD_nonI : eqD .none (.int i) = some false := by
  unfold eqD
  rw [if_pos (by simp [scalD, okEq, PyData.canLay0, PyData.depth])]
  rfl
@[simp] theorem eqD_Inon : eqD (.int i) .none = some false := by
  unfold eqD
  rw [if_pos (by simp [scalD, okEq, PyData.canLay0, PyData.depth])]
  rfl
@[simp] theorem eqD_T0 : eqD (.tuple xs) (.tuple []) = some xs.isEmpty := by
  unfold eqD
  rw [if_pos (by simp [empD])]
  cases xs <;> rfl
@[simp] theorem eqD_L0 : eqD (.list xs) (.list []) = some xs.isEmpty := by
  unfold eqD
  rw [if_pos (by simp [empD])]
  cases xs <;> rfl
@[simp] theorem truD_bool {p : Bool} : truD (.bool p) = some p := (rfl)
@[simp] theorem truD_int : truD (.int i) = some (i != 0) := (rfl)
@[simp] theorem truD_list : truD (.list xs) = some (!xs.isEmpty) := (rfl)
@[simp] theorem truD_tuple : truD (.tuple xs) = some (!xs.isEmpty) := (rfl)
@[simp] theorem truD_non : truD .none = some false := (rfl)
@[simp] theorem idx_L : idxD (.list xs) (.int i) = L2.atI xs i := (rfl)
@[simp] theorem idx_T : idxD (.tuple xs) (.int i) = L2.atI xs i := (rfl)
@[simp] theorem idx_S : idxD (.str z) (.int i) = if z.length ≤ lineN then (L2.atI z.cps.toList i).map fun c => .str ⟨#[c]⟩ else none := (rfl)
@[simp] theorem sli_L {lo hi : Option Int} : sliD (.list xs) lo hi = some (OL (cut xs lo hi)) := (rfl)
@[simp] theorem sli_T {lo hi : Option Int} : sliD (.tuple xs) lo hi = some (Val.d (.tuple (cut xs lo hi))) := (rfl)
@[simp] theorem sli_S {lo hi : Option Int} : sliD (.str z) lo hi = if z.length ≤ lineN then some (Val.d (.str ⟨(cut z.cps.toList lo hi).toArray⟩)) else none := (rfl)
@[simp] theorem nonV_non : nonV e (Val.d .none) = some true := (rfl)
@[simp] theorem nonV_int : nonV e (Val.d (.int i)) = some false := (rfl)
@[simp] theorem nonV_bool {p : Bool} : nonV e (Val.d (.bool p)) = some false := (rfl)
@[simp] theorem nonV_str : nonV e (Val.d (.str x)) = some false := (rfl)
@[simp] theorem nonV_list : nonV e (Val.d (.list xs)) = some false := (rfl)
@[simp] theorem nonV_tuple : nonV e (Val.d (.tuple xs)) = some false := (rfl)
@[simp] theorem nonV_dict {kvs : List (D × D)} : nonV e (Val.d (.dict kvs)) = some false := (rfl)
@[simp] theorem nonV_ol {vs : List Val} : nonV e (.ol vs) = some false := (rfl)
@[simp] theorem nonV_od {vs : List (Key × Val)} : nonV e (.od vs) = some false := (rfl)
@[simp] theorem nonV_ex {c : Str} {fs : List (Str × D)} : nonV e (.ex c fs) = some false := (rfl)
theorem nonV_pk {k : Nat} : nonV e (.pk k) = match getS e k with
    | some (.ol _) => some false
    | some (.od _) => some false
    | _ => none := rfl
@[simp] theorem truV_b {p : Bool} : truV (Val.d (.bool p)) = some p := (rfl)
@[simp] theorem len_S : biD .len [.str z] = if z.length ≤ lineN then some (Val.d (.int z.length)) else none := (rfl)
@[simp] theorem len_L : biD .len [.list xs] = some (Val.d (.int xs.length)) := (rfl)
@[simp] theorem len_T : biD .len [.tuple xs] = some (Val.d (.int xs.length)) := (rfl)
@[simp] theorem len_D {kvs : List (D × D)} : biD .len [.dict kvs] = some (Val.d (.int kvs.length)) := (rfl)
@[simp] theorem all_L : biD .all [.list xs] = (boolsD xs).map fun bs => Val.d (.bool (bs.all id)) := (rfl)
@[simp] theorem any_L : biD .any [.list xs] = (boolsD xs).map fun bs => Val.d (.bool (bs.any id)) := (rfl)
@[simp] theorem sum_L : biD .sum [.list xs] = (intsD xs).map fun ns => Val.d (.int ns.sum) := (rfl)
@[simp] theorem max_L : biD .max [.list xs] = (intsD xs).bind fun ns => (maxL ns).map fun m => Val.d (.int m) := (rfl)
@[simp] theorem min_L : biD .min [.list xs] = (intsD xs).bind fun ns => (minL ns).map fun m => Val.d (.int m) := (rfl)
@[simp] theorem max_II : biD .max [.int i, .int j] = some (Val.d (.int (if j > i then j else i))) := (rfl)
@[simp] theorem min_II : biD .min [.int i, .int j] = some (Val.d (.int (if j < i then j else i))) := (rfl)
@[simp] theorem list_L : biD .list [.list xs] = some (OL xs) := (rfl)
@[simp] theorem list_T : biD .list [.tuple xs] = some (OL xs) := (rfl)
@[simp] theorem tuple_L : biD .tuple [.list xs] = some (Val.d (.tuple xs)) := (rfl)
@[simp] theorem tuple_T : biD .tuple [.tuple xs] = some (Val.d (.tuple xs)) := (rfl)
@[simp] theorem int_I : biD .int [.int i] = some (Val.d (.int i)) := (rfl)
@[simp] theorem int_B {p : Bool} : biD .int [.bool p] = some (Val.d (.int (if p then 1 else 0))) := (rfl)
@[simp] theorem abs_I : biD .abs [.int i] = some (Val.d (.int (if i < 0 then -i else i))) := (rfl)
theorem lenset_T : biD .lenset [.tuple xs] = (strsD xs).bind fun ss => if ss.length < 1000 then some (Val.d (.int (dedS ss).length)) else none := rfl
theorem lenset_L : biD .lenset [.list xs] = (strsD xs).bind fun ss => if ss.length < 1000 then some (Val.d (.int (dedS ss).length)) else none := rfl
@[simp] theorem aug_addI : augD .Add (.int i) (.int j) = some (.int (i + j)) := (rfl)
@[simp] theorem aug_subI : augD .Sub (.int i) (.int j) = some (.int (i - j)) := (rfl)
@[simp] theorem tab_get {kvs : List (Str × D)} {k : Str} : tabD .get kvs [.str k] = some ((kvs.lookup k).getD .none) := (rfl)
@[simp] theorem tab_get2 {kvs : List (Str × D)} {k : Str} {w : D} : tabD .get2 kvs [.str k, w] = some ((kvs.lookup k).getD w) := (rfl)
@[simp] theorem tab_idx {kvs : List (Str × D)} {k : Str} : tabD .idx kvs [.str k] = kvs.lookup k := (rfl)
@[simp] theorem isDic_d {kvs : List (D × D)} : isDicD (.dict kvs) = true := (rfl)
@[simp] theorem getD2_d {kvs : List (D × D)} {k w : D} : getD2 (.dict kvs) k w = (dKey k).map fun k => (getK kvs k).getD w := (rfl)
@[simp] theorem dKey_int : dKey (.int i) = some (.inl i) := (rfl)
@[simp] theorem dKey_str : dKey (.str x) = some (.inr x) := (rfl)
@[simp] theorem isi_d {x : D} {ts : List Ty} : isiV c e (Val.d x) ts = some (ts.any fun t => tyD t x) := (rfl)
@[simp] theorem isi_ol {vs : List Val} {ts : List Ty} : isiV c e (.ol vs) ts = ((allD vs).map PyData.list).map fun x => ts.any fun t => tyD t x := (rfl)
@[simp] theorem isi_pk {k : Nat} {ts : List Ty} : isiV c e (.pk k) ts = ((getS e k).bind frD).map fun x => ts.any fun t => tyD t x := (rfl)
@[simp] theorem isi_ex {x : Str} {ts : List Ty} : isiV c e (.ex x []) ts = some (ts.any fun t => tyE c.sub x t) := (rfl)
@[simp] theorem tyD_bt {n : String} {x : D} : tyD (.bt n) x = isiD x n := (rfl)
@[simp] theorem tyD_cl {n : Str} {x : D} : tyD (.cl n) x = false := (rfl)
@[simp] theorem tyE_bt {s : Str → Str → Bool} {n : String} {x : Str} : tyE s x (.bt n) = excBases.contains n := (rfl)
@[simp] theorem tyE_cl {s : Str → Str → Bool} {n : Str} {x : Str} : tyE s x (.cl n) = s x n := (rfl)
@[simp] theorem isiD_non {t : String} : isiD .none t = (t == "NoneType" || t == "object") := (rfl)
@[simp] theorem isiD_bool {t : String} {p : Bool} : isiD (.bool p) t = (t == "bool" || t == "int" || t == "object") := (rfl)
@[simp] theorem isiD_int {t : String} : isiD (.int i) t = (t == "int" || t == "object") := (rfl)
@[simp] theorem isiD_str {t : String} : isiD (.str x) t = (t == "str" || t == "object") := (rfl)
@[simp] theorem isiD_list {t : String} : isiD (.list xs) t = (t == "list" || t == "object") := (rfl)
@[simp] theorem isiD_tuple {t : String} : isiD (.tuple xs) t = (t == "tuple" || t == "object") := (rfl)
@[simp] theorem isiD_dict {t : String} {kvs : List (D × D)} : isiD (.dict kvs) t = (t == "dict" || t == "object") := (rfl)
@[simp] theorem walkV_d {xs : List D} : walkV e (Val.d (.list xs)) = some (xs, e) := (rfl)
@[simp] theorem walkV_t {xs : List D} : walkV e (Val.d (.tuple xs)) = some (xs, e) := (rfl)
@[simp] theorem walkV_s : walkV e (Val.d (.str z)) = if z.length ≤ lineN then some (signsD z, e) else none := (rfl)
@[simp] theorem walkV_ol {ds : List D} : walkV e (.ol (ds.map Val.d)) = some (ds, e) := by
  unfold walkV
  rw [take_ol, allD_map]
  rfl
theorem walkV_pk {k : Nat} {ds : List D} (h : getS e k = some (.ol (ds.map Val.d))) : walkV e (.pk k) = some (ds, e.set k (some (Val.d (.list ds)))) := by
  unfold walkV
  rw [take_pk, h]
  show (((frD (.ol (ds.map Val.d))).map fun x => (x, e.set k (some (Val.d x))))).bind _ = _
  rw [frD_ol, allD_map]
  rfl
theorem walkV_pk' {k : Nat} : walkV e (.pk k) = ((getS e k).bind fun v => (frD v).map fun x => (x, e.set k (some (Val.d x)))).bind fun p => match p.1 with
  | .list xs => some (xs, p.2)
  | .tuple xs => some (xs, p.2)
  | .str z => if z.length ≤ lineN then some (signsD z, p.2) else none
  | _ => none := rfl
@[simp] theorem walkR_i : walkR e (Val.d (.int j)) = if -(2 ^ 62) ≤ j ∧ j < 2 ^ 62 then some (rangeV 0 j.toNat, e) else none := (rfl)
@[simp] theorem walkR2_i : walkR2 e (Val.d (.int i)) (Val.d (.int j)) = if -(2 ^ 62) ≤ i ∧ i < 2 ^ 62 ∧ -(2 ^ 62) ≤ j ∧ j < 2 ^ 62 then some (rangeV i (j - i).toNat, e) else none := (rfl)
end
/-! ### a def's end -/
def endP (as : List Val) (e : Env) (v : Val) : CRes := match parts e 0 as with
  | some ps => .ok v ps
  | none => .no
def endX (as : List Val) (e : Env) (x : Ex) : CRes := match parts e 0 as with
  | some ps => .ex x ps
  | none => .no
@[simp] theorem endM_ret {as : List Val} {v : Val} : endM as (.ok (.ret v) e) = endP as e v := (rfl)
@[simp] theorem endM_nx {as : List Val} : endM as (.ok .nx e) = endP as e (Val.d .none) := (rfl)
@[simp] theorem endM_ex {as : List Val} {x : Ex} : endM as (.ex x e) = endX as e x := (rfl)
@[simp] theorem endM_ite {as : List Val} {p : Prop} [Decidable p] {a b : Res Flow} : endM as (if p then a else b) = if p then endM as a else endM as b := by split <;> rfl
@[simp] theorem goF_ite {p : Prop} [Decidable p] {a b : Res Flow} : goF c (if p then a else b) K st = if p then goF c a K st else goF c b K st := by split <;> rfl
@[simp] theorem parts_nil {k : Nat} : parts e k [] = some [] := (rfl)
@[simp] theorem parts_d {k : Nat} {x : D} {r : List Val} : parts e k (Val.d x :: r) = (parts e (k + 1) r).map (Val.d x :: ·) := (rfl)
@[simp] theorem parts_ol {k : Nat} {x : List Val} {r : List Val} : parts e k (.ol x :: r) = (getS e k).bind fun v => (parts e (k + 1) r).map (v :: ·) := (rfl)
@[simp] theorem parts_od {k : Nat} {x : List (Key × Val)} {r : List Val} : parts e k (.od x :: r) = (getS e k).bind fun v => (parts e (k + 1) r).map (v :: ·) := (rfl)
@[simp] theorem parts_ex {k : Nat} {x : Str} {fs : List (Str × D)} {r : List Val} : parts e k (.ex x fs :: r) = (parts e (k + 1) r).map (.ex x fs :: ·) := (rfl)
@[simp] theorem endP_eq {as : List Val} {v : Val} : endP as e v = match parts e 0 as with
  | some ps => .ok v ps
  | none => .no := (rfl)
@[simp] theorem endX_eq {as : List Val} {x : Ex} : endX as e x = match parts e 0 as with
  | some ps => .ex x ps
  | none => .no := (rfl)
@[simp] theorem back0 {e1 : Env} : backE e1 e [] = e := (rfl)
@[simp] theorem backE_cons {e1 : Env} {k : Nat} {r : List Nat} : backE e1 e (k :: r) = (backE e1 e r).set k ((e1[k]?).join) := (rfl)
@[simp] theorem wipeE_nil : wipeE e [] = e := (rfl)
@[simp] theorem wipeE_cons {k : Nat} {r : List Nat} : wipeE e (k :: r) = (wipeE e r).set k none := (rfl)
@[simp] theorem lcFree_none {k : Nat} (h : getS e k = none) : lcFree c e k = !decide (c.pr[k]? = some true) := by
  unfold lcFree
  rw [h]
  simp
end
end PM
end

section
set_option Elab.async false
set_option linter.all false
set_option maxRecDepth 100000
set_option maxHeartbeats 2000000
/-! PMGo4: slices with both bounds, with a step; dict of pairs. -/
namespace PM
open PySem
section
variable {c : Ctx} {K : List It} {st : List Val} {e : Env}
theorem int_bind {v : Val} {e1 : Env} {f : Option Int → Env → Res Flow} {g : Val → Env → Res Flow} (h : ∀ i, f (some i) e1 = g (Val.d (.int i)) e1) : (intP v e1).bind f = (match v with
    | Val.d (.int i) => .ok (Val.d (.int i)) e1
    | _ => .no : Res Val).bind g := by
  cases v with
  | d x => cases x with
    | int i => exact h i
    | _ => rfl
  | _ => rfl
@[simp] theorem go_sli3 {a l h : ME} : go c (.E (.sli a (some l) (some h)) :: K) st e = go c (.E a :: .E l :: .intI :: .E h :: .sliI true true :: K) st e := by
  show ((ev c a e).bind fun va e1 => ((ev c l e1).bind intP).bind fun l e2 => ((ev c h e2).bind intP).bind fun h e3 => _).bind _ = (ev c a e).bind fun va e1 => (ev c l e1).bind fun vl e2 => (match vl with
    | Val.d (.int i) => .ok (Val.d (.int i)) e2
    | _ => .no : Res Val).bind fun vl e2 => (ev c h e2).bind fun vh e3 => act c (.sliI true true) (vh :: vl :: va :: st) e3 (go c K)
  simp only [Res.bind_assoc, Res.bind_ok]
  congr 1; funext va e1
  congr 1; funext vl e2
  refine int_bind fun i => ?_
  show ((ev c h e2).bind fun v e => (intP v e).bind _) = (ev c h e2).bind _
  congr 1; funext vh e3
  cases vh with
  | d x => cases x <;> rfl
  | _ => rfl
@[simp] theorem go_sli11 {va : Val} {l h : Int} : go c (.sliI true true :: K) (Val.d (.int h) :: Val.d (.int l) :: va :: st) e = goO c (see1 e va fun x => sliD x (some l) (some h)) K st e := see1_eq
@[simp] theorem go_intI {i : Int} : go c (.intI :: K) (Val.d (.int i) :: st) e = go c K (Val.d (.int i) :: st) e := (rfl)
@[simp] theorem go_slis0 {a k : ME} : go c (.E (.slis a none none (some k)) :: K) st e = go c (.E a :: .E k :: .slsI false false :: K) st e := by
  show ((ev c a e).bind fun va e1 => (Res.ok none e1).bind fun l e2 => (Res.ok none e2).bind fun h e3 => ((ev c k e3).bind intP).bind fun k e4 => _).bind _ = (ev c a e).bind fun va e1 => (ev c k e1).bind fun vk e2 => act c (.slsI false false) (vk :: va :: st) e2 (go c K)
  simp only [Res.bind_assoc, Res.bind_ok]
  congr 1; funext va e1
  congr 1; funext vl e2
  cases vl with
  | d x => cases x with
    | int i =>
      show (match see e2 va, some i with
        | some x, some k => opt (slisD x none none k) e2
        | _, _ => .no : Res Val).bind _ = (match see e2 va with
        | some x => opt (slisD x none none i) e2
        | none => .no : Res Val).bind _
      cases see e2 va <;> rfl
    | _ => cases see e2 va <;> rfl
  | _ => cases see e2 va <;> rfl
@[simp] theorem go_slis1 {a l k : ME} : go c (.E (.slis a (some l) none (some k)) :: K) st e = go c (.E a :: .E l :: .intI :: .E k :: .slsI true false :: K) st e := by
  show ((ev c a e).bind fun va e1 => ((ev c l e1).bind intP).bind fun l e2 => (Res.ok none e2).bind fun h e3 => ((ev c k e3).bind intP).bind fun k e4 => _).bind _ = (ev c a e).bind fun va e1 => (ev c l e1).bind fun vl e2 => (match vl with
    | Val.d (.int i) => .ok (Val.d (.int i)) e2
    | _ => .no : Res Val).bind fun vl e2 => (ev c k e2).bind fun vk e2 => act c (.slsI true false) (vk :: vl :: va :: st) e2 (go c K)
  simp only [Res.bind_assoc, Res.bind_ok]
  congr 1; funext va e1
  congr 1; funext vl e2
  refine int_bind fun i => ?_
  show ((ev c k e2).bind fun v e => (intP v e).bind _) = (ev c k e2).bind _
  congr 1; funext vh e3
  cases vh with
  | d x => cases x with
    | int j =>
      show (match see e3 va, some j with
        | some x, some k => opt (slisD x (some i) none k) e3
        | _, _ => .no : Res Val).bind _ = (match see e3 va with
        | some x => opt (slisD x (some i) none j) e3
        | none => .no : Res Val).bind _
      cases see e3 va <;> rfl
    | _ => cases see e3 va <;> rfl
  | _ => cases see e3 va <;> rfl
@[simp] theorem go_sls00 {va : Val} {j : Int} : go c (.slsI false false :: K) (Val.d (.int j) :: va :: st) e = goO c (see1 e va fun x => slisD x none none j) K st e := see1_eq
@[simp] theorem go_sls10 {va : Val} {j l : Int} : go c (.slsI true false :: K) (Val.d (.int j) :: Val.d (.int l) :: va :: st) e = goO c (see1 e va fun x => slisD x (some l) none j) K st e := see1_eq
@[simp] theorem go_sls11 {va : Val} {j h l : Int} : go c (.slsI true true :: K) (Val.d (.int j) :: Val.d (.int h) :: Val.d (.int l) :: va :: st) e = goO c (see1 e va fun x => slisD x (some l) (some h) j) K st e := see1_eq
@[simp] theorem slis_L {xs : List D} {lo hi : Option Int} {j : Int} : slisD (.list xs) lo hi j = if j ≠ 0 ∧ (picks xs lo hi (some j)).length ≤ lineN then some (OL (picks xs lo hi (some j))) else none := (rfl)
@[simp] theorem dict_L {ps : List D} : biD .dict [.list ps] = (pairsK ps).map fun more => OD (mergeD [] more) := (rfl)
end
end PM
end

section
set_option Elab.async false
set_option linter.all false
/-! Texts of defs (printed by gen.py). -/
namespace PT
open PySem PM
def mb_is_name : List MS := [
  .ite (.or (.not (.isi (.v 0) [.bt "str"])) (.not (.chain .LtE .LtE (.c (.int 1)) (.bi .len [(.v 0)]) (.c (.int 6))))) [
    .ret (.c (.bool false))] [],
  .ret (.bi .all [(.lc (.cmp .In (.v 1) (.c (.str "abcdefghijklmnopqrstuvwxyz"))) (.nm 1) (.seq (.v 0)) [] [1])])]
def fd_is_name : FD := ⟨"", 1, 2, mb_is_name⟩
def mb_is_formed (c0 : Nat) : List MS := [
  .ite (.or (.not (.isi (.v 0) [.bt "tuple"])) (.or (.cmp .Eq (.v 0) (.tup [])) (.not (.isi (.idx (.v 0) (.c (.int 0))) [.bt "str"])))) [
    .ret (.c (.bool false))] [],
  .ite (.cmp .Eq (.idx (.v 0) (.c (.int 0))) (.c (.str "on"))) [
    .ret (.and (.cmp .Eq (.bi .len [(.v 0)]) (.c (.int 2))) (.call c0 [(.idx (.v 0) (.c (.int 1)))]))] [],
  .ite (.cmp .In (.idx (.v 0) (.c (.int 0))) (.tup [(.c (.str "and")), (.c (.str "or"))])) [
    .ret (.chain .LtE .LtE (.c (.int 3)) (.bi .len [(.v 0)]) (.bin .Add (.v 1) (.c (.int 1))))] [],
  .ret (.cmp .Eq (.tab .get [("yes", (.int 0)), ("no", (.int 0)), ("not", (.int 1)), ("same", (.int 2)), ("pick", (.int 3))] [(.idx (.v 0) (.c (.int 0)))]) (.bin .Sub (.bi .len [(.v 0)]) (.c (.int 1))))]
def fd_is_formed (c0 : Nat) : FD := ⟨"", 2, 2, mb_is_formed c0⟩
def mb_kids_of : List MS := [
  .ret (.ite (.cmp .Eq (.idx (.v 0) (.c (.int 0))) (.c (.str "on"))) (.tup []) (.sli (.v 0) (some (.c (.int 1))) none))]
def fd_kids_of : FD := ⟨"", 1, 1, mb_kids_of⟩
def mb_is_said (c0 c1 : Nat) : List MS := [
  .set (.nm 2) (.lst [(.v 0)]),
  .set (.nm 3) (.c (.int 0)),
  .set (.nm 4) (.dic []),
  .for_ (.nm 5) (.rng1 (.c (.int 8))) [
    .aug 3 .Add (.bi .len [(.v 2)]),
    .ite (.or (.cmp .Gt (.v 3) (.c (.int 40))) (.not (.bi .all [(.lc (.call c0 [(.v 6), (.v 1)]) (.nm 6) (.seq (.v 2)) [] [6])]))) [
      .ret (.c (.bool false))] [],
    .expr (.upd 4 (.lc (.tup [(.idx (.v 6) (.c (.int 1))), (.c (.bool true))]) (.nm 6) (.seq (.v 2)) [(.cmp .Eq (.idx (.v 6) (.c (.int 0))) (.c (.str "on")))] [6])),
    .set (.nm 7) (.lst []),
    .for_ (.nm 6) (.seq (.v 2)) [
      .expr (.mu .extend 7 [(.call c1 [(.v 6)])])],
    .set (.nm 2) (.v 7),
    .ite (.cmp .Eq (.v 2) (.lst [])) [
      .ret (.cmp .LtE (.bi .len [(.v 4)]) (.c (.int 8)))] []],
  .ret (.c (.bool false))]
def fd_is_said (c0 c1 : Nat) : FD := ⟨"", 2, 8, mb_is_said c0 c1⟩
def mb_is_saying (c0 : Nat) : List MS := [
  .ret (.call c0 [(.v 0), (.c (.int 6))])]
def fd_is_saying (c0 : Nat) : FD := ⟨"", 1, 1, mb_is_saying c0⟩
def mb_need_saying (c0 : Nat) : List MS := [
  .ite (.not (.call c0 [(.v 0)])) [
    .raise "BadSaying" [(.c (.str "a saying is wanted"))]] []]
def fd_need_saying (c0 : Nat) : FD := ⟨"", 1, 1, mb_need_saying c0⟩
def mb__law_mixed : List MS := [
  .set (.nm 0) (.bin .Mod (.bin .Mult (.bin .Add (.bin .Add (.bin .Mod (.v 0) (.c (.int 2147483647))) (.bin .Mult (.bin .Mult (.c (.int 7919)) (.v 1)) (.v 1))) (.bin .Mult (.c (.int 31)) (.v 1))) (.c (.int 48271))) (.c (.int 2147483647))),
  .ret (.bin .Mod (.bin .Mult (.v 0) (.bin .Add (.c (.int 69621)) (.bin .Mult (.c (.int 2)) (.v 1)))) (.c (.int 2147483629)))]
def fd__law_mixed : FD := ⟨"", 2, 2, mb__law_mixed⟩
def mb__law_stream (c0 : Nat) : List MS := [
  .ret (.lst [(.cmp .GtE (.v 0) (.bin .Pow (.c (.int 10)) (.c (.int 18)))), (.v 0), (.c (.int 0)), (.call c0 [(.v 0), (.v 1)])])]
def fd__law_stream (c0 : Nat) : FD := ⟨"", 2, 2, mb__law_stream c0⟩
def mb__law_take (c0 : Nat) : List MS := [
  .setix 0 (.c (.int 2)) (.bin .Add (.idx (.v 0) (.c (.int 2))) (.c (.int 1))),
  .ite (.or (.not (.idx (.v 0) (.c (.int 0)))) (.or (.cmp .In (.idx (.v 0) (.c (.int 1))) (.tup [(.c (.int 0)), (.neg (.c (.int 1)))])) (.cmp .Gt (.idx (.v 0) (.c (.int 2))) (.c (.int 60))))) [
    .ret (.bin .Mod (.call c0 [(.call c0 [(.idx (.v 0) (.c (.int 3))), (.idx (.v 0) (.c (.int 2)))]), (.c (.int 7))]) (.v 1))] [],
  .set (.nm 2) (.bin .Mod (.idx (.v 0) (.c (.int 1))) (.v 1)),
  .setix 0 (.c (.int 1)) (.bin .FloorDiv (.idx (.v 0) (.c (.int 1))) (.v 1)),
  .ret (.v 2)]
def fd__law_take (c0 : Nat) : FD := ⟨"", 2, 3, mb__law_take c0⟩
def mb__law_names_by (c0 : Nat) : List MS := [
  .set (.nm 2) (.c (.str "abcdefghijklmnopqrstuvwxyz")),
  .par [3, 4] [(.call c0 [(.v 0), (.c (.int 26))]), (.idx (.lst [(.c (.int 1)), (.c (.int 3)), (.c (.int 5)), (.c (.int 7)), (.c (.int 9)), (.c (.int 11)), (.c (.int 15)), (.c (.int 17))]) (.call c0 [(.v 0), (.c (.int 8))]))],
  .set (.nm 5) (.lst []),
  .for_ (.nm 6) (.rng1 (.v 1)) [
    .set (.nm 7) (.idx (.v 2) (.bin .Mod (.bin .Add (.v 3) (.bin .Mult (.v 4) (.v 6))) (.c (.int 26)))),
    .for_ (.nm 8) (.rng1 (.call c0 [(.v 0), (.c (.int 6))])) [
      .set (.nm 7) (.bin .Add (.v 7) (.idx (.v 2) (.call c0 [(.v 0), (.c (.int 26))])))],
    .ite (.and (.cmp .NotEq (.v 5) (.lst [])) (.and (.cmp .Lt (.bi .len [(.idx (.v 5) (.neg (.c (.int 1))))]) (.c (.int 6))) (.cmp .Eq (.call c0 [(.v 0), (.c (.int 4))]) (.c (.int 1))))) [
      .set (.nm 7) (.bin .Add (.idx (.v 5) (.neg (.c (.int 1)))) (.idx (.v 2) (.call c0 [(.v 0), (.c (.int 26))])))] [],
    .expr (.mu .append 5 [(.v 7)])],
  .ret (.v 5)]
def fd__law_names_by (c0 : Nat) : FD := ⟨"", 2, 9, mb__law_names_by c0⟩
def mb__law_leaf (c0 : Nat) : List MS := [
  .ite (.or (.cmp .Eq (.v 1) (.lst [])) (.cmp .Eq (.call c0 [(.v 0), (.c (.int 9))]) (.c (.int 8)))) [
    .ret (.idx (.lst [(.tup [(.c (.str "yes"))]), (.tup [(.c (.str "no"))])]) (.call c0 [(.v 0), (.c (.int 2))]))] [],
  .ret (.tup [(.c (.str "on")), (.idx (.v 1) (.call c0 [(.v 0), (.bi .len [(.v 1)])]))])]
def fd__law_leaf (c0 : Nat) : FD := ⟨"", 2, 2, mb__law_leaf c0⟩
def mb__law_saying_by (c0 c1 c2 : Nat) : List MS := [
  .set (.nm 4) (.call c0 [(.v 0), (.c (.int 16))]),
  .ite (.or (.cmp .Gt (.v 4) (.c (.int 12))) (.or (.cmp .Lt (.v 2) (.c (.int 3))) (.cmp .Lt (.v 3) (.c (.int 2))))) [
    .ret (.call c1 [(.v 0), (.v 1)])] [],
  .ite (.cmp .Lt (.v 4) (.c (.int 3))) [
    .ret (.tup [(.c (.str "not")), (.call c2 [(.v 0), (.v 1), (.bin .Sub (.v 2) (.c (.int 1))), (.bin .Sub (.v 3) (.c (.int 1)))])])] [],
  .set (.nm 5) (.idx (.lst [(.c (.str "and")), (.c (.str "or")), (.c (.str "and")), (.c (.str "or")), (.c (.str "and")), (.c (.str "or")), (.c (.str "same")), (.c (.str "same")), (.c (.str "pick")), (.c (.str "pick"))]) (.bin .Sub (.v 4) (.c (.int 3)))),
  .set (.nm 6) (.dget2 (.dic [(.c (.str "same")), (.c (.int 2)), (.c (.str "pick")), (.c (.int 3))]) (.v 5) (.bi .min [(.bin .Sub (.v 2) (.c (.int 1))), (.bin .Add (.c (.int 2)) (.call c0 [(.v 0), (.c (.int 5))]))])),
  .ite (.and (.cmp .Eq (.v 5) (.c (.str "pick"))) (.cmp .Lt (.v 2) (.c (.int 4)))) [
    .set (.tup [(.nm 5), (.nm 6)]) (.tup [(.c (.str "same")), (.c (.int 2))])] [],
  .set (.nm 7) (.lst []),
  .for_ (.nm 8) (.rng1 (.v 6)) [
    .expr (.mu .append 7 [(.call c2 [(.v 0), (.v 1), (.bin .FloorDiv (.bin .Sub (.v 2) (.c (.int 1))) (.v 6)), (.bin .Sub (.v 3) (.c (.int 1)))])]),
    .ite (.and (.cmp .Gt (.v 8) (.c (.int 0))) (.cmp .Eq (.call c0 [(.v 0), (.c (.int 6))]) (.c (.int 1)))) [
      .setix 7 (.v 8) (.idx (.v 7) (.call c0 [(.v 0), (.v 8)]))] []],
  .ret (.bin .Add (.tup [(.v 5)]) (.bi .tuple [(.v 7)]))]
def fd__law_saying_by (c0 c1 c2 : Nat) : FD := ⟨"", 4, 9, mb__law_saying_by c0 c1 c2⟩
def mb__law_is_name : List MS := [
  .ite (.or (.not (.isi (.v 0) [.bt "str"])) (.or (.cmp .Lt (.bi .len [(.v 0)]) (.c (.int 1))) (.cmp .Gt (.bi .len [(.v 0)]) (.c (.int 6))))) [
    .ret (.c (.bool false))] [],
  .ret (.cmp .Eq (.lc (.v 1) (.nm 1) (.seq (.v 0)) [(.cmp .NotIn (.v 1) (.c (.str "abcdefghijklmnopqrstuvwxyz")))] [1]) (.lst []))]
def fd__law_is_name : FD := ⟨"", 1, 2, mb__law_is_name⟩
def mb__law_kids_8d47 (c0 : Nat) : List MS := [
  .ite (.or (.not (.isi (.v 0) [.bt "tuple"])) (.or (.cmp .Lt (.bi .len [(.v 0)]) (.c (.int 1))) (.not (.isi (.idx (.v 0) (.c (.int 0))) [.bt "str"])))) [
    .ret (.c .none)] [],
  .set (.tup [(.nm 1), (.nm 2)]) (.tup [(.idx (.v 0) (.c (.int 0))), (.bi .list [(.sli (.v 0) (some (.c (.int 1))) none)])]),
  .ite (.cmp .Eq (.v 1) (.c (.str "on"))) [
    .ret (.ite (.and (.cmp .Eq (.bi .len [(.v 2)]) (.c (.int 1))) (.call c0 [(.idx (.v 2) (.c (.int 0)))])) (.lst []) (.c .none))] [],
  .ite (.cmp .In (.v 1) (.tup [(.c (.str "and")), (.c (.str "or"))])) [
    .ret (.ite (.chain .LtE .LtE (.c (.int 2)) (.bi .len [(.v 2)]) (.c (.int 6))) (.v 2) (.c .none))] [],
  .set (.nm 3) (.lc (.idx (.v 4) (.c (.int 1))) (.nm 4) (.seq (.lst [(.tup [(.c (.str "yes")), (.c (.int 0))]), (.tup [(.c (.str "no")), (.c (.int 0))]), (.tup [(.c (.str "not")), (.c (.int 1))]), (.tup [(.c (.str "same")), (.c (.int 2))]), (.tup [(.c (.str "pick")), (.c (.int 3))])])) [(.cmp .Eq (.idx (.v 4) (.c (.int 0))) (.v 1))] [4]),
  .ret (.ite (.cmp .Eq (.v 3) (.lst [(.bi .len [(.v 2)])])) (.v 2) (.c .none))]
def fd__law_kids_8d47 (c0 : Nat) : FD := ⟨"", 1, 5, mb__law_kids_8d47 c0⟩
def mb__law_is_saying (c0 : Nat) : List MS := [
  .set (.nm 1) (.lst [(.tup [(.v 0), (.c (.int 1))])]),
  .set (.nm 2) (.c (.int 0)),
  .set (.nm 3) (.lst []),
  .while (.cmp .Lt (.v 2) (.bi .len [(.v 1)])) [
    .set (.tup [(.nm 4), (.nm 5)]) (.idx (.v 1) (.v 2)),
    .set (.nm 6) (.call c0 [(.v 4)]),
    .ite (.or (.isN false (.v 6)) (.or (.cmp .Gt (.v 5) (.c (.int 8))) (.cmp .Gt (.bi .len [(.v 1)]) (.c (.int 40))))) [
      .ret (.c (.bool false))] [],
    .ite (.and (.cmp .Eq (.idx (.v 4) (.c (.int 0))) (.c (.str "on"))) (.cmp .NotIn (.idx (.v 4) (.c (.int 1))) (.v 3))) [
      .expr (.mu .append 3 [(.idx (.v 4) (.c (.int 1)))])] [],
    .set (.nm 1) (.bin .Add (.v 1) (.lc (.tup [(.v 7), (.bin .Add (.v 5) (.c (.int 1)))]) (.nm 7) (.seq (.v 6)) [] [7])),
    .set (.nm 2) (.bin .Add (.v 2) (.c (.int 1)))],
  .ret (.cmp .LtE (.bi .len [(.v 3)]) (.c (.int 8)))]
def fd__law_is_saying (c0 : Nat) : FD := ⟨"", 1, 8, mb__law_is_saying c0⟩
def mb__law_at (c0 c1 c2 : Nat) : List MS := [
  .ite (.cmp .Eq (.v 1) (.c (.int 0))) [
    .ret (.v 0)] [],
  .set (.nm 2) (.bin .Sub (.v 1) (.c (.int 1))),
  .for_ (.nm 3) (.seq (.call c0 [(.v 0)])) [
    .set (.nm 4) (.call c1 [(.v 3)]),
    .ite (.cmp .Lt (.v 2) (.v 4)) [
      .ret (.call c2 [(.v 3), (.v 2)])] [],
    .set (.nm 2) (.bin .Sub (.v 2) (.v 4))],
  .ret (.c .none)]
def fd__law_at (c0 c1 c2 : Nat) : FD := ⟨"", 2, 5, mb__law_at c0 c1 c2⟩
def mb__law_many (c0 c1 : Nat) : List MS := [
  .ret (.bin .Add (.c (.int 1)) (.bi .sum [(.lc (.call c0 [(.v 1)]) (.nm 1) (.seq (.call c1 [(.v 0)])) [] [1])]))]
def fd__law_many (c0 c1 : Nat) : FD := ⟨"", 1, 2, mb__law_many c0 c1⟩
def mb__law_with (c0 c1 : Nat) : List MS := [
  .ite (.cmp .Eq (.v 1) (.c (.int 0))) [
    .ret (.v 2)] [],
  .set (.nm 3) (.bin .Sub (.v 1) (.c (.int 1))),
  .set (.nm 4) (.lst [(.idx (.v 0) (.c (.int 0)))]),
  .for_ (.nm 5) (.seq (.sli (.v 0) (some (.c (.int 1))) none)) [
    .set (.nm 6) (.ite (.isi (.v 5) [.bt "tuple"]) (.call c0 [(.v 5)]) (.c (.int 0))),
    .ite (.chain .LtE .Lt (.c (.int 0)) (.v 3) (.v 6)) [
      .expr (.mu .append 4 [(.call c1 [(.v 5), (.v 3), (.v 2)])])] [
      .expr (.mu .append 4 [(.v 5)])],
    .set (.nm 3) (.bin .Sub (.v 3) (.v 6))],
  .ret (.bi .tuple [(.v 4)])]
def fd__law_with (c0 c1 : Nat) : FD := ⟨"", 3, 7, mb__law_with c0 c1⟩
def mb__law_bent (c0 : Nat) : List MS := [
  .set (.nm 3) (.lst [(.bin .Add (.v 1) (.tup [(.v 2)])), (.sli (.v 1) none (some (.neg (.c (.int 1))))), (.bi .list [(.v 1)]), (.tup [(.idx (.v 1) (.c (.int 0))), (.bi .list [(.sli (.v 1) (some (.c (.int 1))) none)])]), (.c .none), (.c (.str "yes")), (.tup [(.c (.str "maybe"))])]),
  .set (.nm 3) (.bin .Add (.v 3) (.lst [(.tup [(.c (.str "on")), (.c (.str "aB"))]), (.tup []), (.tup [(.c (.str "on"))]), (.tup [(.c (.str "on")), (.v 2)]), (.tup [(.c (.str "not")), (.v 2), (.v 2)]), (.tup [(.c (.str "yes")), (.v 2)]), (.tup [(.c (.str "and")), (.v 2)])])),
  .set (.nm 3) (.bin .Add (.v 3) (.lst [(.tup [(.c (.str "same")), (.v 2)]), (.tup [(.c (.str "pick")), (.v 2), (.v 2)]), (.bin .Add (.tup [(.c (.str "or"))]) (.bin .Mult (.tup [(.v 2)]) (.c (.int 7)))), (.tup [(.v 2)]), (.bin .Add (.tup [(.c (.bool true))]) (.sli (.v 1) (some (.c (.int 1))) none))])),
  .set (.nm 3) (.bin .Add (.v 3) (.lst [(.bin .Add (.tup [(.mt .upper (.idx (.v 1) (.c (.int 0))) [])]) (.sli (.v 1) (some (.c (.int 1))) none)), (.tup [(.c (.str "no")), (.tup [(.c (.str "no"))])])])),
  .set (.nm 3) (.bin .Add (.v 3) (.lst [(.bin .Add (.tup [(.c (.str "and"))]) (.bin .Mult (.tup [(.v 2)]) (.c (.int 6)))), (.tup [(.c (.str "pick")), (.v 2), (.v 2), (.v 2)]), (.tup [(.c (.str "not")), (.v 2)]), (.tup [(.c (.str "on")), (.c (.str "abcdefg"))]), (.c (.int 5)), (.dic []), (.lst [(.v 2)])])),
  .ret (.idx (.v 3) (.call c0 [(.v 0), (.c (.int 28))]))]
def fd__law_bent (c0 : Nat) : FD := ⟨"", 3, 4, mb__law_bent c0⟩
def mb__law_great : List MS := [
  .set (.nm 0) (.tup [(.c (.str "on")), (.c (.str "a"))]),
  .set (.nm 1) (.v 0),
  .for_ (.nm 2) (.rng1 (.c (.int 7))) [
    .set (.nm 1) (.tup [(.c (.str "not")), (.v 1)])],
  .set (.nm 3) (.bin .Add (.tup [(.c (.str "and"))]) (.bin .Mult (.tup [(.v 0)]) (.c (.int 5)))),
  .set (.nm 4) (.tup [(.c (.str "or")), (.v 3), (.v 3), (.v 3), (.v 3), (.v 3), (.tup [(.c (.str "and")), (.v 0), (.v 0)])]),
  .set (.nm 5) (.lst [(.tup [(.v 1), (.c (.bool true))]), (.tup [(.tup [(.c (.str "not")), (.v 1)]), (.c (.bool false))]), (.tup [(.bin .Add (.tup [(.c (.str "and"))]) (.bin .Mult (.tup [(.v 0)]) (.c (.int 6)))), (.c (.bool true))])]),
  .expr (.mu .append 5 [(.tup [(.bin .Add (.tup [(.c (.str "and"))]) (.bin .Mult (.tup [(.v 0)]) (.c (.int 7)))), (.c (.bool false))])]),
  .set (.nm 6) (.lc (.tup [(.c (.str "on")), (.v 7)]) (.nm 7) (.seq (.c (.str "abcdefghi"))) [] [7]),
  .expr (.mu .append 5 [(.tup [(.tup [(.c (.str "or")), (.bin .Add (.tup [(.c (.str "or"))]) (.bi .tuple [(.sli (.v 6) none (some (.c (.int 4))))])), (.bin .Add (.tup [(.c (.str "or"))]) (.bi .tuple [(.sli (.v 6) (some (.c (.int 4))) (some (.c (.int 8))))]))]), (.c (.bool true))])]),
  .expr (.mu .append 5 [(.tup [(.tup [(.c (.str "or")), (.bin .Add (.tup [(.c (.str "or"))]) (.bi .tuple [(.sli (.v 6) none (some (.c (.int 4))))])), (.bin .Add (.tup [(.c (.str "or"))]) (.bi .tuple [(.sli (.v 6) (some (.c (.int 4))) none)]))]), (.c (.bool false))])]),
  .set (.nm 5) (.bin .Add (.v 5) (.lst [(.tup [(.v 4), (.c (.bool true))]), (.tup [(.tup [(.c (.str "not")), (.tup [(.c (.str "or")), (.v 3), (.v 3), (.v 3), (.v 3), (.v 3), (.v 3)])]), (.c (.bool true))])])),
  .expr (.mu .append 5 [(.tup [(.tup [(.c (.str "not")), (.tup [(.c (.str "not")), (.tup [(.c (.str "not")), (.tup [(.c (.str "or")), (.v 3), (.v 3), (.v 3), (.v 3), (.v 3), (.v 3)])])])]), (.c (.bool true))])]),
  .expr (.mu .append 5 [(.tup [(.tup [(.c (.str "and")), (.tup [(.c (.str "not")), (.tup [(.c (.str "or")), (.v 3), (.v 3), (.v 3), (.v 3), (.v 3), (.v 3)])]), (.v 0)]), (.c (.bool true))])]),
  .expr (.mu .append 5 [(.tup [(.tup [(.c (.str "and")), (.tup [(.c (.str "not")), (.tup [(.c (.str "or")), (.v 3), (.v 3), (.v 3), (.v 3), (.v 3), (.v 3)])]), (.v 0), (.v 0)]), (.c (.bool false))])]),
  .ret (.v 5)]
def fd__law_great : FD := ⟨"", 0, 8, mb__law_great⟩
def mb__law_far : List MS := [
  .set (.tup [(.nm 0), (.nm 1)]) (.tup [(.tup [(.c (.str "yes"))]), (.tup [(.c (.str "yes"))])]),
  .for_ (.nm 2) (.rng1 (.c (.int 5000))) [
    .set (.nm 0) (.tup [(.c (.str "not")), (.v 0)])],
  .for_ (.nm 2) (.rng1 (.c (.int 60))) [
    .set (.nm 1) (.tup [(.c (.str "and")), (.v 1), (.v 1)])],
  .ret (.lst [(.v 0), (.v 1), (.bin .Add (.tup [(.c (.str "or"))]) (.bin .Mult (.tup [(.tup [(.c (.str "yes"))])]) (.c (.int 5000)))), (.tup [(.c (.str "on")), (.bin .Mult (.c (.str "a")) (.c (.int 5000)))])])]
def fd__law_far : FD := ⟨"", 0, 3, mb__law_far⟩
def mb__law_said (c0 c1 : Nat) : List MS := [
  .set (.nm 1) (.c .none),
  .set (.nm 2) (.c .none),
  .tryset [
    .set (.nm 2) (.call c0 [(.v 0)])] "ReadyError" 3 1,
  .ite (.isN false (.v 1)) [
    .ret (.ite (.isN false (.v 2)) (.c (.str "good")) (.c (.str "told")))] [],
  .ret (.call c1 [(.v 1)])]
def fd__law_said (c0 c1 : Nat) : FD := ⟨"", 1, 4, mb__law_said c0 c1⟩
def mb__law_word : List MS := [
  .set (.nm 1) (.lst [(.tup [(.c (.str "name")), (.isi (.v 0) [.cl "BadName"])]), (.tup [(.c (.str "names")), (.isi (.v 0) [.cl "BadNames"])])]),
  .set (.nm 1) (.bin .Add (.v 1) (.lst [(.tup [(.c (.str "saying")), (.isi (.v 0) [.cl "BadSaying"])]), (.tup [(.c (.str "setting")), (.isi (.v 0) [.cl "BadSetting"])])])),
  .set (.nm 1) (.bin .Add (.v 1) (.lst [(.tup [(.c (.str "number")), (.isi (.v 0) [.cl "BadNumber"])]), (.tup [(.c (.str "great")), (.isi (.v 0) [.cl "TooGreat"])])])),
  .expr (.mu .append 1 [(.tup [(.c (.str "other")), (.isi (.v 0) [.cl "BadLine", .cl "BadOrder", .cl "BadPaper", .cl "BadText", .cl "BadWeb", .cl "BadWeights", .cl "NoSetting"])])]),
  .expr (.mu .append 1 [(.tup [(.c (.str "more")), (.isi (.v 0) [.cl "BadAsked", .cl "Full", .cl "NoSaying", .cl "Twice"])])]),
  .set (.nm 2) (.lc (.v 3) (.tup [(.nm 3), (.nm 4)]) (.seq (.v 1)) [(.v 4)] [3, 4]),
  .ret (.ite (.and (.cmp .Eq (.bi .len [(.v 2)]) (.c (.int 1))) (.isi (.v 0) [.bt "ValueError"])) (.idx (.v 2) (.c (.int 0))) (.c (.str "many")))]
def fd__law_word : FD := ⟨"", 1, 5, mb__law_word⟩
def mb__law_right (c0 c1 : Nat) : List MS := [
  .for_ (.nm 2) (.rng1 (.c (.int 2))) [
    .set (.nm 3) (.call c0 [(.v 0)]),
    .ite (.or (.not (.isi (.v 3) [.bt "bool"])) (.cmp .NotEq (.v 3) (.v 1))) [
      .ret (.c (.bool false))] [],
    .ite (.cmp .NotEq (.call c1 [(.v 0)]) (.idx (.lst [(.c (.str "saying")), (.c (.str "good"))]) (.bi .int [(.v 1)]))) [
      .ret (.c (.bool false))] []],
  .ret (.c (.bool true))]
def fd__law_right (c0 c1 : Nat) : FD := ⟨"", 2, 4, mb__law_right c0 c1⟩
def mb_law (c0 c1 c2 c3 c4 c5 c6 c7 c8 c9 c10 c11 c12 : Nat) : List MS := [
  .for_ (.tup [(.nm 1), (.nm 2)]) (.seq (.bin .Add (.call c0 []) (.lc (.tup [(.v 1), (.c (.bool false))]) (.nm 1) (.seq (.call c1 [])) [] [1]))) [
    .ite (.not (.call c2 [(.v 1), (.v 2)])) [
      .ret (.c (.bool false))] []],
  .for_ (.tup [(.nm 3), (.nm 4)]) (.enum (.sli (.bin .Add (.v 0) (.lst [(.c (.int 0))])) none (some (.c (.int 63))))) [
    .set (.nm 5) (.call c3 [(.v 4), (.v 3)]),
    .set (.nm 6) (.call c4 [(.v 5), (.call c5 [(.v 5), (.c (.int 9))])]),
    .set (.nm 7) (.call c6 [(.v 5), (.v 6), (.idx (.lst [(.c (.int 6)), (.c (.int 14)), (.c (.int 30))]) (.call c5 [(.v 5), (.c (.int 3))])), (.bin .Add (.c (.int 2)) (.call c5 [(.v 5), (.c (.int 6))]))]),
    .set (.nm 8) (.call c5 [(.v 5), (.call c7 [(.v 7)])]),
    .set (.nm 9) (.idx (.lst [(.v 7), (.call c8 [(.v 5), (.v 6)])]) (.call c5 [(.v 5), (.c (.int 2))])),
    .set (.nm 10) (.call c9 [(.v 7), (.v 8), (.call c10 [(.v 5), (.call c11 [(.v 7), (.v 8)]), (.v 9)])]),
    .ite (.or (.not (.call c2 [(.v 7), (.c (.bool true))])) (.not (.call c2 [(.v 10), (.call c12 [(.v 10)])]))) [
      .ret (.c (.bool false))] []],
  .ret (.c (.bool true))]
def fd_law (c0 c1 c2 c3 c4 c5 c6 c7 c8 c9 c10 c11 c12 : Nat) : FD := ⟨"", 1, 11, mb_law c0 c1 c2 c3 c4 c5 c6 c7 c8 c9 c10 c11 c12⟩
end PT
end

section
set_option Elab.async false
set_option linter.all false
/-! Texts of defs (printed by gen.py). -/
namespace PT
open PySem PM
def mb_is_whole : List MS := [
  .ret (.and (.isi (.v 0) [.bt "int"]) (.not (.isi (.v 0) [.bt "bool"])))]
def fd_is_whole : FD := ⟨"", 1, 1, mb_is_whole⟩
def mb_is_names (c0 : Nat) : List MS := [
  .ite (.or (.not (.isi (.v 0) [.bt "tuple"])) (.or (.cmp .Gt (.bi .len [(.v 0)]) (.c (.int 8))) (.not (.bi .all [(.lc (.call c0 [(.v 1)]) (.nm 1) (.seq (.v 0)) [] [1])])))) [
    .ret (.c (.bool false))] [],
  .ret (.cmp .Eq (.bi .lenset [(.v 0)]) (.bi .len [(.v 0)]))]
def fd_is_names (c0 : Nat) : FD := ⟨"", 1, 2, mb_is_names c0⟩
def mb_need_names (c0 : Nat) : List MS := [
  .ite (.not (.call c0 [(.v 0)])) [
    .raise "BadNames" [(.c (.str "a tuple of at most eight unlike names is wanted"))]] []]
def fd_need_names (c0 : Nat) : FD := ⟨"", 1, 1, mb_need_names c0⟩
def mb_is_setting : List MS := [
  .ite (.or (.not (.isi (.v 1) [.bt "tuple"])) (.cmp .NotEq (.bi .len [(.v 1)]) (.bi .len [(.v 0)]))) [
    .ret (.c (.bool false))] [],
  .ret (.bi .all [(.lc (.isi (.v 2) [.bt "bool"]) (.nm 2) (.seq (.v 1)) [] [2])])]
def fd_is_setting : FD := ⟨"", 2, 3, mb_is_setting⟩
def mb_need_setting (c0 c1 : Nat) : List MS := [
  .expr (.call c0 [(.v 0)]),
  .ite (.not (.call c1 [(.v 0), (.v 1)])) [
    .raise "BadSetting" [(.c (.str "a truth for each name is wanted"))]] []]
def fd_need_setting (c0 c1 : Nat) : FD := ⟨"", 2, 2, mb_need_setting c0 c1⟩
def mb_many_settings : List MS := [
  .set (.nm 1) (.c (.int 1)),
  .for_ (.nm 2) (.seq (.v 0)) [
    .set (.nm 1) (.bin .Mult (.v 1) (.c (.int 2)))],
  .ret (.v 1)]
def fd_many_settings : FD := ⟨"", 1, 3, mb_many_settings⟩
def mb_setting_at (c0 c1 c2 : Nat) : List MS := [
  .expr (.call c0 [(.v 0)]),
  .ite (.or (.not (.call c1 [(.v 1)])) (.not (.chain .LtE .Lt (.c (.int 0)) (.v 1) (.call c2 [(.v 0)])))) [
    .raise "BadNumber" [(.c (.str "no setting has such a number"))]] [],
  .set (.nm 2) (.lst []),
  .for_ (.nm 3) (.seq (.v 0)) [
    .expr (.mu .append 2 [(.cmp .Eq (.bin .Mod (.v 1) (.c (.int 2))) (.c (.int 1)))]),
    .set (.nm 1) (.bin .FloorDiv (.v 1) (.c (.int 2)))],
  .ret (.bi .tuple [(.slis (.v 2) none none (some (.neg (.c (.int 1)))))])]
def fd_setting_at (c0 c1 c2 : Nat) : FD := ⟨"", 2, 4, mb_setting_at c0 c1 c2⟩
def mb_number_of (c0 : Nat) : List MS := [
  .expr (.call c0 [(.v 0), (.v 1)]),
  .set (.nm 2) (.c (.int 0)),
  .for_ (.nm 3) (.seq (.v 1)) [
    .set (.nm 2) (.bin .Add (.bin .Mult (.c (.int 2)) (.v 2)) (.bi .int [(.v 3)]))],
  .ret (.v 2)]
def fd_number_of (c0 : Nat) : FD := ⟨"", 2, 4, mb_number_of c0⟩
def mb_all_settings (c0 c1 c2 : Nat) : List MS := [
  .expr (.call c0 [(.v 0)]),
  .ret (.lc (.call c1 [(.v 0), (.v 1)]) (.nm 1) (.rng1 (.call c2 [(.v 0)])) [] [1])]
def fd_all_settings (c0 c1 c2 : Nat) : FD := ⟨"", 1, 2, mb_all_settings c0 c1 c2⟩
def mb__law_said_f8a3 (c0 c1 c2 c3 c4 : Nat) : List MS := [
  .set (.nm 3) (.c .none),
  .set (.nm 4) (.c .none),
  .tryset [
    .ite (.cmp .Eq (.v 0) (.c (.int 0))) [
      .set (.nm 4) (.call c0 [(.v 1), (.v 2)])] [],
    .ite (.cmp .Eq (.v 0) (.c (.int 1))) [
      .set (.nm 4) (.call c1 [(.v 1), (.v 2)])] [],
    .ite (.cmp .Eq (.v 0) (.c (.int 2))) [
      .set (.nm 4) (.call c2 [(.v 1), (.v 2)])] [],
    .ite (.cmp .Eq (.v 0) (.c (.int 3))) [
      .set (.nm 4) (.call c3 [(.v 1)])] []] "ReadyError" 5 3,
  .ret (.ite (.isN true (.v 3)) (.tup [(.c (.str "refused")), (.call c4 [(.v 3)])]) (.tup [(.c (.str "told")), (.v 4)]))]
def fd__law_said_f8a3 (c0 c1 c2 c3 c4 : Nat) : FD := ⟨"", 3, 6, mb__law_said_f8a3 c0 c1 c2 c3 c4⟩
def mb__law_setting : List MS := [
  .set (.nm 2) (.lst []),
  .set (.nm 3) (.c (.int 1)),
  .for_ (.nm 4) (.rng1 (.v 0)) [
    .set (.nm 3) (.bin .Mult (.v 3) (.c (.int 2)))],
  .for_ (.nm 4) (.rng1 (.v 0)) [
    .set (.nm 3) (.bin .FloorDiv (.v 3) (.c (.int 2))),
    .expr (.mu .append 2 [(.cmp .GtE (.v 1) (.v 3))]),
    .set (.nm 1) (.ite (.cmp .GtE (.v 1) (.v 3)) (.bin .Sub (.v 1) (.v 3)) (.v 1))],
  .ret (.bi .tuple [(.v 2)])]
def fd__law_setting : FD := ⟨"", 2, 5, mb__law_setting⟩
def mb__law_odd_setting (c0 : Nat) : List MS := [
  .set (.nm 2) (.call c0 [(.v 0), (.bin .Add (.bi .len [(.v 1)]) (.c (.int 1)))]),
  .set (.nm 3) (.lst [(.bin .Add (.v 1) (.tup [(.c (.bool true))])), (.bi .list [(.v 1)]), (.c .none), (.c (.int 5)), (.c (.str "True")), (.dic []), (.bin .Add (.bin .Add (.sli (.v 1) none (some (.v 2))) (.tup [(.c (.int 0))])) (.sli (.v 1) (some (.bin .Add (.v 2) (.c (.int 1)))) none))]),
  .set (.nm 3) (.bin .Add (.v 3) (.lc (.bin .Add (.bin .Add (.sli (.v 1) none (some (.v 2))) (.tup [(.v 4)])) (.sli (.v 1) (some (.bin .Add (.v 2) (.c (.int 1)))) none)) (.nm 4) (.seq (.tup [(.c (.int 1)), (.c .none), (.c (.str "True")), (.tup [(.c (.bool true))])])) [] [4])),
  .ite (.cmp .NotEq (.v 1) (.tup [])) [
    .expr (.mu .append 3 [(.ite (.cmp .Lt (.v 2) (.bi .len [(.v 1)])) (.bin .Add (.sli (.v 1) none (some (.v 2))) (.sli (.v 1) (some (.bin .Add (.v 2) (.c (.int 1)))) none)) (.sli (.v 1) (some (.c (.int 1))) none))])] [],
  .ret (.idx (.v 3) (.call c0 [(.v 0), (.bi .len [(.v 3)])]))]
def fd__law_odd_setting (c0 : Nat) : FD := ⟨"", 2, 5, mb__law_odd_setting c0⟩
def mb__law_odd_number (c0 : Nat) : List MS := [
  .set (.nm 2) (.lst [(.v 1), (.bin .Add (.v 1) (.c (.int 1))), (.neg (.c (.int 1))), (.c .none), (.c (.bool true)), (.c (.bool false)), (.c (.str "0")), (.lst [(.c (.int 0))]), (.tup [(.c (.int 0))]), (.bin .Pow (.c (.int 10)) (.c (.int 30))), (.bin .Sub (.c (.int 0)) (.bin .Pow (.c (.int 10)) (.c (.int 30)))), (.dic [])]),
  .ret (.idx (.v 2) (.call c0 [(.v 0), (.c (.int 12))]))]
def fd__law_odd_number (c0 : Nat) : FD := ⟨"", 2, 3, mb__law_odd_number c0⟩
def mb__law_odd_names (c0 : Nat) : List MS := [
  .set (.nm 2) (.lst [(.bi .list [(.v 1)]), (.c .none), (.bin .Add (.v 1) (.tup [(.c (.str ""))])), (.bin .Add (.v 1) (.tup [(.c (.str "A"))])), (.c (.str "a")), (.c (.int 5)), (.bin .Add (.v 1) (.tup [(.c (.int 5))])), (.bin .Add (.v 1) (.tup [(.c (.str "ab")), (.c (.str "ab"))])), (.dic [])]),
  .ret (.idx (.v 2) (.call c0 [(.v 0), (.c (.int 9))]))]
def fd__law_odd_names (c0 : Nat) : FD := ⟨"", 2, 3, mb__law_odd_names c0⟩
def mb__law_truths_right (c0 : Nat) : List MS := [
  .set (.nm 0) (.tup [(.c (.str "b")), (.c (.str "a"))]),
  .for_ (.tup [(.nm 1), (.nm 2)]) (.seq (.tup [(.tup [(.c (.int 0)), (.tup [(.c (.bool false)), (.c (.bool false))])]), (.tup [(.c (.bool false)), (.c .none)]), (.tup [(.c (.int 0)), (.tup [(.c (.bool false)), (.c (.bool false))])]), (.tup [(.c (.int 1)), (.tup [(.c (.bool false)), (.c (.bool true))])]), (.tup [(.c (.bool true)), (.c .none)])])) [
    .ite (.cmp .NotEq (.call c0 [(.c (.int 0)), (.v 0), (.v 1)]) (.ite (.isN false (.v 2)) (.tup [(.c (.str "refused")), (.c (.str "number"))]) (.tup [(.c (.str "told")), (.v 2)]))) [
      .ret (.c (.bool false))] []],
  .for_ (.tup [(.nm 3), (.nm 2)]) (.seq (.tup [(.tup [(.tup [(.c (.bool true)), (.c (.bool false))]), (.c (.int 2))]), (.tup [(.tup [(.c (.int 1)), (.c (.int 0))]), (.c .none)]), (.tup [(.tup [(.c (.bool true)), (.c (.bool false))]), (.c (.int 2))]), (.tup [(.tup [(.c (.int 0)), (.c (.int 1))]), (.c .none)]), (.tup [(.tup [(.c (.bool false)), (.c (.bool true))]), (.c (.int 1))])])) [
    .ite (.cmp .NotEq (.call c0 [(.c (.int 1)), (.v 0), (.v 3)]) (.ite (.isN false (.v 2)) (.tup [(.c (.str "refused")), (.c (.str "setting"))]) (.tup [(.c (.str "told")), (.v 2)]))) [
      .ret (.c (.bool false))] [],
    .ite (.cmp .NotEq (.call c0 [(.c (.int 2)), (.v 0), (.v 3)]) (.ite (.isN false (.v 2)) (.tup [(.c (.str "refused")), (.c (.str "setting"))]) (.tup [(.c (.str "told")), (.c .none)]))) [
      .ret (.c (.bool false))] []],
  .set (.nm 4) (.lst [(.tup [(.tup [(.c (.str "a"))]), (.tup [(.c (.bool true))])]), (.tup [(.v 0), (.tup [(.c (.bool false)), (.c (.bool true))])]), (.tup [(.tup [(.c (.str "a")), (.c (.str "b")), (.c (.str "c"))]), (.tup [(.c (.bool false)), (.c (.bool false)), (.c (.bool true))])]), (.tup [(.tup [(.c (.str "a"))]), (.tup [(.c (.bool true))])])]),
  .for_ (.tup [(.nm 5), (.nm 2)]) (.seq (.v 4)) [
    .ite (.or (.cmp .NotEq (.call c0 [(.c (.int 0)), (.v 5), (.c (.int 1))]) (.tup [(.c (.str "told")), (.v 2)])) (.cmp .NotEq (.call c0 [(.c (.int 1)), (.v 5), (.v 2)]) (.tup [(.c (.str "told")), (.c (.int 1))]))) [
      .ret (.c (.bool false))] [],
    .ite (.and (.cmp .NotEq (.v 5) (.v 0)) (.cmp .NotEq (.call c0 [(.c (.int 2)), (.v 5), (.tup [(.c (.bool true)), (.c (.bool false))])]) (.tup [(.c (.str "refused")), (.c (.str "setting"))]))) [
      .ret (.c (.bool false))] []],
  .ret (.c (.bool true))]
def fd__law_truths_right (c0 : Nat) : FD := ⟨"", 0, 6, mb__law_truths_right c0⟩
def mb_law_b4f9 (c0 c1 c2 c3 c4 c5 c6 c7 c8 c9 : Nat) : List MS := [
  .ite (.not (.call c0 [])) [
    .ret (.c (.bool false))] [],
  .for_ (.tup [(.nm 1), (.nm 2)]) (.enum (.sli (.bin .Add (.v 0) (.lst [(.c (.int 0))])) none (some (.c (.int 63))))) [
    .set (.nm 3) (.call c1 [(.v 2), (.v 1)]),
    .set (.nm 4) (.bi .tuple [(.call c2 [(.v 3), (.call c3 [(.v 3), (.c (.int 9))])])]),
    .set (.nm 5) (.idx (.lst [(.c (.int 1)), (.c (.int 2)), (.c (.int 4)), (.c (.int 8)), (.c (.int 16)), (.c (.int 32)), (.c (.int 64)), (.c (.int 128)), (.c (.int 256))]) (.bi .len [(.v 4)])),
    .set (.nm 6) (.idx (.lst [(.c (.int 0)), (.bin .Sub (.v 5) (.c (.int 1))), (.call c3 [(.v 3), (.v 5)]), (.call c3 [(.v 3), (.v 5)])]) (.call c3 [(.v 3), (.c (.int 4))])),
    .set (.nm 7) (.call c4 [(.bi .len [(.v 4)]), (.v 6)]),
    .for_ (.nm 8) (.rng1 (.c (.int 2))) [
      .ite (.cmp .NotEq (.bi .repr [(.call c5 [(.c (.int 0)), (.v 4), (.v 6)])]) (.bi .repr [(.tup [(.c (.str "told")), (.v 7)])])) [
        .ret (.c (.bool false))] [],
      .ite (.cmp .NotEq (.bi .repr [(.call c5 [(.c (.int 1)), (.v 4), (.v 7)])]) (.bi .repr [(.tup [(.c (.str "told")), (.v 6)])])) [
        .ret (.c (.bool false))] [],
      .ite (.cmp .NotEq (.call c5 [(.c (.int 2)), (.v 4), (.v 7)]) (.tup [(.c (.str "told")), (.c .none)])) [
        .ret (.c (.bool false))] []],
    .ite (.or (.cmp .Lt (.v 5) (.c (.int 65))) (.cmp .Eq (.bin .Mod (.v 1) (.c (.int 8))) (.c (.int 0)))) [
      .for_ (.nm 8) (.rng1 (.c (.int 2))) [
        .set (.nm 9) (.call c6 [(.v 4)]),
        .ite (.cmp .NotEq (.bi .repr [(.v 9)]) (.bi .repr [(.lc (.call c4 [(.bi .len [(.v 4)]), (.v 10)]) (.nm 10) (.rng1 (.v 5)) [] [10])])) [
          .ret (.c (.bool false))] [],
        .expr (.mu .clear 9 [])]] [],
    .set (.nm 11) (.call c7 [(.v 3), (.v 7)]),
    .ite (.cmp .NotEq (.lst [(.call c5 [(.c (.int 1)), (.v 4), (.v 11)]), (.call c5 [(.c (.int 2)), (.v 4), (.v 11)])]) (.bin .Mult (.lst [(.tup [(.c (.str "refused")), (.c (.str "setting"))])]) (.c (.int 2)))) [
      .ret (.c (.bool false))] [],
    .ite (.cmp .NotEq (.call c5 [(.c (.int 0)), (.v 4), (.call c8 [(.v 3), (.v 5)])]) (.tup [(.c (.str "refused")), (.c (.str "number"))])) [
      .ret (.c (.bool false))] [],
    .set (.nm 12) (.call c9 [(.v 3), (.v 4)]),
    .set (.nm 13) (.idx (.lst [(.v 11), (.neg (.c (.int 1))), (.v 7)]) (.call c3 [(.v 3), (.c (.int 3))])),
    .ite (.cmp .NotEq (.lc (.call c5 [(.v 14), (.v 12), (.v 13)]) (.nm 14) (.rng1 (.c (.int 4))) [] [14]) (.bin .Mult (.lst [(.tup [(.c (.str "refused")), (.c (.str "names"))])]) (.c (.int 4)))) [
      .ret (.c (.bool false))] []],
  .ret (.c (.bool true))]
def fd_law_b4f9 (c0 c1 c2 c3 c4 c5 c6 c7 c8 c9 : Nat) : FD := ⟨"", 1, 15, mb_law_b4f9 c0 c1 c2 c3 c4 c5 c6 c7 c8 c9⟩
end PT
end

section
set_option Elab.async false
set_option linter.all false
set_option maxRecDepth 100000
set_option maxHeartbeats 2000000
/-! LA: what recurs in many laws: letters, names, streams. -/
namespace PL
open PySem PM
theorem lN : lineN = 16777216 := lineN_eq
/-! ### comprehensions over what is mapped -/
section
variable {c : PM.Ctx} {e e1 : PM.Env}
theorem lc_filterM {α : Type} {f : D → PM.Env → Res (Option D)} {h : α → D} {g : α → Option D} : ∀ {ys : List α} {acc : List D}, (∀ y ∈ ys, f (h y) e = .ok (g y) e) → acc.length + ys.length ≤ lineN → lcLoop f (ys.map h) acc e = .ok (acc ++ ys.filterMap g) e
  | [], acc, _, _ => by simp [lcLoop]
  | y :: ys, acc, hh, hl => by
    rw [List.length_cons] at hl
    show (f (h y) e).bind _ = _
    rw [hh y List.mem_cons_self]
    cases q : g y with
    | none =>
      show lcLoop f (ys.map h) acc e = _
      rw [lc_filterM (fun z m => hh z (List.mem_cons_of_mem _ m)) (by omega), List.filterMap_cons, q]
    | some x =>
      show (if acc.length < lineN then lcLoop f (ys.map h) (acc ++ [x]) e else .no) = _
      rw [if_pos (by omega), lc_filterM (fun z m => hh z (List.mem_cons_of_mem _ m)) (by rw [List.length_append, List.length_singleton]; omega), List.filterMap_cons, q]
      simp
theorem doLc_fil {α : Type} {elt : ME} {t : Tgt} {cs : List ME} {own : List Nat} {ys : List α} {h : α → D} (g : α → Option D) (hf : own.all (lcFree c e1) = true) (hl : ys.length ≤ lineN) (hs : ∀ y ∈ ys, lcStep c elt t cs own (h y) (wipeE e1 own) = .ok (g y) (wipeE e1 own)) :
    doLc c elt t cs own (some (ys.map h, e1)) = .ok (OL (ys.filterMap g)) (backE e1 (wipeE e1 own) own) := by
  show (if own.all (lcFree c e1) = true then _ else _) = _
  rw [if_pos hf, lc_filterM hs (by simpa using hl)]
  rfl
theorem doLc_mapM {α : Type} {elt : ME} {t : Tgt} {cs : List ME} {own : List Nat} {ys : List α} {h : α → D} (g : α → D) (hf : own.all (lcFree c e1) = true) (hl : ys.length ≤ lineN) (hs : ∀ y ∈ ys, lcStep c elt t cs own (h y) (wipeE e1 own) = .ok (some (g y)) (wipeE e1 own)) :
    doLc c elt t cs own (some (ys.map h, e1)) = .ok (OL (ys.map g)) (backE e1 (wipeE e1 own) own) := by
  rw [doLc_fil (fun y => some (g y)) hf hl hs]
  congr 2
  exact congrFun List.filterMap_eq_map ys
end
theorem doLc_mapD {c : PM.Ctx} {e1 : PM.Env} {elt : ME} {t : Tgt} {cs : List ME} {own : List Nat} {xs : List D} (g : D → D) (hf : own.all (lcFree c e1) = true) (hl : xs.length ≤ lineN) (hs : ∀ y ∈ xs, lcStep c elt t cs own y (wipeE e1 own) = .ok (some (g y)) (wipeE e1 own)) :
    doLc c elt t cs own (some (xs, e1)) = .ok (OL (xs.map g)) (backE e1 (wipeE e1 own) own) := by
  have := doLc_mapM (ys := xs) (h := fun x => x) g hf hl hs
  rwa [List.map_id'] at this
theorem doLc_filD {c : PM.Ctx} {e1 : PM.Env} {elt : ME} {t : Tgt} {cs : List ME} {own : List Nat} {xs : List D} (g : D → Option D) (hf : own.all (lcFree c e1) = true) (hl : xs.length ≤ lineN) (hs : ∀ y ∈ xs, lcStep c elt t cs own y (wipeE e1 own) = .ok (g y) (wipeE e1 own)) :
    doLc c elt t cs own (some (xs, e1)) = .ok (OL (xs.filterMap g)) (backE e1 (wipeE e1 own) own) := by
  have := doLc_fil (ys := xs) (h := fun x => x) g hf hl hs
  rwa [List.map_id'] at this
@[simp] theorem allD_mapF {α : Type} {f : α → D} {xs : List α} : allD (xs.map fun x => Val.d (f x)) = some (xs.map f) := by
  have := allD_map (xs.map f)
  rwa [List.map_map] at this
@[simp] theorem boolsD_mapB {α : Type} {f : α → Bool} {xs : List α} : boolsD (xs.map fun x => PyData.bool (f x)) = some (xs.map f) := boolsD_map f xs
@[simp] theorem intsD_mapI {α : Type} {f : α → Int} {xs : List α} : intsD (xs.map fun x => PyData.int (f x)) = some (xs.map f) := by
  induction xs with
  | nil => rfl
  | cons x r ih => simp [intsD, ih]
@[simp] theorem strsD_mapS {α : Type} {f : α → Str} {xs : List α} : strsD (xs.map fun x => PyData.str (f x)) = some (xs.map f) := by
  induction xs with
  | nil => rfl
  | cons x r ih => simp [strsD, ih]
@[simp] theorem strsD_nil : strsD [] = some [] := rfl
@[simp] theorem strsD_cons {x : Str} {r : List D} : strsD (.str x :: r) = (strsD r).map (x :: ·) := rfl
@[simp] theorem intsD_nil : intsD [] = some [] := rfl
@[simp] theorem intsD_cons {x : Int} {r : List D} : intsD (.int x :: r) = (intsD r).map (x :: ·) := rfl
@[simp] theorem boolsD_nil : boolsD [] = some [] := rfl
@[simp] theorem boolsD_cons {x : Bool} {r : List D} : boolsD (.bool x :: r) = (boolsD r).map (x :: ·) := rfl
/-! ### is_name -/
section
variable {G : Prog} {i : Nat}
def LET : Str := "abcdefghijklmnopqrstuvwxyz"
def isName : D → Bool
  | .str z => decide (1 ≤ z.length) && decide (z.length ≤ 6) && z.cps.toList.all (fun n => decide (n ∈ LET.cps.toList))
  | _ => false
def Fit : D → Prop
  | .str z => z.length ≤ 16777216
  | _ => True
theorem inD_sign (n : Nat) : inD (.str ⟨#[n]⟩) (.str (Str.ofString "abcdefghijklmnopqrstuvwxyz")) = some (decide (n ∈ LET.cps.toList)) := rfl
theorem call_is_name (h : G.funs[i]? = some PT.fd_is_name) (k : Nat) (x : D) (hx : Fit x) : callM G (k + 1) i [Val.d x] = .ok (Val.d (.bool (isName x))) [Val.d x] := by
  rw [call_go h ⟨rfl, Nat.le_of_ble_eq_true rfl⟩]
  cases x with
  | str z =>
    have hz : z.length ≤ 16777216 := hx
    have L := doLc_mapM (c := cxP G k [false]) (elt := .cmp .In (.v 1) (.c (.str (Str.ofString "abcdefghijklmnopqrstuvwxyz")))) (t := .nm 1) (cs := []) (own := [1]) (e1 := [some (Val.d (.str z)), none]) (ys := z.cps.toList) (h := fun n => .str ⟨#[n]⟩) (fun n => .bool (decide (n ∈ LET.cps.toList)))
      (by simp) (by rw [lN]; simpa [Str.length] using hz) (fun n hn => by rw [lcStep0]; simp [inD_sign])
    simp only [PT.fd_is_name, PT.mb_is_name]
    simp [hz, lN, signsD]
    rw [L]
    simp [isName]
    by_cases h1 : 1 ≤ z.length
    · by_cases h2 : z.length ≤ 6
      · have : ¬ (6 : Int) < z.length := by omega
        have : (1 : Int) ≤ z.length := by omega
        simp [*, Function.comp_def]
      · have : (6 : Int) < z.length := by omega
        have : (1 : Int) ≤ z.length := by omega
        simp [*]
    · have : ¬ (1 : Int) ≤ z.length := by omega
      simp [*]
  | _ => simp [PT.fd_is_name, PT.mb_is_name, isName]
/-! ### streams -/
def mixed (n k : Int) : Int := ((n % 2147483647 + 7919 * k * k + 31 * k) * 48271 % 2147483647) * (69621 + 2 * k) % 2147483629
theorem okMul_l {a b : Int} (h : -18446744073709551616 < a ∧ a < 18446744073709551616) : okMul a b = true := by simp [okMul]; omega
theorem okMul_r {a b : Int} (h : -18446744073709551616 < b ∧ b < 18446744073709551616) : okMul a b = true := by simp [okMul]; omega
theorem call_mixed (h : G.funs[i]? = some PT.fd__law_mixed) (k : Nat) (n j : Int) (h0 : 0 ≤ j) (h1 : j ≤ 1152921504606846976) : callM G (k + 1) i [Val.d (.int n), Val.d (.int j)] = .ok (Val.d (.int (mixed n j))) [Val.d (.int n), Val.d (.int j)] := by
  rw [call_go h ⟨rfl, Nat.le_of_ble_eq_true rfl⟩]
  have h2 : okMul 7919 j = true := okMul_l (by omega)
  have h3 : okMul (7919 * j) j = true := okMul_r (by omega)
  have h4 : okMul 31 j = true := okMul_l (by omega)
  have h5 : ∀ x, okMul x 48271 = true := fun x => okMul_r (by omega)
  have h6 : okMul 2 j = true := okMul_l (by omega)
  have h7 : ∀ x y, okMul (x % 2147483647) y = true := fun x y => okMul_l (by omega)
  simp [PT.fd__law_mixed, PT.mb__law_mixed, h2, h3, h4, h5, h6, h7, mixed]
theorem mixed_lt (n j : Int) : 0 ≤ mixed n j ∧ mixed n j < 2147483629 := by unfold mixed; omega
/-- a stream's list -/
abbrev st (b : Bool) (n c s : Int) : Val := OL [.bool b, .int n, .int c, .int s]
theorem call_stream {m : Nat} (h : G.funs[i]? = some (PT.fd__law_stream m)) (hm : G.funs[m]? = some PT.fd__law_mixed) (k : Nat) (n j : Int) (h0 : 0 ≤ j) (h1 : j ≤ 1152921504606846976) : ∃ b s, callM G (k + 2) i [Val.d (.int n), Val.d (.int j)] = .ok (st b n 0 s) [Val.d (.int n), Val.d (.int j)] := by
  refine ⟨decide (10 ^ 18 ≤ n), mixed n j, ?_⟩
  rw [call_go h ⟨rfl, Nat.le_of_ble_eq_true rfl⟩]
  simp [PT.fd__law_stream, PT.mb__law_stream, call_mixed hm k n j h0 h1, lN]
theorem inD2 (n : Int) : inD (.int n) (.tuple [.int 0, .int (-1)]) = some (decide (n = 0) || decide (n = -1)) := by
  have h : okEq (.int n) (.tuple [.int 0, .int (-1)]) = true := by
    unfold okEq
    simp [PyData.canLay0, PyData.canLayAll0, PyData.depth, PyData.depthAll]
  simp only [inD, h, if_true, List.any_cons, List.any_nil, PyData.eqv, Bool.or_false]
  congr 1
  by_cases q : n = 0 <;> by_cases q2 : n = -1 <;> simp_all <;> omega
theorem call_take {m : Nat} (h : G.funs[i]? = some (PT.fd__law_take m)) (hm : G.funs[m]? = some PT.fd__law_mixed) (k : Nat) (b : Bool) (n c s w : Int) (h0 : 0 ≤ c) (h1 : c < 1152921504606846976) (hw : 0 < w) (hw2 : w < 1073741824) :
    ∃ (n' : Int) (r : Nat), (r : Int) < w ∧ callM G (k + 2) i [st b n c s, Val.d (.int w)] = .ok (Val.d (.int r)) [st b n' (c + 1) s, Val.d (.int w)] := by
  rw [call_go h ⟨rfl, Nat.le_of_ble_eq_true rfl⟩]
  have A := call_mixed hm k s (c + 1) (by omega) (by omega)
  have A2 := call_mixed hm k (mixed s (c + 1)) 7 (by omega) (by omega)
  by_cases hA : b = true ∧ ¬ n = 0 ∧ ¬ n = -1 ∧ ¬ 60 < c + 1
  · obtain ⟨rfl, q1, q2, q3⟩ := hA
    have e0 : 0 ≤ n % w := Int.emod_nonneg _ (by omega)
    have e1 : n % w < w := Int.emod_lt_of_pos _ hw
    refine ⟨n / w, (n % w).toNat, by omega, ?_⟩
    rw [show (((n % w).toNat : Nat) : Int) = n % w by omega]
    simp [PT.fd__law_take, PT.mb__law_take, inD2, L2.atI, L2.ixN, lN, hw, hw2, q1, q2, q3]
  · have e0 : 0 ≤ mixed (mixed s (c + 1)) 7 % w := Int.emod_nonneg _ (by omega)
    have e1 : mixed (mixed s (c + 1)) 7 % w < w := Int.emod_lt_of_pos _ hw
    refine ⟨n, (mixed (mixed s (c + 1)) 7 % w).toNat, by omega, ?_⟩
    rw [show (((mixed (mixed s (c + 1)) 7 % w).toNat : Nat) : Int) = mixed (mixed s (c + 1)) 7 % w by omega]
    cases b
    · simp [PT.fd__law_take, PT.mb__law_take, inD2, L2.atI, L2.ixN, lN, A, A2, hw]
    · by_cases q1 : n = 0
      · simp [PT.fd__law_take, PT.mb__law_take, inD2, L2.atI, L2.ixN, lN, A, A2, hw, q1]
      · by_cases q2 : n = -1
        · simp [PT.fd__law_take, PT.mb__law_take, inD2, L2.atI, L2.ixN, lN, A, A2, hw, q1, q2]
        · have q3 : 60 < c + 1 := Decidable.byContradiction fun z => hA ⟨rfl, q1, q2, z⟩
          simp [PT.fd__law_take, PT.mb__law_take, inD2, L2.atI, L2.ixN, lN, A, A2, hw, q1, q2, q3]
end
end PL
end

section
set_option Elab.async false
set_option linter.all false
set_option maxRecDepth 100000
set_option maxHeartbeats 2000000
/-! LB: names of letters. -/
namespace PL
open PySem PM
/-! names as lists of signs -/
def W (l : List Nat) : Str := ⟨l.toArray⟩
abbrev nmD (l : List Nat) : D := .str (W l)
@[simp] theorem W_app (a b : List Nat) : W a ++ W b = W (a ++ b) := by
  show Str.mk _ = Str.mk _
  simp [W]
@[simp] theorem W_len (l : List Nat) : (W l).length = l.length := by simp [W, Str.length]
@[simp] theorem W_cps (l : List Nat) : (W l).cps.toList = l := by simp [W]
theorem W_inj {a b : List Nat} (h : W a = W b) : a = b := by
  have := congrArg (fun z : Str => z.cps.toList) h
  simpa using this
theorem LETl : LET.cps.toList = List.range' 97 26 := by decide +kernel
theorem letD' (i : Int) (h0 : 0 ≤ i) (h1 : i < 26) : idxD (.str (Str.ofString "abcdefghijklmnopqrstuvwxyz")) (.int i) = some (nmD [i.toNat + 97]) := by
  show (if LET.length ≤ lineN then (L2.atI LET.cps.toList i).map fun c => PyData.str ⟨#[c]⟩ else none) = _
  rw [if_pos (by rw [lineN_eq]; decide +kernel), LETl]
  unfold L2.atI L2.ixN
  rw [if_pos h0, List.length_range', if_pos (by omega)]
  simp
  refine ⟨97 + i.toNat, ?_, ?_⟩
  · rw [List.getElem?_range' (by omega)]; simp
  · simp [W]; omega
theorem letD (i : Nat) (h1 : (i : Int) < 26) : idxD (.str (Str.ofString "abcdefghijklmnopqrstuvwxyz")) (.int i) = some (nmD [i + 97]) := by
  have := letD' i (by omega) h1
  rwa [Int.toNat_natCast] at this
def Valid (l : List Nat) : Prop := 1 ≤ l.length ∧ l.length ≤ 6 ∧ ∀ n ∈ l, 97 ≤ n ∧ n < 123
theorem isName_nm (l : List Nat) : isName (nmD l) = true ↔ Valid l := by
  simp only [isName, W_len, W_cps, Bool.and_eq_true, decide_eq_true_eq, List.all_eq_true, Valid, LETl, List.mem_range'_1]
  constructor
  · rintro ⟨⟨a, b⟩, c⟩
    exact ⟨a, b, fun n h => by have := c n h; omega⟩
  · rintro ⟨a, b, c⟩
    exact ⟨⟨a, b⟩, fun n h => by have := c n h; omega⟩
structure Inv (c : Nat → Nat) (k : Nat) (ls : List (List Nat)) : Prop where
  len : ls.length = k
  ok : ∀ l ∈ ls, Valid l
  nd : ls.Nodup
  hd : ∀ l ∈ ls, ∃ j, j < k ∧ l.head? = some (c j)
  lg : ∀ z, ls.getLast? = some z → ∀ l ∈ ls, l.head? = z.head? → l.length ≤ z.length
theorem Inv.nil (c : Nat → Nat) : Inv c 0 [] where
  len := rfl
  ok := fun _ h => by cases h
  nd := List.nodup_nil
  hd := fun _ h => by cases h
  lg := fun _ _ _ h => by cases h
theorem Inv.fresh {c : Nat → Nat} {k : Nat} {ls : List (List Nat)} (I : Inv c k ls) {w : List Nat} (hv : Valid w) (hh : w.head? = some (c k)) (hc : ∀ j, j < k → c j ≠ c k) : Inv c (k + 1) (ls ++ [w]) where
  len := by simp [I.len]
  ok := fun l h => by
    rcases List.mem_append.mp h with h | h
    · exact I.ok l h
    · rw [List.mem_singleton.mp h]; exact hv
  nd := by
    refine List.nodup_append.mpr ⟨I.nd, by simp, fun a ha b hb => ?_⟩
    rw [List.mem_singleton.mp hb]
    intro e
    obtain ⟨j, hj, hj2⟩ := I.hd a ha
    rw [e, hh] at hj2
    exact hc j hj (by injection hj2 with z; exact z.symm)
  hd := fun l h => by
    rcases List.mem_append.mp h with h | h
    · obtain ⟨j, a, b⟩ := I.hd l h
      exact ⟨j, by omega, b⟩
    · rw [List.mem_singleton.mp h]; exact ⟨k, by omega, hh⟩
  lg := fun z hz l h e => by
    have hz : z = w := by simpa using hz.symm
    subst hz
    rcases List.mem_append.mp h with h | h
    · obtain ⟨j, hj, hj2⟩ := I.hd l h
      rw [e, hh] at hj2
      exact absurd (by injection hj2 with y; exact y.symm) (hc j hj)
    · rw [List.mem_singleton.mp h]; exact Nat.le_refl _
theorem Inv.more {c : Nat → Nat} {k : Nat} {ls : List (List Nat)} (I : Inv c k ls) {z : List Nat} (hz : ls.getLast? = some z) (hl : z.length < 6) {x : Nat} (hx : 97 ≤ x ∧ x < 123) : Inv c (k + 1) (ls ++ [z ++ [x]]) := by
  have mz : z ∈ ls := List.mem_of_getLast? hz
  have vz := I.ok z mz
  have hh : (z ++ [x]).head? = z.head? := by
    cases z with
    | nil => have := vz.1; simp at this
    | cons a r => rfl
  exact {
    len := by simp [I.len]
    ok := fun l h => by
      rcases List.mem_append.mp h with h | h
      · exact I.ok l h
      · rw [List.mem_singleton.mp h]
        refine ⟨by simp, by simp; omega, fun n hn => ?_⟩
        rcases List.mem_append.mp hn with hn | hn
        · exact vz.2.2 n hn
        · rw [List.mem_singleton.mp hn]; exact hx
    nd := by
      refine List.nodup_append.mpr ⟨I.nd, by simp, fun a ha b hb => ?_⟩
      rw [List.mem_singleton.mp hb]
      intro e
      subst e
      have := I.lg z hz _ ha hh
      simp at this
      omega
    hd := fun l h => by
      rcases List.mem_append.mp h with h | h
      · obtain ⟨j, a, b⟩ := I.hd l h
        exact ⟨j, by omega, b⟩
      · rw [List.mem_singleton.mp h]
        obtain ⟨j, a, b⟩ := I.hd z mz
        exact ⟨j, by omega, by rw [hh]; exact b⟩
    lg := fun y hy l h e => by
      have hy : y = z ++ [x] := by simpa using hy.symm
      subst hy
      rcases List.mem_append.mp h with h | h
      · have := I.lg z hz l h (by rw [e, hh])
        simp; omega
      · rw [List.mem_singleton.mp h]; exact Nat.le_refl _ }
/-- the first letters are unlike -/
theorem heads (s t : Int) (ht : t = 1 ∨ t = 3 ∨ t = 5 ∨ t = 7 ∨ t = 9 ∨ t = 11 ∨ t = 15 ∨ t = 17) (i j : Nat) (hij : i < j) (hj : j < 9) : ((s + t * i) % 26).toNat + 97 ≠ ((s + t * j) % 26).toNat + 97 := by
  rcases ht with rfl | rfl | rfl | rfl | rfl | rfl | rfl | rfl <;> omega
theorem rangeV_get : ∀ (n : Nat) (lo : Int) (i : Nat) (x : D), (rangeV lo n)[i]? = some x → x = .int (lo + i) ∧ i < n
  | 0, _, _, _, h => by cases h
  | n + 1, lo, 0, x, h => by
    have : PyData.int lo = x := by simpa [rangeV] using h
    exact ⟨by rw [← this]; simp, by omega⟩
  | n + 1, lo, i + 1, x, h => by
    obtain ⟨a, b⟩ := rangeV_get n (lo + 1) i x (by simpa [rangeV] using h)
    exact ⟨by rw [a]; congr 1; push_cast; omega, by omega⟩
@[simp] theorem rangeV_len : ∀ (n : Nat) (lo : Int), (rangeV lo n).length = n
  | 0, _ => rfl
  | n + 1, lo => by rw [rangeV, List.length_cons, rangeV_len n]
theorem strOk_valid {l : List Nat} (h : Valid l) : PyData.strOk (W l) = true := by
  unfold PyData.strOk
  simp [W]
  intro n hn
  have := h.2.2 n (by simpa using hn)
  omega
theorem last_ix {α : Type} {ls : List α} {z : α} {f : α → D} (h : ls.getLast? = some z) : L2.atI (ls.map f) (-1) = some (f z) := by
  have hl : 0 < ls.length := by cases ls <;> simp at h ⊢
  unfold L2.atI L2.ixN
  rw [if_neg (by decide), List.length_map, if_pos (by omega)]
  rw [Option.bind_some, List.getElem?_map, show ((-1 : Int) + (ls.length : Int)).toNat = ls.length - 1 by omega, ← List.getLast?_eq_getElem?, h]
  rfl
@[simp] theorem map_isEmpty {α β : Type} {ls : List α} {f : α → β} : (ls.map f).isEmpty = ls.isEmpty := by cases ls <;> rfl
/-! ### _law_names_by -/
section
variable {G : Prog} {i m t : Nat} (hm : G.funs[m]? = some PT.fd__law_mixed) (ht : G.funs[t]? = some (PT.fd__law_take m))
include hm ht
theorem nb_in (k : Nat) (b : Bool) (s : Int) (o1 o3 o4 o5 o6 : Option Val) : ∀ (xs : List D) (n c : Int) (l : List Nat) (o8 : Option Val), 0 ≤ c → c + xs.length < 1000000000000000000 → l.length + xs.length ≤ 100 →
    ∃ n' l' o8', l'.length = xs.length ∧ (∀ a ∈ l', 97 ≤ a ∧ a < 123) ∧ forL (loopF (cxP G (k + 2) [true, false]) (.nm 8) [.set (.nm 7) (.bin .Add (.v 7) (.idx (.v 2) (.call t [(.v 0), (.c (.int 26))])))]) xs
      [some (st b n c s), o1, some (Val.d (.str "abcdefghijklmnopqrstuvwxyz")), o3, o4, o5, o6, some (Val.d (nmD l)), o8] =
      .ok .nx [some (st b n' (c + xs.length) s), o1, some (Val.d (.str "abcdefghijklmnopqrstuvwxyz")), o3, o4, o5, o6, some (Val.d (nmD (l ++ l'))), o8']
  | [], n, c, l, o8, _, _, _ => ⟨n, [], o8, rfl, by simp, by simp⟩
  | x :: xs, n, c, l, o8, h0, h1, h2 => by
    rw [List.length_cons] at h1 h2
    obtain ⟨n1, r, r1, T⟩ := call_take ht hm k b n c s 26 h0 (by omega) (by omega) (by omega)
    obtain ⟨n', l', o8', e1, e2, e3⟩ := nb_in k b s o1 o3 o4 o5 o6 xs n1 (c + 1) (l ++ [r + 97]) (some (Val.d x)) (by omega) (by omega) (by simp; omega)
    refine ⟨n', (r + 97) :: l', o8', by simp [e1], fun a ha => ?_, ?_⟩
    · rcases List.mem_cons.mp ha with rfl | ha
      · omega
      · exact e2 a ha
    · rw [forL_nx (e1 := [some (st b n1 (c + 1) s), o1, some (Val.d (.str "abcdefghijklmnopqrstuvwxyz")), o3, o4, o5, o6, some (Val.d (nmD (l ++ [r + 97]))), some (Val.d x)])]
      · rw [e3, show c + 1 + (xs.length : Int) = c + ((x :: xs).length : Nat) by rw [List.length_cons]; omega]
        simp
      · rw [loopF_go]
        have hl : l.length + 1 ≤ 16777216 := by omega
        simp [T, -idx_S, letD r r1, lN, hl]
end
end PL
end

section
set_option Elab.async false
set_option linter.all false
set_option maxRecDepth 100000
set_option maxHeartbeats 2000000
/-! LC: names drawn from a stream. -/
namespace PL
open PySem PM
section
variable {G : Prog} {i m t : Nat} (hm : G.funs[m]? = some PT.fd__law_mixed) (ht : G.funs[t]? = some (PT.fd__law_take m))
include hm ht
def nbBody (t : Nat) : List MS := [
    .set (.nm 7) (.idx (.v 2) (.bin .Mod (.bin .Add (.v 3) (.bin .Mult (.v 4) (.v 6))) (.c (.int 26)))),
    .for_ (.nm 8) (.rng1 (.call t [(.v 0), (.c (.int 6))])) [
      .set (.nm 7) (.bin .Add (.v 7) (.idx (.v 2) (.call t [(.v 0), (.c (.int 26))])))],
    .ite (.and (.cmp .NotEq (.v 5) (.lst [])) (.and (.cmp .Lt (.bi .len [(.idx (.v 5) (.neg (.c (.int 1))))]) (.c (.int 6))) (.cmp .Eq (.call t [(.v 0), (.c (.int 4))]) (.c (.int 1))))) [
      .set (.nm 7) (.bin .Add (.idx (.v 5) (.neg (.c (.int 1)))) (.idx (.v 2) (.call t [(.v 0), (.c (.int 26))])))] [],
    .expr (.mu .append 5 [(.v 7)])]
abbrev nbE (b : Bool) (n c s : Int) (o1 : Option Val) (a : Nat) (d : Int) (ls : List (List Nat)) (o6 o7 o8 : Option Val) : PM.Env :=
  [some (st b n c s), o1, some (Val.d (.str "abcdefghijklmnopqrstuvwxyz")), some (Val.d (.int a)), some (Val.d (.int d)), some (OL (ls.map nmD)), o6, o7, o8]
/-- a turn -/
theorem nb_turn (k : Nat) (b : Bool) (n c s : Int) (o1 : Option Val) (a : Nat) (d : Int) (ls : List (List Nat)) (o6 o7 o8 : Option Val) (j : Nat) (h0 : 0 ≤ c) (h1 : c < 1000000000) (ha : (a : Int) < 26) (hd : d = 1 ∨ d = 3 ∨ d = 5 ∨ d = 7 ∨ d = 9 ∨ d = 11 ∨ d = 15 ∨ d = 17) (hj : j < 9) (I : Inv (fun j => ((a + d * j) % 26).toNat + 97) j ls) :
    ∃ n' c' ls' o6' o7' o8', c ≤ c' ∧ c' ≤ c + 8 ∧ Inv (fun j => ((a + d * j) % 26).toNat + 97) (j + 1) ls' ∧ loopF (cxP G (k + 2) [true, false]) (.nm 6) (nbBody t) (.int j) (nbE b n c s o1 a d ls o6 o7 o8) = .ok .nx (nbE b n' c' s o1 a d ls' o6' o7' o8') := by
  obtain ⟨n1, r, r1, T1⟩ := call_take ht hm k b n c s 6 h0 (by omega) (by omega) (by omega)
  obtain ⟨n2, l', o8', e1, e2, e3⟩ := nb_in hm ht k b s o1 (some (Val.d (.int a))) (some (Val.d (.int d))) (some (OL (ls.map nmD))) (some (Val.d (.int j))) (rangeV 0 r) n1 (c + 1) [((a + d * j) % 26).toNat + 97] o8 (by omega) (by rw [rangeV_len]; omega) (by rw [rangeV_len]; simp; omega)
  rw [rangeV_len] at e1 e3
  have hok : okMul d j = true := okMul_l (by omega)
  have hlen : ls.length ≤ 9 := by rw [I.len]; omega
  have L := letD' ((a + d * j) % 26) (Int.emod_nonneg _ (by omega)) (Int.emod_lt_of_pos _ (by omega))
  have hr1 : (r : Int) < 4611686018427387904 := by omega
  have hr0 : -4611686018427387904 ≤ (r : Int) := by omega
  have hv : Valid ([((a + d * j) % 26).toNat + 97] ++ l') := by
    refine ⟨by simp, by simp; omega, fun q hq => ?_⟩
    rcases List.mem_append.mp hq with hq | hq
    · rw [List.mem_singleton.mp hq]; omega
    · exact e2 q hq
  have hh : ([((a + d * j) % 26).toNat + 97] ++ l').head? = some ((fun j => ((a + d * (j : Nat)) % 26).toNat + 97) j) := rfl
  have F := I.fresh hv hh (fun q hq => heads a d hd q j hq hj)
  have hl2 : ls.length < 16777216 := by omega
  rw [loopF_go]
  by_cases hz : ls = []
  · subst hz
    refine ⟨n2, c + 1 + r, _, some (Val.d (.int j)), some (Val.d (nmD ([((a + d * j) % 26).toNat + 97] ++ l'))), o8', by omega, by omega, F, ?_⟩
    simp [nbBody, hok, -idx_S, L, T1, hr0, hr1, lN]
    rw [show OL ([] : List D) = OL (([] : List (List Nat)).map nmD) from rfl, e3]
    simp [lN]
  · obtain ⟨z, hlast⟩ : ∃ z, ls.getLast? = some z := by
      cases hq : ls.getLast? with
      | none => exact absurd (List.getLast?_eq_none_iff.mp hq) hz
      | some z => exact ⟨z, rfl⟩
    have ix := last_ix (f := nmD) hlast
    have ne : ls.isEmpty = false := by cases ls with
      | nil => exact absurd rfl hz
      | cons _ _ => rfl
    have vz := I.ok z (List.mem_of_getLast? hlast)
    have zl : z.length ≤ 16777216 := by have := vz.2.1; omega
    by_cases h6 : z.length < 6
    · have h6' : (z.length : Int) < 6 := by omega
      obtain ⟨n3, r3, p1, T3⟩ := call_take ht hm k b n2 (c + 1 + r) s 4 (by omega) (by omega) (by omega) (by omega)
      by_cases hq : r3 = 1
      · subst hq
        obtain ⟨n4, r4, q1, T4⟩ := call_take ht hm k b n3 (c + 1 + r + 1) s 26 (by omega) (by omega) (by omega) (by omega)
        have L4 := letD r4 q1
        have zl2 : z.length + 1 ≤ 16777216 := by omega
        refine ⟨n4, c + 1 + r + 1 + 1, _, some (Val.d (.int j)), some (Val.d (nmD (z ++ [r4 + 97]))), o8', by omega, by omega, I.more hlast h6 (x := r4 + 97) (by omega), ?_⟩
        simp [nbBody, hok, -idx_S, L, T1, hr0, hr1, lN]
        rw [e3]
        simp [lN, ne, ix, zl, h6', T3, T4, -idx_S, L4, zl2, hl2]
      · refine ⟨n3, c + 1 + r + 1, _, some (Val.d (.int j)), some (Val.d (nmD ([((a + d * j) % 26).toNat + 97] ++ l'))), o8', by omega, by omega, F, ?_⟩
        simp [nbBody, hok, -idx_S, L, T1, hr0, hr1, lN]
        rw [e3]
        have hq' : ¬ (r3 : Int) = 1 := by omega
        simp [lN, ne, ix, zl, h6', T3, hq', hl2]
    · have h6' : ¬ (z.length : Int) < 6 := by omega
      refine ⟨n2, c + 1 + r, _, some (Val.d (.int j)), some (Val.d (nmD ([((a + d * j) % 26).toNat + 97] ++ l'))), o8', by omega, by omega, F, ?_⟩
      simp [nbBody, hok, -idx_S, L, T1, hr0, hr1, lN]
      rw [e3]
      simp [lN, ne, ix, zl, h6', hl2]
theorem nb_loop (k : Nat) (b : Bool) (s : Int) (o1 : Option Val) (a : Nat) (d : Int) (ha : (a : Int) < 26) (hd : d = 1 ∨ d = 3 ∨ d = 5 ∨ d = 7 ∨ d = 9 ∨ d = 11 ∨ d = 15 ∨ d = 17) : ∀ (q j : Nat) (n c : Int) (ls : List (List Nat)) (o6 o7 o8 : Option Val), 0 ≤ c → c + 8 * q < 1000000000 → j + q ≤ 9 → Inv (fun j => ((a + d * j) % 26).toNat + 97) j ls →
    ∃ n' c' ls' o6' o7' o8', c ≤ c' ∧ c' ≤ c + 8 * q ∧ Inv (fun j => ((a + d * j) % 26).toNat + 97) (j + q) ls' ∧ forL (loopF (cxP G (k + 2) [true, false]) (.nm 6) (nbBody t)) (rangeV j q) (nbE b n c s o1 a d ls o6 o7 o8) = .ok .nx (nbE b n' c' s o1 a d ls' o6' o7' o8')
  | 0, j, n, c, ls, o6, o7, o8, _, _, _, I => ⟨n, c, ls, o6, o7, o8, by omega, by omega, I, rfl⟩
  | q + 1, j, n, c, ls, o6, o7, o8, h0, h1, h2, I => by
    obtain ⟨n1, c1, ls1, p6, p7, p8, g1, g2, I1, g3⟩ := nb_turn hm ht k b n c s o1 a d ls o6 o7 o8 j h0 (by omega) ha hd (by omega) I
    obtain ⟨n2, c2, ls2, q6, q7, q8, k1, k2, I2, k3⟩ := nb_loop k b s o1 a d ha hd q (j + 1) n1 c1 ls1 p6 p7 p8 (by omega) (by omega) (by omega) I1
    refine ⟨n2, c2, ls2, q6, q7, q8, by omega, by omega, by rw [show j + (q + 1) = j + 1 + q by omega]; exact I2, ?_⟩
    show forL _ (.int j :: rangeV ((j : Int) + 1) q) _ = _
    rw [forL_nx g3]
    exact k3
theorem call_names_by (h : G.funs[i]? = some (PT.fd__law_names_by t)) (k : Nat) (b : Bool) (n c s : Int) (w : Nat) (h0 : 0 ≤ c) (h1 : c < 900000000) (hw : w ≤ 9) :
    ∃ (n' c' : Int) (ls : List (List Nat)), c ≤ c' ∧ c' ≤ c + 80 ∧ ls.length = w ∧ (∀ l ∈ ls, Valid l) ∧ ls.Nodup ∧ callM G (k + 3) i [st b n c s, Val.d (.int w)] = .ok (OL (ls.map nmD)) [st b n' c' s, Val.d (.int w)] := by
  obtain ⟨n1, a, a1, T1⟩ := call_take ht hm k b n c s 26 h0 (by omega) (by omega) (by omega)
  obtain ⟨n2, r, r1, T2⟩ := call_take ht hm k b n1 (c + 1) s 8 (by omega) (by omega) (by omega) (by omega)
  obtain ⟨d, hd, hix⟩ : ∃ d : Int, (d = 1 ∨ d = 3 ∨ d = 5 ∨ d = 7 ∨ d = 9 ∨ d = 11 ∨ d = 15 ∨ d = 17) ∧ L2.atI [PyData.int 1, .int 3, .int 5, .int 7, .int 9, .int 11, .int 15, .int 17] r = some (.int d) := by
    have : r = 0 ∨ r = 1 ∨ r = 2 ∨ r = 3 ∨ r = 4 ∨ r = 5 ∨ r = 6 ∨ r = 7 := by omega
    rcases this with rfl | rfl | rfl | rfl | rfl | rfl | rfl | rfl <;> exact ⟨_, by omega, rfl⟩
  obtain ⟨n3, c3, ls, q6, q7, q8, k1, k2, I, k3⟩ := nb_loop hm ht k b s (some (Val.d (.int w))) a d a1 hd w 0 n2 (c + 1 + 1) [] none none none (by omega) (by omega) (by omega) (Inv.nil _)
  refine ⟨n3, c3, ls, by omega, by omega, by rw [I.len]; omega, I.ok, I.nd, ?_⟩
  rw [call_go h ⟨rfl, Nat.le_of_ble_eq_true rfl⟩]
  have w1 : (w : Int) < 4611686018427387904 := by omega
  have w0 : -4611686018427387904 ≤ (w : Int) := by omega
  simp [PT.fd__law_names_by, PT.mb__law_names_by, T1, T2, hix, lN, w1, w0]
  rw [show rangeV 0 w = rangeV ((0 : Nat) : Int) w from rfl, show OL ([] : List D) = OL (([] : List (List Nat)).map nmD) from rfl]
  refine Eq.trans (congrArg (fun z => endM _ (goF _ z _ _)) k3) ?_
  simp
end
end PL
end

section
set_option Elab.async false
set_option linter.all false
set_option maxRecDepth 100000
set_option maxHeartbeats 2000000
/-! LD: what is a saying, part by part. -/
namespace PL
open PySem PM
theorem ofS_inj {a b : String} : Str.ofString a = Str.ofString b ↔ a = b := by
  constructor
  · intro h
    rw [Str.ofString_eq_toList, Str.ofString_eq_toList] at h
    have h1 : a.toList.map Char.toNat = b.toList.map Char.toNat := by
      have := congrArg (fun z : Str => z.cps.toList) h
      simpa using this
    have h2 : a.toList = b.toList := (List.map_inj_right (fun x y q => Char.toNat_inj.mp q)).mp h1
    exact String.toList_inj.mp h2
  · rintro rfl; rfl
/-- data whose texts are in reach -/
inductive Good : D → Prop
  | non : Good .none
  | bool (b : Bool) : Good (.bool b)
  | int (i : Int) : Good (.int i)
  | str {z : Str} (h : PyData.strOk z = true) (l : z.length ≤ 1000000) : Good (.str z)
  | list {xs : List D} (l : xs.length ≤ 1000000) (h : ∀ x ∈ xs, Good x) : Good (.list xs)
  | tuple {xs : List D} (l : xs.length ≤ 1000000) (h : ∀ x ∈ xs, Good x) : Good (.tuple xs)
  | dict (kvs : List (D × D)) : Good (.dict kvs)
theorem Good.fit {x : D} (h : Good x) : Fit x := by
  cases h with
  | str h l => show _ ≤ _; omega
  | _ => trivial
theorem Good.mem {xs : List D} {x : D} (h : Good (.tuple xs)) (m : x ∈ xs) : Good x := by cases h with | tuple l h => exact h x m
theorem Good.len {xs : List D} (h : Good (.tuple xs)) : xs.length ≤ 1000000 := by cases h with | tuple l h => exact l
theorem Good.ok {z : Str} (h : Good (.str z)) : PyData.strOk z = true ∧ z.length ≤ 1000000 := by cases h with | str h l => exact ⟨h, l⟩
/-- how many kids a word wants -/
def kidN (w : Str) : Option Nat := if w = "yes" then some 0 else if w = "no" then some 0 else if w = "not" then some 1 else if w = "same" then some 2 else if w = "pick" then some 3 else none
def optD : Option Nat → D
  | some n => .int n
  | none => .none
theorem lookup_kids (w : Str) : (List.lookup w [("yes", PyData.int 0), ("no", .int 0), ("not", .int 1), ("same", .int 2), ("pick", .int 3)]).getD .none = optD (kidN w) := by
  have h : ∀ (a b : Str), (a == b) = decide (a = b) := fun a b => by
    by_cases q : a = b <;> simp [q]
  simp only [List.lookup_cons, List.lookup_nil, h, kidN]
  by_cases h1 : w = "yes"
  · subst h1; simp [ofS_inj, optD]
  by_cases h2 : w = "no"
  · subst h2; simp [ofS_inj, optD]
  by_cases h3 : w = "not"
  · subst h3; simp [ofS_inj, optD]
  by_cases h4 : w = "same"
  · subst h4; simp [ofS_inj, optD]
  by_cases h5 : w = "pick"
  · subst h5; simp [ofS_inj, optD]
  simp [h1, h2, h3, h4, h5, optD]
theorem eqD_optD (o : Option Nat) (j : Int) : eqD (optD o) (.int j) = some (decide (o.map (fun n => (n : Int)) = some j)) := by
  cases o with
  | none => simp [optD]
  | some n => simp [optD]
def formedK (widest : Nat) (w : Str) (ks : List D) : Bool :=
  if w = "on" then (match ks with
    | [x] => isName x
    | _ => false)
  else if w = "and" ∨ w = "or" then decide (2 ≤ ks.length) && decide (ks.length ≤ widest)
  else decide (kidN w = some ks.length)
def formed (widest : Nat) : D → Bool
  | .tuple (.str w :: ks) => formedK widest w ks
  | _ => false
def kidsK (w : Str) (ks : List D) : List D := if w = "on" then [] else ks
def kidsD : D → List D
  | .tuple (.str w :: ks) => kidsK w ks
  | _ => []
theorem inD_two (w a b : Str) (hw : PyData.strOk w = true) (ha : PyData.strOk a = true) (hb : PyData.strOk b = true) : inD (.str w) (.tuple [.str a, .str b]) = some (decide (w = a) || decide (w = b)) := by
  have h : okEq (.str w) (.tuple [.str a, .str b]) = true := by
    unfold okEq
    simp [PyData.canLay0, PyData.canLayAll0, PyData.depth, PyData.depthAll, hw, ha, hb]
  have e : ∀ x y : Str, (x == y) = decide (y = x) := fun x y => by
    by_cases q : x = y
    · subst q; simp
    · have q2 : ¬ y = x := fun z => q z.symm
      simp [q, q2]
  simp only [inD, h, if_true, List.any_cons, List.any_nil, PyData.eqv, Bool.or_false, e]
section
variable {G : Prog} {i f g : Nat} (hn : G.funs[f]? = some PT.fd_is_name)
@[simp] theorem at0 {x : D} {xs : List D} : L2.atI (x :: xs) 0 = some x := by simp [L2.atI, L2.ixN]
@[simp] theorem at1 {x y : D} {xs : List D} : L2.atI (x :: y :: xs) 1 = some y := by
  unfold L2.atI L2.ixN
  rw [if_pos (by decide), if_pos (by simp; omega)]
  rfl
include hn
theorem call_is_formed (h : G.funs[i]? = some (PT.fd_is_formed f)) (k : Nat) (x : D) (wd : Nat) (hx : Good x) (hwd : wd < 1000000) : callM G (k + 2) i [Val.d x, Val.d (.int wd)] = .ok (Val.d (.bool (formed wd x))) [Val.d x, Val.d (.int wd)] := by
  rw [call_go h ⟨rfl, Nat.le_of_ble_eq_true rfl⟩]
  cases x with
  | tuple xs =>
    cases xs with
    | nil => simp [PT.fd_is_formed, PT.mb_is_formed, formed, lN]
    | cons y ks =>
      have hl := hx.len
      rw [List.length_cons] at hl
      have hy := hx.mem List.mem_cons_self
      cases y with
      | str w =>
        obtain ⟨hw, _⟩ := hy.ok
        by_cases h1 : w = "on"
        · subst h1
          match ks with
          | [] => simp [PT.fd_is_formed, PT.mb_is_formed, formed, formedK, lN]
          | [x] =>
            have hX := hx.mem (x := x) (by simp)
            have N := call_is_name hn k x hX.fit
            simp [PT.fd_is_formed, PT.mb_is_formed, formed, formedK, lN, N]
          | x :: y :: r =>
            have e1 : ¬ (((r.length : Nat) : Int) + 1 + 1 + 1 = 2) := by omega
            simp [PT.fd_is_formed, PT.mb_is_formed, formed, formedK, lN, e1]
        · by_cases h2 : w = "and" ∨ w = "or"
          · have i2 := inD_two w "and" "or" hw (by decide +kernel) (by decide +kernel)
            have e1 : (decide (w = "and") || decide (w = "or")) = true := by simpa using h2
            rw [e1] at i2
            simp [PT.fd_is_formed, PT.mb_is_formed, formed, formedK, lN, h1, i2, h2]
            by_cases q1 : 2 ≤ ks.length
            · have e2 : (3 : Int) ≤ (ks.length : Int) + 1 := by omega
              simp [e2, q1]
            · have e2 : ¬ (3 : Int) ≤ (ks.length : Int) + 1 := by omega
              simp [e2, q1]
          · have i2 := inD_two w "and" "or" hw (by decide +kernel) (by decide +kernel)
            have e1 : (decide (w = "and") || decide (w = "or")) = false := by
              rw [Bool.or_eq_false_iff, decide_eq_false_iff_not, decide_eq_false_iff_not]
              exact not_or.mp h2
            rw [e1] at i2
            simp [PT.fd_is_formed, PT.mb_is_formed, formed, formedK, lN, h1, i2, h2, lookup_kids, eqD_optD]
            cases kidN w <;> simp <;> omega
      | _ => simp [PT.fd_is_formed, PT.mb_is_formed, formed, lN]
  | _ => simp [PT.fd_is_formed, PT.mb_is_formed, formed]
end
end PL
end

section
set_option Elab.async false
set_option linter.all false
set_option maxRecDepth 100000
set_option maxHeartbeats 2000000
/-! LE: is_said, level by level; what it comes to. -/
namespace PL
open PySem PM
theorem cut_lo {α : Type} (xs : List α) (n : Nat) : cut xs (some (n : Int)) none = xs.drop n := by
  unfold cut
  rw [HT.sIx_nat, HT.sIx_none]
  by_cases h : n ≤ xs.length
  · rw [Nat.min_eq_left h]
    exact List.take_of_length_le (by rw [List.length_drop]; omega)
  · rw [Nat.min_eq_right (by omega), List.drop_of_length_le (Nat.le_refl _), List.drop_of_length_le (by omega), List.take_nil]
@[simp] theorem cut_one {α : Type} (x : α) (xs : List α) : cut (x :: xs) (some 1) none = xs := cut_lo (x :: xs) 1
/-! ### by fuel: fit, parts, names -/
def fit (wd : Nat) : Nat → D → Bool
  | 0, _ => false
  | n + 1, d => formed wd d && (kidsD d).all (fit wd n)
def parts : Nat → D → List D
  | 0, _ => []
  | n + 1, d => d :: (kidsD d).flatMap (parts n)
def onName : D → Option Str
  | .tuple (.str w :: .str z :: _) => if w = "on" then some z else none
  | _ => none
def namesOf (l : List D) : List Str := l.filterMap onName
def lev (wd : Nat) : Nat → List D → Nat → List Str → Bool
  | 0, _, _, _ => false
  | n + 1, l, m, zs => if 40 < m + l.length ∨ l.all (formed wd) = false then false
    else if l.flatMap kidsD = [] then decide (((namesOf l).foldl addS zs).length ≤ 8)
    else lev wd n (l.flatMap kidsD) (m + l.length) ((namesOf l).foldl addS zs)
theorem mem_foldS : ∀ {ys zs : List Str} {x : Str}, x ∈ ys.foldl addS zs ↔ x ∈ zs ∨ x ∈ ys
  | [], zs, x => by simp
  | y :: ys, zs, x => by
    rw [List.foldl_cons, mem_foldS, mem_addS, List.mem_cons]
    constructor
    · rintro ((h | h) | h)
      · exact .inl h
      · exact .inr (.inl h)
      · exact .inr (.inr h)
    · rintro (h | h | h)
      · exact .inl (.inl h)
      · exact .inl (.inr h)
      · exact .inr h
theorem nd_foldS : ∀ {ys zs : List Str}, zs.Nodup → (ys.foldl addS zs).Nodup
  | [], zs, h => h
  | y :: ys, zs, h => by
    rw [List.foldl_cons]
    refine nd_foldS ?_
    unfold addS
    split
    · exact h
    · rename_i q
      exact List.nodup_append.mpr ⟨h, by simp, fun a ha b hb => by rw [List.mem_singleton.mp hb]; rintro rfl; exact q ha⟩
theorem len_le_of_sub {α : Type} [DecidableEq α] : ∀ {xs ys : List α}, xs.Nodup → (∀ x ∈ xs, x ∈ ys) → xs.length ≤ ys.length
  | [], _, _, _ => Nat.zero_le _
  | x :: xs, ys, nd, h => by
    obtain ⟨n1, n2⟩ := List.nodup_cons.mp nd
    have hx := h x List.mem_cons_self
    have := len_le_of_sub (xs := xs) (ys := ys.erase x) n2 fun y hy => (List.mem_erase_of_ne (by rintro rfl; exact n1 hy)).mpr (h y (List.mem_cons_of_mem _ hy))
    rw [List.length_erase_of_mem hx] at this
    have := List.length_pos_of_mem hx
    rw [List.length_cons]
    omega
theorem len_of_mem {α : Type} [DecidableEq α] {xs ys : List α} (hx : xs.Nodup) (hy : ys.Nodup) (h : ∀ x, x ∈ xs ↔ x ∈ ys) : xs.length = ys.length :=
  Nat.le_antisymm (len_le_of_sub hx fun x m => (h x).mp m) (len_le_of_sub hy fun x m => (h x).mpr m)
theorem len_foldS {ys ys' zs zs' : List Str} (hz : zs.Nodup) (hz' : zs'.Nodup) (h : ∀ x, (x ∈ zs ∨ x ∈ ys) ↔ (x ∈ zs' ∨ x ∈ ys')) : (ys.foldl addS zs).length = (ys'.foldl addS zs').length :=
  len_of_mem (nd_foldS hz) (nd_foldS hz') fun x => by rw [mem_foldS, mem_foldS]; exact h x
theorem all_flat {α : Type} {l : List D} {f : D → List α} {p : α → Bool} : (l.flatMap f).all p = l.all fun x => (f x).all p := by
  induction l with
  | nil => rfl
  | cons x r ih => rw [List.flatMap_cons, List.all_append, ih, List.all_cons]
theorem parts_len (n : Nat) : ∀ l : List D, (l.flatMap (parts (n + 1))).length = l.length + ((l.flatMap kidsD).flatMap (parts n)).length
  | [] => rfl
  | x :: r => by
    rw [List.flatMap_cons, List.length_append, parts_len n r, List.flatMap_cons, List.flatMap_append, List.length_append, List.length_cons, parts, List.length_cons]
    omega
theorem mem_parts1 {n : Nat} {l : List D} {x : D} : x ∈ l.flatMap (parts (n + 1)) ↔ x ∈ l ∨ x ∈ (l.flatMap kidsD).flatMap (parts n) := by
  simp only [List.mem_flatMap, parts, List.mem_cons]
  constructor
  · rintro ⟨y, hy, rfl | ⟨z, hz, hx⟩⟩
    · exact .inl hy
    · exact .inr ⟨z, ⟨y, hy, hz⟩, hx⟩
  · rintro (h | ⟨z, ⟨y, hy, hz⟩, hx⟩)
    · exact ⟨x, h, .inl rfl⟩
    · exact ⟨y, hy, .inr ⟨z, hz, hx⟩⟩
theorem mem_names {l : List D} {z : Str} : z ∈ namesOf l ↔ ∃ x ∈ l, onName x = some z := List.mem_filterMap
theorem lev_eq (wd : Nat) : ∀ (n : Nat) (l : List D) (m : Nat) (zs : List Str), l ≠ [] → zs.Nodup →
    lev wd n l m zs = (l.all (fit wd n) && decide (m + (l.flatMap (parts n)).length ≤ 40) && decide (((namesOf (l.flatMap (parts n))).foldl addS zs).length ≤ 8))
  | 0, l, m, zs, h, _ => by
    cases l with
    | nil => exact absurd rfl h
    | cons x r => simp [lev, fit]
  | n + 1, l, m, zs, h, nd => by
    have e1 : l.all (fit wd (n + 1)) = (l.all (formed wd) && (l.flatMap kidsD).all (fit wd n)) := by
      rw [all_flat]
      clear h
      induction l with
      | nil => rfl
      | cons x r ih =>
        rw [List.all_cons, ih, List.all_cons, List.all_cons, fit]
        cases formed wd x <;> cases (kidsD x).all (fit wd n) <;> simp
    have e2 := parts_len n l
    unfold lev
    by_cases c1 : 40 < m + l.length
    · rw [if_pos (.inl c1), e2]
      have : ¬ m + (l.length + ((l.flatMap kidsD).flatMap (parts n)).length) ≤ 40 := by omega
      rw [decide_eq_false this, Bool.and_false, Bool.false_and]
    · by_cases c2 : l.all (formed wd) = false
      · rw [if_pos (.inr c2), e1, c2]
        simp
      · rw [if_neg (by simp [c1, c2])]
        have c2 : l.all (formed wd) = true := by simpa using c2
        by_cases c3 : l.flatMap kidsD = []
        · rw [if_pos c3, e1, c2, c3, e2, c3]
          have : m + (l.length + (List.flatMap (parts n) []).length) ≤ 40 := by simp; omega
          have l2 : ((namesOf l).foldl addS zs).length = ((namesOf (l.flatMap (parts (n + 1)))).foldl addS zs).length := by
            refine len_foldS nd nd fun x => ?_
            simp only [mem_names, mem_parts1, c3]
            simp
          rw [l2, decide_eq_true this]
          simp
        · rw [if_neg c3, lev_eq wd n _ _ _ c3 (nd_foldS nd), e1, c2, e2]
          have l2 : ((namesOf ((l.flatMap kidsD).flatMap (parts n))).foldl addS ((namesOf l).foldl addS zs)).length = ((namesOf (l.flatMap (parts (n + 1)))).foldl addS zs).length := by
            refine len_foldS (nd_foldS nd) nd fun x => ?_
            simp only [mem_foldS, mem_names, mem_parts1]
            constructor
            · rintro ((a | ⟨y, hy, e⟩) | ⟨y, hy, e⟩)
              · exact .inl a
              · exact .inr ⟨y, .inl hy, e⟩
              · exact .inr ⟨y, .inr hy, e⟩
            · rintro (a | ⟨y, hy | hy, e⟩)
              · exact .inl (.inl a)
              · exact .inl (.inr ⟨y, hy, e⟩)
              · exact .inr ⟨y, hy, e⟩
          rw [l2]
          rw [show m + l.length + ((l.flatMap kidsD).flatMap (parts n)).length = m + (l.length + ((l.flatMap kidsD).flatMap (parts n)).length) by omega]
          simp
/-- a saying whose ands and ors are at most so wide -/
def isSaid (wd : Nat) (x : D) : Bool := fit wd 8 x && decide ((parts 8 x).length ≤ 40) && decide ((dedS (namesOf (parts 8 x))).length ≤ 8)
theorem lev_said (wd : Nat) (x : D) : lev wd 8 [x] 0 [] = isSaid wd x := by
  rw [lev_eq wd 8 [x] 0 [] (by simp) List.nodup_nil]
  unfold isSaid dedS
  simp
end PL
end

section
set_option Elab.async false
set_option linter.all false
set_option maxRecDepth 100000
set_option maxHeartbeats 2000000
/-! LF: is_said walked. -/
namespace PL
open PySem PM
theorem lcFree_d {c : PM.Ctx} {e : PM.Env} {k : Nat} {x : D} (h : getS e k = some (Val.d x)) : lcFree c e k = !decide (c.pr[k]? = some true) := by
  unfold lcFree
  rw [h]
  simp [owned]
theorem formed_cases {wd : Nat} {x : D} (h : formed wd x = true) : ∃ w ks, x = .tuple (.str w :: ks) ∧ formedK wd w ks = true := by
  unfold formed at h
  split at h
  · exact ⟨_, _, rfl, h⟩
  · cases h
theorem formedK_len {wd : Nat} {w : Str} {ks : List D} (h : formedK wd w ks = true) : ks.length ≤ wd + 3 := by
  unfold formedK at h
  split at h
  · split at h
    · simp
    · cases h
  · split at h
    · simp only [Bool.and_eq_true, decide_eq_true_eq] at h
      omega
    · have h := of_decide_eq_true h
      unfold kidN at h
      repeat (split at h; · (have := Option.some.inj h; omega))
      cases h
theorem formed_on {wd : Nat} {w : Str} {ks : List D} (h : formedK wd w ks = true) (hw : w = "on") : ∃ z : Str, ks = [.str z] ∧ isName (.str z) = true := by
  unfold formedK at h
  rw [if_pos hw] at h
  split at h
  · rename_i x
    cases x with
    | str z => exact ⟨z, rfl, h⟩
    | _ => cases h
  · cases h
theorem kids_len {wd : Nat} {x : D} (h : formed wd x = true) : (kidsD x).length ≤ wd + 3 := by
  obtain ⟨w, ks, rfl, hk⟩ := formed_cases h
  have := formedK_len hk
  show (kidsK w ks).length ≤ _
  unfold kidsK
  split
  · simp
  · exact this
theorem kids_good {x : D} (h : Good x) : ∀ y ∈ kidsD x, Good y := by
  intro y hy
  unfold kidsD at hy
  split at hy
  · rename_i w ks
    unfold kidsK at hy
    split at hy
    · cases hy
    · exact h.mem (List.mem_cons_of_mem _ hy)
  · cases hy
section
variable {G : Prog} {i f n g : Nat} (hn : G.funs[n]? = some PT.fd_is_name) (hf : G.funs[f]? = some (PT.fd_is_formed n)) (hg : G.funs[g]? = some PT.fd_kids_of)
theorem call_kids_of (h : G.funs[i]? = some PT.fd_kids_of) (k : Nat) {x : D} {wd : Nat} (hx : formed wd x = true) : callM G (k + 1) i [Val.d x] = .ok (Val.d (.tuple (kidsD x))) [Val.d x] := by
  rw [call_go h ⟨rfl, Nat.le_of_ble_eq_true rfl⟩]
  obtain ⟨w, ks, rfl, hk⟩ := formed_cases hx
  by_cases h1 : w = "on"
  · simp [PT.fd_kids_of, PT.mb_kids_of, h1, kidsD, kidsK, lN]
  · simp [PT.fd_kids_of, PT.mb_kids_of, h1, kidsD, kidsK, lN]
def nmK (zs : List Str) : List (Key × D) := zs.map fun z => (.inr z, .bool true)
theorem putK_nm (zs : List Str) (z : Str) : PM.putK (nmK zs) (.inr z) (.bool true) = nmK (addS zs z) := by
  unfold PM.putK
  have e1 : ((nmK zs).any fun kv => decide (kv.1 = (Sum.inr z : Key))) = decide (z ∈ zs) := by
    induction zs with
    | nil => simp [nmK]
    | cons y r ih =>
      show (decide ((Sum.inr y : Key) = Sum.inr z) || (nmK r).any _) = _
      rw [ih]
      by_cases q : y = z
      · subst q; simp
      · have q2 : ¬ z = y := fun e => q e.symm
        simp [q, q2]
  rw [e1]
  unfold addS
  by_cases q : z ∈ zs
  · rw [if_pos (by simpa using q), if_pos q]
    unfold nmK
    rw [List.map_map]
    apply List.map_congr_left
    intro y _
    show (if (Sum.inr y : Key) = Sum.inr z then ((Sum.inr y : Key), PyData.bool true) else (Sum.inr y, .bool true)) = _
    split <;> rfl
  · rw [if_neg (by simpa using q), if_neg q]
    unfold nmK
    rw [List.map_append]
    rfl
theorem mergeD_nm : ∀ (ys zs : List Str), mergeD (nmK zs) (nmK ys) = nmK (ys.foldl addS zs)
  | [], zs => rfl
  | y :: ys, zs => by
    show mergeD (PM.putK (nmK zs) (.inr y) (.bool true)) (nmK ys) = _
    rw [putK_nm, mergeD_nm ys]
    rfl
def onPair (x : D) : Option D := (onName x).map fun z => .tuple [.str z, .bool true]
theorem pairsK_on (l : List D) : pairsK (l.filterMap onPair) = some (nmK (namesOf l)) := by
  induction l with
  | nil => rfl
  | cons x r ih =>
    unfold namesOf at *
    rw [List.filterMap_cons, List.filterMap_cons]
    unfold onPair at *
    cases onName x with
    | none => exact ih
    | some z =>
      show (pairK (.tuple [.str z, .bool true])).bind (fun p => (pairsK (r.filterMap _)).map (p :: ·)) = _
      rw [ih]
      rfl
include hf hg hn
/-- the kids of a level -/
theorem below_loop (k : Nat) (pr : List Bool) (hp : pr[6]? ≠ some true) (e0 e1 e2 e3 e4 e5 : Option Val) {wd : Nat} : ∀ (l acc : List D) (o6 : Option Val), (∀ x ∈ l, formed wd x = true) → acc.length + l.length * (wd + 3) ≤ 1000000 →
    ∃ o6', (o6' = o6 ∨ ∃ x, o6' = some (Val.d x)) ∧ forL (loopF (cxP G (k + 1) pr) (.nm 6) [.expr (.mu .extend 7 [(.call g [(.v 6)])])]) l [e0, e1, e2, e3, e4, e5, o6, some (OL acc)] = .ok .nx [e0, e1, e2, e3, e4, e5, o6', some (OL (acc ++ l.flatMap kidsD))]
  | [], acc, o6, _, _ => ⟨o6, .inl rfl, by simp⟩
  | x :: l, acc, o6, hl, hz => by
    have hx := hl x List.mem_cons_self
    have kx := kids_len hx
    rw [List.length_cons, Nat.add_mul] at hz
    obtain ⟨o6', q, ih⟩ := below_loop k pr hp e0 e1 e2 e3 e4 e5 l (acc ++ kidsD x) (some (Val.d x)) (fun y m => hl y (List.mem_cons_of_mem _ m)) (by rw [List.length_append]; omega)
    refine ⟨o6', q.elim (fun e => .inr ⟨x, e⟩) .inr, ?_⟩
    have hz2 : acc.length + (kidsD x).length ≤ 16777216 := by omega
    rw [forL_nx (e1 := [e0, e1, e2, e3, e4, e5, some (Val.d x), some (OL (acc ++ kidsD x))])]
    · rw [ih]
      simp
    · rw [loopF_go]
      simp [hp, call_kids_of hg k hx, lN, hz2]
def turnB (f g : Nat) : List MS := [
    .aug 3 .Add (.bi .len [(.v 2)]),
    .ite (.or (.cmp .Gt (.v 3) (.c (.int 40))) (.not (.bi .all [(.lc (.call f [(.v 6), (.v 1)]) (.nm 6) (.seq (.v 2)) [] [6])]))) [
      .ret (.c (.bool false))] [],
    .expr (.upd 4 (.lc (.tup [(.idx (.v 6) (.c (.int 1))), (.c (.bool true))]) (.nm 6) (.seq (.v 2)) [(.cmp .Eq (.idx (.v 6) (.c (.int 0))) (.c (.str "on")))] [6])),
    .set (.nm 7) (.lst []),
    .for_ (.nm 6) (.seq (.v 2)) [
      .expr (.mu .extend 7 [(.call g [(.v 6)])])],
    .set (.nm 2) (.v 7),
    .ite (.cmp .Eq (.v 2) (.lst [])) [
      .ret (.cmp .LtE (.bi .len [(.v 4)]) (.c (.int 8)))] []]
/-- what slot 2 holds -/
def LvV (v : Val) (l : List D) : Prop := v = OL l ∨ v = Val.d (.list l)
theorem turn_ok (k : Nat) (e0 : Option Val) (wd : Nat) (v2 : Val) (l : List D) (m : Nat) (zs : List Str) (y : D) (e5 o6 o7 : Option Val) (hv : LvV v2 l) (hg6 : o6 = none ∨ ∃ x, o6 = some (Val.d x)) (hl : ∀ x ∈ l, Good x) (hll : l.length ≤ 1000000) (hwd : wd ≤ 1000) (hm : m ≤ 1000000) (hz : zs.length ≤ 1000000) :
    (40 < m + l.length ∨ l.all (formed wd) = false → ∃ e', loopF (cxP G (k + 2) [false, false]) (.nm 5) (turnB f g) y [e0, some (Val.d (.int wd)), some v2, some (Val.d (.int m)), some (OD (nmK zs)), e5, o6, o7] = .ok (.ret (Val.d (.bool false))) e') ∧
    (m + l.length ≤ 40 → l.all (formed wd) = true → l.flatMap kidsD = [] → ∃ e', loopF (cxP G (k + 2) [false, false]) (.nm 5) (turnB f g) y [e0, some (Val.d (.int wd)), some v2, some (Val.d (.int m)), some (OD (nmK zs)), e5, o6, o7] = .ok (.ret (Val.d (.bool (decide (((namesOf l).foldl addS zs).length ≤ 8))))) e') ∧
    (m + l.length ≤ 40 → l.all (formed wd) = true → l.flatMap kidsD ≠ [] → ∃ o6' o7', (o6' = none ∨ ∃ x, o6' = some (Val.d x)) ∧ loopF (cxP G (k + 2) [false, false]) (.nm 5) (turnB f g) y [e0, some (Val.d (.int wd)), some v2, some (Val.d (.int m)), some (OD (nmK zs)), e5, o6, o7] =
      .ok .nx [e0, some (Val.d (.int wd)), some (Val.d (.list (l.flatMap kidsD))), some (Val.d (.int ((m : Int) + l.length))), some (OD (nmK ((namesOf l).foldl addS zs))), some (Val.d y), o6', o7']) := by
  have hs1 : l.length ≤ 16777216 := by omega
  have hfree : ∀ e : PM.Env, getS e 6 = o6 → [6].all (lcFree (cxP G (k + 2) [false, false]) e) = true := fun e he => by
    rcases hg6 with rfl | ⟨x, rfl⟩
    · simp [lcFree_none he]
    · simp [lcFree_d he]
  have L1 : ∀ mm : Int, doLc (cxP G (k + 2) [false, false]) (.call f [(.v 6), (.v 1)]) (.nm 6) [] [6] (some (l, [e0, some (Val.d (.int wd)), some (Val.d (.list l)), some (Val.d (.int mm)), some (OD (nmK zs)), some (Val.d y), o6, o7])) = .ok (OL (l.map fun x => .bool (formed wd x))) [e0, some (Val.d (.int wd)), some (Val.d (.list l)), some (Val.d (.int mm)), some (OD (nmK zs)), some (Val.d y), o6, o7] := fun mm => by
    rw [doLc_mapD (fun x => .bool (formed wd x)) (hfree _ (by simp)) (by rw [lN]; exact hs1) fun x hx => ?_]
    · simp
    · rw [lcStep0]
      simp [call_is_formed hn hf k x wd (hl x hx) (by omega)]
  by_cases c1 : 40 < m + l.length
  · have c1' : (40 : Int) < (m : Int) + l.length := by omega
    refine ⟨fun _ => ?_, fun h => absurd h (by omega), fun h => absurd h (by omega)⟩
    rw [loopF_go]
    rcases hv with rfl | rfl
    · simp [turnB, c1']
    · simp [turnB, c1']
  have c1' : ¬ (40 : Int) < (m : Int) + l.length := by omega
  by_cases c2 : l.all (formed wd) = true
  · have hF : ∀ x ∈ l, formed wd x = true := fun x hx => List.all_eq_true.mp c2 x hx
    have hln : (namesOf l).length ≤ l.length := List.length_filterMap_le _ _
    have L2 : ∀ mm : Int, doLc (cxP G (k + 2) [false, false]) (.tup [(.idx (.v 6) (.c (.int 1))), (.c (.bool true))]) (.nm 6) [(.cmp .Eq (.idx (.v 6) (.c (.int 0))) (.c (.str "on")))] [6] (some (l, [e0, some (Val.d (.int wd)), some (Val.d (.list l)), some (Val.d (.int mm)), some (OD (nmK zs)), some (Val.d y), o6, o7])) = .ok (OL (l.filterMap onPair)) [e0, some (Val.d (.int wd)), some (Val.d (.list l)), some (Val.d (.int mm)), some (OD (nmK zs)), some (Val.d y), o6, o7] := fun mm => by
      rw [doLc_filD onPair (hfree _ (by simp)) (by rw [lN]; exact hs1) fun x hx => ?_]
      · simp
      · rw [lcStep1]
        obtain ⟨w, ks, rfl, hk⟩ := formed_cases (hF x hx)
        by_cases h1 : w = "on"
        · obtain ⟨z, rfl, _⟩ := formed_on hk h1
          simp [h1, onPair, onName, lN]
        · have e1 : onName (.tuple (.str w :: ks)) = none := by
            unfold onName
            split
            · rename_i w' z r e
              injection e with e
              injection e with e _
              injection e with e
              rw [← e, if_neg h1]
            · rfl
          simp [h1, onPair, e1]
    have hz3 : (nmK zs).length + (nmK (namesOf l)).length ≤ 16777216 := by
      unfold nmK
      rw [List.length_map, List.length_map]
      omega
    obtain ⟨o6', q6, B⟩ := below_loop hn hf hg (k + 1) [false, false] (by simp) e0 (some (Val.d (.int wd))) (some (Val.d (.list l))) (some (Val.d (.int ((m : Int) + l.length)))) (some (OD (nmK ((namesOf l).foldl addS zs)))) (some (Val.d y)) (wd := wd) l [] o6 hF (by
      have : l.length ≤ 40 := by omega
      have : l.length * (wd + 3) ≤ 40 * 1003 := Nat.mul_le_mul this (by omega)
      simp; omega)
    rw [List.nil_append] at B
    obtain ⟨l', hl'⟩ : ∃ l', l' = l.flatMap kidsD := ⟨_, rfl⟩
    rw [← hl'] at B ⊢
    have hq6 : o6' = none ∨ ∃ x, o6' = some (Val.d x) := q6.elim (fun e => e ▸ hg6) .inr
    have hlen : (nmK ((namesOf l).foldl addS zs)).length = ((namesOf l).foldl addS zs).length := List.length_map _
    have h8 : ((((namesOf l).foldl addS zs).length : Nat) : Int) ≤ 8 ↔ ((namesOf l).foldl addS zs).length ≤ 8 := by omega
    have fin : ∀ v2, LvV v2 l → loopF (cxP G (k + 2) [false, false]) (.nm 5) (turnB f g) y [e0, some (Val.d (.int wd)), some v2, some (Val.d (.int m)), some (OD (nmK zs)), e5, o6, o7] =
        if (l').isEmpty = true then .ok (.ret (Val.d (.bool (decide (((namesOf l).foldl addS zs).length ≤ 8))))) [e0, some (Val.d (.int wd)), some (Val.d (.list (l'))), some (Val.d (.int ((m : Int) + l.length))), some (OD (nmK ((namesOf l).foldl addS zs))), some (Val.d y), o6', some (Val.d (.list (l')))]
        else .ok .nx [e0, some (Val.d (.int wd)), some (Val.d (.list (l'))), some (Val.d (.int ((m : Int) + l.length))), some (OD (nmK ((namesOf l).foldl addS zs))), some (Val.d y), o6', some (Val.d (.list (l')))] := by
      intro v2 hv
      rw [loopF_go]
      rcases hv with rfl | rfl
      · simp [turnB, c1', walkV_pk', L1, -List.all_eq_true, c2, L2, pairsK_on, hz3, mergeD_nm, lN]
        rw [B]
        simp [hlen, h8]
      · simp [turnB, c1', L1, -List.all_eq_true, c2, L2, pairsK_on, hz3, mergeD_nm, lN]
        rw [B]
        simp [hlen, h8]
    exact ⟨fun h => absurd h (by simp [c1, c2]), fun _ _ c3 => by rw [fin v2 hv, if_pos (by rw [c3]; rfl)]; exact ⟨_, rfl⟩, fun _ _ c3 => by rw [fin v2 hv, if_neg (by simpa using c3)]; exact ⟨_, _, hq6, rfl⟩⟩
  · have c2' : l.all (formed wd) = false := by simpa using c2
    refine ⟨fun _ => ?_, fun _ h => absurd h c2, fun _ h => absurd h c2⟩
    rw [loopF_go]
    rcases hv with rfl | rfl
    · simp [turnB, c1', walkV_pk', L1, -List.all_eq_false, -List.all_eq_true, c2']
    · simp [turnB, c1', L1, c2']
/-- all turns -/
theorem turns_ok (k : Nat) (e0 : Option Val) (wd : Nat) (hwd : wd ≤ 1000) : ∀ (xs : List D) (v2 : Val) (l : List D) (m : Nat) (zs : List Str) (e5 o6 o7 : Option Val), LvV v2 l → (o6 = none ∨ ∃ x, o6 = some (Val.d x)) → (∀ x ∈ l, Good x) → l.length ≤ 50000 → m ≤ 40 → zs.length ≤ m →
    ∃ fl e', forL (loopF (cxP G (k + 2) [false, false]) (.nm 5) (turnB f g)) xs [e0, some (Val.d (.int wd)), some v2, some (Val.d (.int m)), some (OD (nmK zs)), e5, o6, o7] = .ok fl e' ∧ ((fl = .nx ∧ lev wd xs.length l m zs = false) ∨ fl = .ret (Val.d (.bool (lev wd xs.length l m zs))))
  | [], v2, l, m, zs, e5, o6, o7, _, _, _, _, _, _ => ⟨_, _, rfl, .inl ⟨rfl, rfl⟩⟩
  | y :: xs, v2, l, m, zs, e5, o6, o7, hv, hg6, hl, hll, hm, hz => by
    obtain ⟨t1, t2, t3⟩ := turn_ok hn hf hg k e0 wd v2 l m zs y e5 o6 o7 hv hg6 hl (by omega) hwd (by omega) (by omega)
    rw [List.length_cons]
    unfold lev
    by_cases c1 : 40 < m + l.length ∨ l.all (formed wd) = false
    · obtain ⟨e', h⟩ := t1 c1
      rw [if_pos c1]
      exact ⟨_, e', forL_ret h, .inr rfl⟩
    · rw [if_neg c1]
      obtain ⟨c1, c2⟩ := not_or.mp c1
      have c2 : l.all (formed wd) = true := by simpa using c2
      by_cases c3 : l.flatMap kidsD = []
      · obtain ⟨e', h⟩ := t2 (by omega) c2 c3
        rw [if_pos c3]
        exact ⟨_, e', forL_ret h, .inr rfl⟩
      · obtain ⟨o6', o7', q6, h⟩ := t3 (by omega) c2 c3
        rw [if_neg c3]
        have hF : ∀ x ∈ l, formed wd x = true := fun x hx => List.all_eq_true.mp c2 x hx
        have hz' : ((namesOf l).foldl addS zs).length ≤ m + l.length := by
          have : ∀ (ys zs : List Str), (ys.foldl addS zs).length ≤ zs.length + ys.length := fun ys => by
            induction ys with
            | nil => intro zs; simp
            | cons y r ih =>
              intro zs
              refine Nat.le_trans (ih (addS zs y)) ?_
              unfold addS
              split <;> simp <;> omega
          have h1 := this (namesOf l) zs
          have h2 : (namesOf l).length ≤ l.length := List.length_filterMap_le _ _
          omega
        have hb : ∀ l : List D, (∀ x ∈ l, formed wd x = true) → (l.flatMap kidsD).length ≤ l.length * (wd + 3) := fun l => by
          induction l with
          | nil => intro _; simp
          | cons x r ih =>
            intro h
            rw [List.flatMap_cons, List.length_append, List.length_cons, Nat.add_mul]
            have := kids_len (h x List.mem_cons_self)
            have := ih fun y m => h y (List.mem_cons_of_mem _ m)
            omega
        have hb := hb l hF
        have hb2 : l.length * (wd + 3) ≤ 40 * 1003 := Nat.mul_le_mul (by omega) (by omega)
        obtain ⟨fl, e', h1, h2⟩ := turns_ok k e0 wd hwd xs (Val.d (.list (l.flatMap kidsD))) (l.flatMap kidsD) (m + l.length) ((namesOf l).foldl addS zs) (some (Val.d y)) o6' o7' (.inr rfl) q6
          (fun x hx => by
            obtain ⟨z, hz, hx⟩ := List.mem_flatMap.mp hx
            exact kids_good (hl z hz) x hx) (by omega) (by omega) hz'
        refine ⟨fl, e', ?_, h2⟩
        rw [forL_nx h]
        exact h1
theorem call_is_said (h : G.funs[i]? = some (PT.fd_is_said f g)) (k : Nat) (x : D) (wd : Nat) (hx : Good x) (hwd : wd ≤ 1000) : callM G (k + 3) i [Val.d x, Val.d (.int wd)] = .ok (Val.d (.bool (isSaid wd x))) [Val.d x, Val.d (.int wd)] := by
  rw [call_go h ⟨rfl, Nat.le_of_ble_eq_true rfl⟩]
  obtain ⟨fl, e', h1, h2⟩ := turns_ok hn hf hg k (some (Val.d x)) wd hwd (rangeV 0 8) (OL [x]) [x] 0 [] none none none (.inl rfl) (.inl rfl) (fun y hy => by rw [List.mem_singleton.mp hy]; exact hx) (by simp) (by omega) (by simp)
  rw [rangeV_len, lev_said] at h2
  have e1 : OD (nmK []) = OD (mergeD [] []) := rfl
  simp [PT.fd_is_said, PT.mb_is_said, lN, twosK]
  rw [e1] at h1
  refine Eq.trans (congrArg (fun z => endM _ (goF _ z _ _)) h1) ?_
  rcases h2 with ⟨rfl, h2⟩ | rfl
  · rw [h2]
    simp
  · simp
end
end PL
end

section
set_option Elab.async false
set_option linter.all false
set_option maxRecDepth 100000
set_option maxHeartbeats 2000000
/-! LG: sayings drawn from a stream. -/
namespace PL
open PySem PM
theorem fit_mono {wd : Nat} : ∀ {n m : Nat} {d : D}, fit wd n d = true → n ≤ m → fit wd m d = true ∧ parts m d = parts n d
  | 0, _, _, h, _ => by cases h
  | n + 1, 0, _, _, h => by omega
  | n + 1, m + 1, d, h, hl => by
    simp only [fit, Bool.and_eq_true, List.all_eq_true] at h ⊢
    refine ⟨⟨h.1, fun x hx => (fit_mono (h.2 x hx) (by omega)).1⟩, ?_⟩
    unfold parts
    congr 1
    have : ∀ l : List D, (∀ x ∈ l, fit wd n x = true) → l.flatMap (parts m) = l.flatMap (parts n) := fun l => by
      induction l with
      | nil => intro _; rfl
      | cons x r ih =>
        intro hh
        rw [List.flatMap_cons, List.flatMap_cons, ih fun y hy => hh y (List.mem_cons_of_mem _ hy), (fit_mono (m := m) (hh x List.mem_cons_self) (by omega)).2]
    exact this _ h.2
def sYes : D := .tuple [.str "yes"]
def sNo : D := .tuple [.str "no"]
def sOn (l : List Nat) : D := .tuple [.str "on", nmD l]
/-- a saying of these names, so deep and so great at the most -/
structure Drawn (ls : List (List Nat)) (n r : Nat) (d : D) : Prop where
  fit : fit 6 n d = true
  good : Good d
  sz : (parts n d).length ≤ r
  nm : ∀ x ∈ parts n d, ∀ z, onName x = some z → ∃ l ∈ ls, z = W l
theorem Drawn.mono {ls : List (List Nat)} {n r n' r' : Nat} {d : D} (h : Drawn ls n r d) (hn : n ≤ n') (hr : r ≤ r') : Drawn ls n' r' d := by
  obtain ⟨f, e⟩ := fit_mono h.fit hn
  exact ⟨f, h.good, by rw [e]; exact Nat.le_trans h.sz hr, by rw [e]; exact h.nm⟩
theorem good_str (s : String) (h : (PyData.strOk (Str.ofString s) && decide ((Str.ofString s).length ≤ 1000000)) = true) : Good (.str s) := by
  rw [Bool.and_eq_true, decide_eq_true_eq] at h
  exact .str h.1 h.2
theorem good_nm {l : List Nat} (h : Valid l) : Good (nmD l) := .str (strOk_valid h) (by have := h.2.1; rw [W_len]; omega)
theorem good_yes : Good sYes := .tuple (by simp) fun x hx => by rw [List.mem_singleton.mp hx]; exact good_str _ (by decide +kernel)
theorem good_no : Good sNo := .tuple (by simp) fun x hx => by rw [List.mem_singleton.mp hx]; exact good_str _ (by decide +kernel)
theorem good_on {l : List Nat} (h : Valid l) : Good (sOn l) := .tuple (by simp) fun x hx => by
  simp only [List.mem_cons, List.not_mem_nil, or_false] at hx
  rcases hx with rfl | rfl
  · exact good_str _ (by decide +kernel)
  · exact good_nm h
theorem drawn_yes (ls : List (List Nat)) : Drawn ls 1 1 sYes where
  fit := by simp [fit, formed, formedK, sYes, kidN, ofS_inj, kidsD, kidsK]
  good := good_yes
  sz := by simp [parts, sYes, kidsD, kidsK, ofS_inj]
  nm := by simp [parts, sYes, kidsD, kidsK, ofS_inj, onName]
theorem drawn_no (ls : List (List Nat)) : Drawn ls 1 1 sNo where
  fit := by simp [fit, formed, formedK, sNo, kidN, ofS_inj, kidsD, kidsK]
  good := good_no
  sz := by simp [parts, sNo, kidsD, kidsK, ofS_inj]
  nm := by simp [parts, sNo, kidsD, kidsK, ofS_inj, onName]
theorem drawn_on {ls : List (List Nat)} {l : List Nat} (h : Valid l) (m : l ∈ ls) : Drawn ls 1 1 (sOn l) where
  fit := by
    have := (isName_nm l).mpr h
    simp [fit, formed, formedK, sOn, kidN, ofS_inj, kidsD, kidsK, this]
  good := good_on h
  sz := by simp [parts, sOn, kidsD, kidsK]
  nm := by
    simp [parts, sOn, kidsD, kidsK, onName]
    exact ⟨l, m, rfl⟩
theorem flat_len {f : D → List D} {r : Nat} : ∀ {l : List D}, (∀ x ∈ l, (f x).length ≤ r) → (l.flatMap f).length ≤ l.length * r
  | [], _ => by simp
  | x :: l, h => by
    rw [List.flatMap_cons, List.length_append, List.length_cons, Nat.add_mul]
    have := flat_len (l := l) fun y m => h y (List.mem_cons_of_mem _ m)
    have := h x List.mem_cons_self
    omega
/-- a word with kids -/
theorem drawn_node {ls : List (List Nat)} {n r : Nat} {w : Str} {ks : List D} (hw : Good (.str w)) (h1 : w ≠ "on") (hf : formedK 6 w ks = true) (hk : ∀ x ∈ ks, Drawn ls n r x) : Drawn ls (n + 1) (1 + ks.length * r) (.tuple (.str w :: ks)) where
  fit := by
    simp only [fit, formed, hf, kidsD, kidsK, if_neg h1, Bool.true_and, List.all_eq_true]
    exact fun x hx => (hk x hx).fit
  good := .tuple (by have := formedK_len hf; rw [List.length_cons]; omega) fun x hx => by
    rcases List.mem_cons.mp hx with rfl | hx
    · exact hw
    · exact (hk x hx).good
  sz := by
    simp only [parts, kidsD, kidsK, if_neg h1, List.length_cons]
    have := flat_len (f := parts n) (r := r) fun x hx => (hk x hx).sz
    omega
  nm := fun x hx z hz => by
    simp only [parts, kidsD, kidsK, if_neg h1] at hx
    rcases List.mem_cons.mp hx with rfl | hx
    · unfold onName at hz
      split at hz
      · rename_i w' z' r' e
        injection e with e
        injection e with e _
        injection e with e
        rw [← e, if_neg h1] at hz
        cases hz
      · cases hz
    · obtain ⟨y, hy, hx⟩ := List.mem_flatMap.mp hx
      exact (hk y hy).nm x hx z hz
def kidB (t i : Nat) : List MS := [
    .expr (.mu .append 7 [(.call i [(.v 0), (.v 1), (.bin .FloorDiv (.bin .Sub (.v 2) (.c (.int 1))) (.v 6)), (.bin .Sub (.v 3) (.c (.int 1)))])]),
    .ite (.and (.cmp .Gt (.v 8) (.c (.int 0))) (.cmp .Eq (.call t [(.v 0), (.c (.int 6))]) (.c (.int 1)))) [
      .setix 7 (.v 8) (.idx (.v 7) (.call t [(.v 0), (.v 8)]))] []]
def budget (n : Nat) : Int := 20 * 7 ^ n
theorem budget_succ (n : Nat) : 14 + 6 * budget n ≤ budget (n + 1) ∧ 20 ≤ budget n := by
  have : (1 : Int) ≤ 7 ^ n := by
    induction n with
    | zero => decide
    | succ n ih => rw [Int.pow_succ]; omega
  unfold budget
  rw [Int.pow_succ]
  omega
/-- what a saying of one level less is -/
def DrawAt (G : Prog) (i k : Nat) (ls : List (List Nat)) (dp : Nat) : Prop := ∀ (b : Bool) (n c s : Int) (room : Nat), 1 ≤ room → room ≤ 100 → 0 ≤ c → c + budget dp < 100000000000000000 →
    ∃ (n' c' : Int) (d : D), c ≤ c' ∧ c' ≤ c + budget dp ∧ Drawn ls dp room d ∧ callM G k i [st b n c s, OL (ls.map nmD), Val.d (.int room), Val.d (.int dp)] = .ok (Val.d d) [st b n' c' s, OL (ls.map nmD), Val.d (.int room), Val.d (.int dp)]
section
variable {G : Prog} {i m t f : Nat} (hm : G.funs[m]? = some PT.fd__law_mixed) (ht : G.funs[t]? = some (PT.fd__law_take m))
include hm ht
theorem call_leaf (h : G.funs[i]? = some (PT.fd__law_leaf t)) (k : Nat) (b : Bool) (n c s : Int) (ls : List (List Nat)) (hv : ∀ l ∈ ls, Valid l) (hl : ls.length ≤ 100) (h0 : 0 ≤ c) (h1 : c < 1000000000000000000) :
    ∃ (n' c' : Int) (d : D), c ≤ c' ∧ c' ≤ c + 2 ∧ Drawn ls 1 1 d ∧ callM G (k + 3) i [st b n c s, OL (ls.map nmD)] = .ok (Val.d d) [st b n' c' s, OL (ls.map nmD)] := by
  rw [call_go h ⟨rfl, Nat.le_of_ble_eq_true rfl⟩]
  have pick : ∀ (n c : Int), 0 ≤ c → c < 1100000000000000000 → ∃ (n' : Int) (r : Nat), (r : Int) < 2 ∧ callM G (k + 2) t [st b n c s, Val.d (.int 2)] = .ok (Val.d (.int r)) [st b n' (c + 1) s, Val.d (.int 2)] := fun n c a a' => call_take ht hm k b n c s 2 a (by omega) (by omega) (by omega)
  have two : ∀ r : Nat, (r : Int) < 2 → ∃ d, L2.atI [PyData.tuple [.str "yes"], .tuple [.str "no"]] (r : Int) = some d ∧ Drawn ls 1 1 d := fun r hr => by
    have : r = 0 ∨ r = 1 := by omega
    rcases this with rfl | rfl
    · exact ⟨_, rfl, drawn_yes ls⟩
    · exact ⟨_, rfl, drawn_no ls⟩
  by_cases hz : ls = []
  · subst hz
    obtain ⟨n1, r, r1, T⟩ := pick n c h0 (by omega)
    obtain ⟨d, hd, dd⟩ := two r r1
    refine ⟨n1, c + 1, d, by omega, by omega, dd, ?_⟩
    simp [PT.fd__law_leaf, PT.mb__law_leaf, lN, T, hd]
  · have ne : ls.isEmpty = false := by cases ls with
      | nil => exact absurd rfl hz
      | cons _ _ => rfl
    obtain ⟨n1, r, r1, T⟩ := call_take ht hm k b n c s 9 h0 (by omega) (by omega) (by omega)
    by_cases h8 : (r : Int) = 8
    · obtain ⟨n2, r2, q1, T2⟩ := pick n1 (c + 1) (by omega) (by omega)
      obtain ⟨d, hd, dd⟩ := two r2 q1
      refine ⟨n2, c + 1 + 1, d, by omega, by omega, dd, ?_⟩
      simp [PT.fd__law_leaf, PT.mb__law_leaf, lN, T, T2, hd, ne, h8]
    · have pos : 0 < ls.length := by cases ls with
        | nil => exact absurd rfl hz
        | cons _ _ => simp
      obtain ⟨n2, r2, q1, T2⟩ := call_take ht hm k b n1 (c + 1) s ls.length (by omega) (by omega) (by omega) (by omega)
      have hr2 : r2 < ls.length := by omega
      have hix : L2.atI (ls.map nmD) (r2 : Int) = some (nmD ls[r2]) := by
        unfold L2.atI L2.ixN
        rw [if_pos (by omega), List.length_map, if_pos (by omega)]
        simp [hr2]
      refine ⟨n2, c + 1 + 1, sOn ls[r2], by omega, by omega, drawn_on (hv _ (List.getElem_mem hr2)) (List.getElem_mem hr2), ?_⟩
      simp [PT.fd__law_leaf, PT.mb__law_leaf, lN, T, T2, hix, ne, h8, sOn]
theorem kids_ok (k : Nat) (ls : List (List Nat)) (dp : Nat) (hD : DrawAt G i (k + 2) ls dp) (b : Bool) (s : Int) (room many : Nat) (hmany : 2 ≤ many ∧ many ≤ 6) (hroom : many ≤ room - 1) (hr2 : room ≤ 100) (r' : Nat) (hr' : r' = (room - 1) / many) (o4 o5 : Option Val) : ∀ (q j : Nat) (n c : Int) (ds : List D) (o8 : Option Val), 0 ≤ c → c + q * (budget dp + 2) < 100000000000000000 → ds.length = j → (∀ x ∈ ds, Drawn ls dp r' x) → j + q ≤ 6 →
    ∃ (n' c' : Int) (ds' : List D) (o8' : Option Val), c ≤ c' ∧ c' ≤ c + q * (budget dp + 2) ∧ ds'.length = j + q ∧ (∀ x ∈ ds', Drawn ls dp r' x) ∧ forL (loopF (cxP G (k + 2) [true, true, false, false]) (.nm 8) (kidB t i)) (rangeV j q) [some (st b n c s), some (OL (ls.map nmD)), some (Val.d (.int room)), some (Val.d (.int ((dp : Int) + 1))), o4, o5, some (Val.d (.int many)), some (OL ds), o8] =
      .ok .nx [some (st b n' c' s), some (OL (ls.map nmD)), some (Val.d (.int room)), some (Val.d (.int ((dp : Int) + 1))), o4, o5, some (Val.d (.int many)), some (OL ds'), o8']
  | 0, j, n, c, ds, o8, h0, h1, hl, hd, hj => ⟨n, c, ds, o8, by omega, by omega, hl, hd, rfl⟩
  | q + 1, j, n, c, ds, o8, h0, h1, hl, hd, hj => by
    have e0 : (((q + 1 : Nat) : Int)) * (budget dp + 2) = q * (budget dp + 2) + (budget dp + 2) := by
      rw [Int.natCast_add, Int.add_mul]; omega
    rw [e0] at h1 ⊢
    have hb := (budget_succ dp).2
    have hq0 : 0 ≤ (q : Int) * (budget dp + 2) := Int.mul_nonneg (by omega) (by omega)
    have hr1 : 1 ≤ r' := hr' ▸ (Nat.le_div_iff_mul_le (by omega)).mpr (by omega)
    have hr100 : r' ≤ 100 := hr' ▸ Nat.le_trans (Nat.div_le_self _ _) (by omega)
    obtain ⟨n1, c1, d, g1, g2, g3, g4⟩ := hD b n c s r' hr1 hr100 h0 (by omega)
    have er : (((room : Nat) : Int) - 1) / (many : Int) = (r' : Int) := by
      rw [hr', Int.natCast_ediv]
      congr 1
      omega
    have ed : ((dp : Int) + 1 - 1) = dp := by omega
    have hd2 : ∀ x ∈ ds ++ [d], Drawn ls dp r' x := fun x hx => (List.mem_append.mp hx).elim (hd x) fun z => by rw [List.mem_singleton.mp z]; exact g3
    have hm1 : (0 : Int) < many := by omega
    have hmn : 0 < many := by omega
    have hjn : j ≠ 0 → 0 < j := fun h => by omega
    have hm2 : (many : Int) < 1073741824 := by omega
    have hl7 : ds.length < 16777216 := by omega
    have go_on : ∀ (n2 c2 : Int) (ds2 : List D), c1 ≤ c2 → c2 ≤ c1 + 2 → ds2.length = j + 1 → (∀ x ∈ ds2, Drawn ls dp r' x) → loopF (cxP G (k + 2) [true, true, false, false]) (.nm 8) (kidB t i) (.int j) [some (st b n c s), some (OL (ls.map nmD)), some (Val.d (.int room)), some (Val.d (.int ((dp : Int) + 1))), o4, o5, some (Val.d (.int many)), some (OL ds), o8] = .ok .nx [some (st b n2 c2 s), some (OL (ls.map nmD)), some (Val.d (.int room)), some (Val.d (.int ((dp : Int) + 1))), o4, o5, some (Val.d (.int many)), some (OL ds2), some (Val.d (.int j))] →
        ∃ (n' c' : Int) (ds' : List D) (o8' : Option Val), c ≤ c' ∧ c' ≤ c + (q * (budget dp + 2) + (budget dp + 2)) ∧ ds'.length = j + (q + 1) ∧ (∀ x ∈ ds', Drawn ls dp r' x) ∧ forL (loopF (cxP G (k + 2) [true, true, false, false]) (.nm 8) (kidB t i)) (rangeV j (q + 1)) [some (st b n c s), some (OL (ls.map nmD)), some (Val.d (.int room)), some (Val.d (.int ((dp : Int) + 1))), o4, o5, some (Val.d (.int many)), some (OL ds), o8] =
      .ok .nx [some (st b n' c' s), some (OL (ls.map nmD)), some (Val.d (.int room)), some (Val.d (.int ((dp : Int) + 1))), o4, o5, some (Val.d (.int many)), some (OL ds'), o8'] := fun n2 c2 ds2 a1 a2 a3 a4 a5 => by
      obtain ⟨n', c', ds', o8', k1, k2, k3, k4, k5⟩ := kids_ok k ls dp hD b s room many hmany hroom hr2 r' hr' o4 o5 q (j + 1) n2 c2 ds2 (some (Val.d (.int j))) (by omega) (by omega) a3 a4 (by omega)
      refine ⟨n', c', ds', o8', by omega, by omega, by omega, k4, ?_⟩
      show forL _ (.int j :: rangeV ((j : Int) + 1) q) _ = _
      rw [forL_nx a5]
      exact k5
    by_cases hj0 : j = 0
    · subst hj0
      refine go_on n1 c1 (ds ++ [d]) (by omega) (by omega) (by simp [hl]) hd2 ?_
      rw [loopF_go]
      simp [kidB, er, ed, g4, hmn, hm1, hm2, lN, hl7]
    · obtain ⟨n2, r, r1, T⟩ := call_take ht hm k b n1 c1 s 6 (by omega) (by omega) (by omega) (by omega)
      have hj1 : (0 : Int) < j := by omega
      have hj2 : 0 < j := by omega
      by_cases h6 : (r : Int) = 1
      · obtain ⟨n3, r3, q1, T3⟩ := call_take ht hm k b n2 (c1 + 1) s j (by omega) (by omega) (by omega) (by omega)
        have hr3 : r3 < (ds ++ [d]).length := by simp; omega
        have hix : L2.atI (ds ++ [d]) (r3 : Int) = some (ds ++ [d])[r3] := by
          unfold L2.atI L2.ixN
          rw [if_pos (by omega), if_pos (by omega)]
          simp [hr3]
        have hset : L2.ixN (ds ++ [d]).length (j : Int) = some j := by
          unfold L2.ixN
          rw [if_pos (by omega), if_pos (by simp; omega)]
          simp
        have hset' : L2.ixN (ds.length + 1) (j : Int) = some j := by
          have := hset
          rwa [List.length_append] at this
        refine go_on n3 (c1 + 1 + 1) ((ds ++ [d]).set j (ds ++ [d])[r3]) (by omega) (by omega) (by simp [hl]) (fun x hx => ?_) ?_
        · rcases List.mem_or_eq_of_mem_set hx with hx | rfl
          · exact hd2 x hx
          · exact hd2 _ (List.getElem_mem hr3)
        · rw [loopF_go]
          simp [kidB, er, ed, g4, hmn, hm1, hm2, lN, hl7, T, h6, hj1, hj2, T3, hix, hset']
      · refine go_on n2 (c1 + 1) (ds ++ [d]) (by omega) (by omega) (by simp [hl]) hd2 ?_
        rw [loopF_go]
        simp [kidB, er, ed, g4, hmn, hm1, hm2, lN, hl7, T, h6, hj1, hj2]
end
end PL
end

section
set_option Elab.async false
set_option linter.all false
set_option maxRecDepth 100000
set_option maxHeartbeats 2000000
/-! LH: sayings drawn from a stream, to their end. -/
namespace PL
open PySem PM
theorem words_at (r : Nat) (h : 3 ≤ r) (h2 : r ≤ 12) : ∃ w : String, L2.atI [PyData.str "and", .str "or", .str "and", .str "or", .str "and", .str "or", .str "same", .str "same", .str "pick", .str "pick"] ((r : Int) - 3) = some (.str (Str.ofString w)) ∧ (w = "and" ∨ w = "or" ∨ w = "same" ∨ w = "pick") := by
  have : r = 3 ∨ r = 4 ∨ r = 5 ∨ r = 6 ∨ r = 7 ∨ r = 8 ∨ r = 9 ∨ r = 10 ∨ r = 11 ∨ r = 12 := by omega
  rcases this with rfl | rfl | rfl | rfl | rfl | rfl | rfl | rfl | rfl | rfl <;> exact ⟨_, rfl, by simp⟩
theorem merge_sp : mergeD [] [((Sum.inr (Str.ofString "same") : Key), PyData.int 2), (Sum.inr (Str.ofString "pick"), .int 3)] = [(Sum.inr (Str.ofString "same"), .int 2), (Sum.inr (Str.ofString "pick"), .int 3)] := by
  simp [mergeD, PM.putK, ofS_inj]
theorem twos_sp : twosK [PyData.str "same", .int 2, .str "pick", .int 3] = some [((Sum.inr (Str.ofString "same") : Key), PyData.int 2), (Sum.inr (Str.ofString "pick"), .int 3)] := rfl
theorem good_lit {w : String} (h : w = "and" ∨ w = "or" ∨ w = "same" ∨ w = "pick" ∨ w = "not") : Good (.str (Str.ofString w)) := by
  rcases h with rfl | rfl | rfl | rfl | rfl <;> exact good_str _ (by decide +kernel)
section
variable {G : Prog} {i m t f : Nat} (hm : G.funs[m]? = some PT.fd__law_mixed) (ht : G.funs[t]? = some (PT.fd__law_take m))
include hm ht
theorem call_saying_by (h : G.funs[i]? = some (PT.fd__law_saying_by t f i)) (hf : G.funs[f]? = some (PT.fd__law_leaf t)) (k : Nat) (ls : List (List Nat)) (hv : ∀ l ∈ ls, Valid l) (hl : ls.length ≤ 100) : ∀ dp : Nat, DrawAt G i (k + dp + 4) ls (dp + 1)
  | 0 => fun b n c s room g1 g2 h0 h1 => by
    obtain ⟨e1, e2⟩ := budget_succ 0
    obtain ⟨n1, r, r1, T⟩ := call_take ht hm (k + 1) b n c s 16 h0 (by omega) (by omega) (by omega)
    obtain ⟨n2, c2, d, k1, k2, k3, k4⟩ := call_leaf hm ht hf k b n1 (c + 1) s ls hv hl (by omega) (by omega)
    refine ⟨n2, c2, d, by omega, by omega, k3.mono (Nat.le_refl _) g1, ?_⟩
    rw [call_go h ⟨rfl, Nat.le_of_ble_eq_true rfl⟩]
    have e : ∀ p : Prop, [Decidable p] → ∀ x : Res PM.Flow, (if p then x else x) = x := fun p _ x => by split <;> rfl
    by_cases q1 : (12 : Int) < r
    · have q1' : 12 < r := by omega
      simp [PT.fd__law_saying_by, PT.mb__law_saying_by, T, q1, q1', k4]
    · have q1' : ¬ 12 < r := by omega
      by_cases q2 : (room : Int) < 3
      · have q2' : room < 3 := by omega
        simp [PT.fd__law_saying_by, PT.mb__law_saying_by, T, q1, q1', q2, q2', k4]
      · have q2' : ¬ room < 3 := by omega
        simp [PT.fd__law_saying_by, PT.mb__law_saying_by, T, q1, q1', q2, q2', k4]
  | dp + 1 => fun b n c s room g1 g2 h0 h1 => by
    have IH := call_saying_by h hf k ls hv hl dp
    obtain ⟨e1, e2⟩ := budget_succ (dp + 1)
    have e3 := (budget_succ dp).2
    obtain ⟨n1, r, r1, T⟩ := call_take ht hm (k + dp + 2) b n c s 16 h0 (by omega) (by omega) (by omega)
    rw [show k + dp + 2 + 2 = k + dp + 4 by omega] at T
    rw [show k + (dp + 1) + 4 = (k + dp + 4) + 1 by omega, call_go h ⟨rfl, Nat.le_of_ble_eq_true rfl⟩]
    have hdp : ((dp + 1 + 1 : Nat) : Int) = (dp : Int) + 1 + 1 := by omega
    rw [hdp]
    by_cases q : 12 < r ∨ room < 3
    · obtain ⟨n2, c2, d, k1, k2, k3, k4⟩ := call_leaf hm ht hf (k + dp + 1) b n1 (c + 1) s ls hv hl (by omega) (by omega)
      rw [show k + dp + 1 + 3 = k + dp + 4 by omega] at k4
      refine ⟨n2, c2, d, by omega, by omega, k3.mono (by omega) g1, ?_⟩
      by_cases q1 : 12 < r
      · have q1' : (12 : Int) < r := by omega
        simp [PT.fd__law_saying_by, PT.mb__law_saying_by, T, q1, q1', k4]
      · have q1' : ¬ (12 : Int) < r := by omega
        have q2 : room < 3 := q.resolve_left q1
        have q2' : (room : Int) < 3 := by omega
        simp [PT.fd__law_saying_by, PT.mb__law_saying_by, T, q1, q1', q2, q2', k4]
    · obtain ⟨q1, q2⟩ := not_or.mp q
      have q1' : ¬ (12 : Int) < r := by omega
      have q2' : ¬ (room : Int) < 3 := by omega
      have q3' : ¬ (dp : Int) + 1 + 1 < 2 := by omega
      by_cases q4 : r < 3
      · have q4' : (r : Int) < 3 := by omega
        obtain ⟨n2, c2, d, k1, k2, k3, k4⟩ := IH b n1 (c + 1) s (room - 1) (by omega) (by omega) (by omega) (by omega)
        have er : ((room - 1 : Nat) : Int) = (room : Int) - 1 := by omega
        have ed : (dp : Int) + 1 + 1 - 1 = ((dp + 1 : Nat) : Int) := by omega
        rw [er] at k4
        have dn := drawn_node (ls := ls) (n := dp + 1) (r := room - 1) (w := "not") (ks := [d]) (good_lit (by simp)) (by simp [ofS_inj]) (by simp [formedK, ofS_inj, kidN]) (fun x hx => by rw [List.mem_singleton.mp hx]; exact k3)
        refine ⟨n2, c2, .tuple [.str "not", d], by omega, by omega, dn.mono (Nat.le_refl _) (by simp; omega), ?_⟩
        have ed2 : ((dp + 1 : Nat) : Int) = (dp : Int) + 1 := by omega
        rw [ed2] at ed k4
        simp [PT.fd__law_saying_by, PT.mb__law_saying_by, T, q1, q1', q2, q2', q3', q4, q4', ed, k4, lN]
      · have q4' : ¬ (r : Int) < 3 := by omega
        obtain ⟨w, hw1, hw2⟩ := words_at r (by omega) (by omega)
        obtain ⟨n2, r2, p1, T2⟩ := call_take ht hm (k + dp + 2) b n1 (c + 1) s 5 (by omega) (by omega) (by omega) (by omega)
        rw [show k + dp + 2 + 2 = k + dp + 4 by omega] at T2
        have fin : ∀ (w2 : String) (many : Nat), (w2 = "and" ∨ w2 = "or" ∨ w2 = "same" ∨ w2 = "pick") → 2 ≤ many ∧ many ≤ 6 → many ≤ room - 1 → (∀ ks : List D, ks.length = many → formedK 6 (Str.ofString w2) ks = true) →
            ∃ (n' c' : Int) (ds : List D) (o8 : Option Val), c + 1 + 1 ≤ c' ∧ c' ≤ c + budget (dp + 1 + 1) ∧ Drawn ls (dp + 1 + 1) room (.tuple (.str (Str.ofString w2) :: ds)) ∧ ds.length ≤ 6 ∧
              forL (loopF (cxP G (k + dp + 4) [true, true, false, false]) (.nm 8) (kidB t i)) (rangeV 0 many) [some (st b n2 (c + 1 + 1) s), some (OL (ls.map nmD)), some (Val.d (.int room)), some (Val.d (.int ((dp : Int) + 1 + 1))), some (Val.d (.int r)), some (Val.d (.str (Str.ofString w2))), some (Val.d (.int many)), some (OL []), none] =
                .ok .nx [some (st b n' c' s), some (OL (ls.map nmD)), some (Val.d (.int room)), some (Val.d (.int ((dp : Int) + 1 + 1))), some (Val.d (.int r)), some (Val.d (.str (Str.ofString w2))), some (Val.d (.int many)), some (OL ds), o8] := fun w2 many a1 a2 a3 a4 => by
          have hb : (many : Int) * (budget (dp + 1) + 2) ≤ 6 * (budget (dp + 1) + 2) := Int.mul_le_mul_of_nonneg_right (by omega) (by omega)
          obtain ⟨n3, c3, ds, o8, j1, j2, j3, j4, j5⟩ := kids_ok hm ht (i := i) (k + dp + 2) ls (dp + 1) (by rw [show k + dp + 2 + 2 = k + dp + 4 by omega]; exact IH) b s room many a2 a3 g2 ((room - 1) / many) rfl (some (Val.d (.int r))) (some (Val.d (.str (Str.ofString w2)))) many 0 n2 (c + 1 + 1) [] none (by omega) (by omega) rfl (by simp) (by omega)
          rw [Nat.zero_add] at j3
          have dn := drawn_node (ls := ls) (n := dp + 1) (r := (room - 1) / many) (w := Str.ofString w2) (ks := ds) (good_lit (by rcases a1 with h | h | h | h <;> simp [h])) (by rcases a1 with rfl | rfl | rfl | rfl <;> simp [ofS_inj]) (a4 ds j3) j4
          have hsz : 1 + ds.length * ((room - 1) / many) ≤ room := by
            rw [j3]
            have := Nat.mul_div_le (room - 1) many
            omega
          refine ⟨n3, c3, ds, o8, by omega, by omega, dn.mono (Nat.le_refl _) hsz, by omega, ?_⟩
          rw [show k + dp + 2 + 2 = k + dp + 4 by omega] at j5
          have ed2 : ((dp + 1 : Nat) : Int) = (dp : Int) + 1 := by omega
          rw [ed2] at j5
          exact j5
        have hmin : ∀ x y : Int, (if y < x then y else x) = min x y := fun x y => by omega
        by_cases wa : w = "and" ∨ w = "or"
        · obtain ⟨mn, hmn⟩ : ∃ mn : Nat, (if (2 : Int) + (r2 : Int) < (room : Int) - 1 then (2 : Int) + (r2 : Int) else (room : Int) - 1) = (mn : Int) := ⟨(if (2 : Int) + (r2 : Int) < (room : Int) - 1 then (2 : Int) + (r2 : Int) else (room : Int) - 1).toNat, by split <;> omega⟩
          have hmb : 2 ≤ mn ∧ mn ≤ 6 ∧ mn ≤ room - 1 := by split at hmn <;> omega
          obtain ⟨n3, c3, ds, o8, j1, j2, j3, j4, j5⟩ := fin w mn hw2 ⟨hmb.1, hmb.2.1⟩ hmb.2.2 (fun ks hks => by rcases wa with rfl | rfl <;> (simp [formedK, ofS_inj, hks]; omega))
          refine ⟨n3, c3, _, by omega, j2, j3, ?_⟩
          have hm1 : (mn : Int) < 4611686018427387904 := by omega
          have hm0 : -4611686018427387904 ≤ (mn : Int) := by omega
          have hlk : lkD [((Sum.inr (Str.ofString "same") : Key), PyData.int 2), (Sum.inr (Str.ofString "pick"), .int 3)] (Sum.inr (Str.ofString w)) = none := by
            rcases wa with rfl | rfl <;> simp [lkD, ofS_inj]
          have hnp : ¬ w = "pick" := by rcases wa with rfl | rfl <;> simp
          have hds : 1 + ds.length ≤ 16777216 := by omega
          simp [PT.fd__law_saying_by, PT.mb__law_saying_by, T, q1, q1', q2, q2', q3', q4, q4', lN, hw1, T2, twos_sp, merge_sp, hlk, hmn, hnp, ofS_inj, hm1, hm0]
          refine Eq.trans (congrArg (fun z => endM _ (goF _ z _ _)) j5) ?_
          simp [lN, hds]
        · by_cases ws : w = "same"
          · subst ws
            obtain ⟨n3, c3, ds, o8, j1, j2, j3, j4, j5⟩ := fin "same" 2 (by simp) (by omega) (by omega) (fun ks hks => by simp [formedK, ofS_inj, kidN, hks])
            refine ⟨n3, c3, _, by omega, j2, j3, ?_⟩
            have hlk : lkD [((Sum.inr (Str.ofString "same") : Key), PyData.int 2), (Sum.inr (Str.ofString "pick"), .int 3)] (Sum.inr (Str.ofString "same")) = some (.int 2) := by
              simp [lkD, ofS_inj]
            have hds : 1 + ds.length ≤ 16777216 := by omega
            simp [PT.fd__law_saying_by, PT.mb__law_saying_by, T, q1, q1', q2, q2', q3', q4, q4', lN, hw1, T2, twos_sp, merge_sp, hlk, ofS_inj]
            refine Eq.trans (congrArg (fun z => endM _ (goF _ z _ _)) j5) ?_
            simp [lN, hds]
          · have wp : w = "pick" := by
              rcases hw2 with h | h | h | h
              · exact absurd (.inl h) wa
              · exact absurd (.inr h) wa
              · exact absurd h ws
              · exact h
            subst wp
            by_cases h4 : room < 4
            · have h4' : (room : Int) < 4 := by omega
              obtain ⟨n3, c3, ds, o8, j1, j2, j3, j4, j5⟩ := fin "same" 2 (by simp) (by omega) (by omega) (fun ks hks => by simp [formedK, ofS_inj, kidN, hks])
              refine ⟨n3, c3, _, by omega, j2, j3, ?_⟩
              have hlk : lkD [((Sum.inr (Str.ofString "same") : Key), PyData.int 2), (Sum.inr (Str.ofString "pick"), .int 3)] (Sum.inr (Str.ofString "pick")) = some (.int 3) := by
                simp [lkD, ofS_inj]
              have hds : 1 + ds.length ≤ 16777216 := by omega
              simp [PT.fd__law_saying_by, PT.mb__law_saying_by, T, q1, q1', q2, q2', q3', q4, q4', lN, hw1, T2, twos_sp, merge_sp, hlk, ofS_inj, h4, h4']
              refine Eq.trans (congrArg (fun z => endM _ (goF _ z _ _)) j5) ?_
              simp [lN, hds]
            · have h4' : ¬ (room : Int) < 4 := by omega
              obtain ⟨n3, c3, ds, o8, j1, j2, j3, j4, j5⟩ := fin "pick" 3 (by simp) (by omega) (by omega) (fun ks hks => by simp [formedK, ofS_inj, kidN, hks])
              refine ⟨n3, c3, _, by omega, j2, j3, ?_⟩
              have hlk : lkD [((Sum.inr (Str.ofString "same") : Key), PyData.int 2), (Sum.inr (Str.ofString "pick"), .int 3)] (Sum.inr (Str.ofString "pick")) = some (.int 3) := by
                simp [lkD, ofS_inj]
              have hds : 1 + ds.length ≤ 16777216 := by omega
              simp [PT.fd__law_saying_by, PT.mb__law_saying_by, T, q1, q1', q2, q2', q3', q4, q4', lN, hw1, T2, twos_sp, merge_sp, hlk, ofS_inj, h4, h4']
              refine Eq.trans (congrArg (fun z => endM _ (goF _ z _ _)) j5) ?_
              simp [lN, hds]
end
end PL
end

section
set_option Elab.async false
set_option linter.all false
set_option maxRecDepth 100000
set_option maxHeartbeats 2000000
/-! LI: while; a law's own look at parts. -/
namespace PL
open PySem PM
section
variable {c : PM.Ctx} {K : List It} {st : List Val} {e : PM.Env}
def tstF (c : PM.Ctx) (t : ME) (e : PM.Env) : Res Bool := (ev c t e).bind fun v e2 => opt ((see e2 v).bind truD) e2
def bodyW (c : PM.Ctx) (body : List MS) (e : PM.Env) : Res PM.Flow := exs c body e
@[simp] theorem go_while {t : ME} {body : List MS} : go c (.S (.while t body) :: K) st e = goF c (whileL (tstF c t) (bodyW c body) whileFuel e) K st := goF_eq _
theorem bodyW_go {body : List MS} : bodyW c body e = go c [.B body] [] e := exs_go
def tstR (r : Res PM.Flow) : Res Bool := match r with
  | .ok (.ret v) e => opt ((see e v).bind truD) e
  | .ex x e => .ex x e
  | _ => .no
@[simp] theorem tstR_ret {v : Val} {e1 : PM.Env} : tstR (.ok (.ret v) e1) = opt ((see e1 v).bind truD) e1 := (rfl)
theorem tstF_go {t : ME} : tstF c t e = tstR (go c [.E t, .stop] [] e) := by
  show _ = tstR ((ev c t e).bind fun v e => .ok (.ret v) e)
  unfold tstF
  cases ev c t e <;> rfl
theorem whileL_go {t : PM.Env → Res Bool} {f : PM.Env → Res PM.Flow} {n : Nat} {e1 e2 : PM.Env} (h : t e = .ok true e1) (h2 : f e1 = .ok .nx e2) : whileL t f (n + 1) e = whileL t f n e2 := by
  show (t e).bind _ = _
  rw [h]
  show (f e1).bind _ = _
  rw [h2]
  rfl
theorem whileL_end {t : PM.Env → Res Bool} {f : PM.Env → Res PM.Flow} {n : Nat} {e1 : PM.Env} (h : t e = .ok false e1) : whileL t f (n + 1) e = .ok .nx e1 := by
  show (t e).bind _ = _
  rw [h]
  rfl
theorem whileL_ret {t : PM.Env → Res Bool} {f : PM.Env → Res PM.Flow} {n : Nat} {e1 e2 : PM.Env} {v : Val} (h : t e = .ok true e1) (h2 : f e1 = .ok (.ret v) e2) : whileL t f (n + 1) e = .ok (.ret v) e2 := by
  show (t e).bind _ = _
  rw [h]
  show (f e1).bind _ = _
  rw [h2]
  rfl
end
@[simp] theorem isEmpty_filterMap_sign {ns : List Nat} {p : Nat → Prop} [DecidablePred p] {f : Nat → D} : (ns.filterMap fun n => if p n then none else some (f n)).isEmpty = ns.all fun n => decide (p n) := by
  induction ns with
  | nil => rfl
  | cons n r ih =>
    rw [List.filterMap_cons]
    by_cases h : p n <;> simp [h, ih]
theorem eqD_L1 (a b : Int) : eqD (.list [.int a]) (.list [.int b]) = some (decide (a = b)) := by
  unfold eqD
  rw [if_pos (by simp [okEq, PyData.canLay0, PyData.canLayAll0, PyData.depth, PyData.depthAll])]
  by_cases h : a = b <;> simp [PyData.eqv, PyData.eqvAll, h]
theorem eqD_L01 (ys : List D) : eqD (.list []) (.list ys) = some ys.isEmpty := by
  unfold eqD
  rw [if_pos (by simp [empD])]
  cases ys <;> rfl
def wantD : List D := [.tuple [.str "yes", .int 0], .tuple [.str "no", .int 0], .tuple [.str "not", .int 1], .tuple [.str "same", .int 2], .tuple [.str "pick", .int 3]]
def wantG (w : Str) : D → Option D
  | .tuple [.str a, n] => if a = w then some n else none
  | _ => none
theorem want_eq (w : Str) : wantD.filterMap (wantG w) = match kidN w with
    | some n => [PyData.int n]
    | none => [] := by
  simp only [wantD, wantG, List.filterMap_cons, List.filterMap_nil, kidN, eq_comm (b := w)]
  by_cases h1 : w = "yes"
  · subst h1; simp [ofS_inj]
  by_cases h2 : w = "no"
  · subst h2; simp [ofS_inj]
  by_cases h3 : w = "not"
  · subst h3; simp [ofS_inj]
  by_cases h4 : w = "same"
  · subst h4; simp [ofS_inj]
  by_cases h5 : w = "pick"
  · subst h5; simp [ofS_inj]
  simp [h1, h2, h3, h4, h5]
section
variable {G : Prog} {i n j : Nat}
theorem call_law_is_name (h : G.funs[i]? = some PT.fd__law_is_name) (k : Nat) (x : D) (hx : Fit x) : callM G (k + 1) i [Val.d x] = .ok (Val.d (.bool (isName x))) [Val.d x] := by
  rw [call_go h ⟨rfl, Nat.le_of_ble_eq_true rfl⟩]
  cases x with
  | str z =>
    have hz : z.length ≤ 16777216 := hx
    have L := doLc_fil (c := cxP G k [false]) (elt := .v 1) (t := .nm 1) (cs := [.cmp .NotIn (.v 1) (.c (.str (Str.ofString "abcdefghijklmnopqrstuvwxyz")))]) (own := [1]) (e1 := [some (Val.d (.str z)), none]) (ys := z.cps.toList) (h := fun n => .str ⟨#[n]⟩) (fun n => if decide (n ∈ LET.cps.toList) then none else some (.str ⟨#[n]⟩))
      (by simp) (by rw [lN]; simpa [Str.length] using hz) (fun n hn => by
        rw [lcStep1]
        by_cases q : n ∈ LET.cps.toList
        · have q' : decide (n ∈ LET.cps.toList) = true := by simpa using q
          simp [inD_sign, q', -Array.mem_toList_iff, q]
        · have q' : decide (n ∈ LET.cps.toList) = false := by simpa using q
          simp [inD_sign, q', -Array.mem_toList_iff, q])
    simp only [PT.fd__law_is_name, PT.mb__law_is_name]
    simp [hz, lN, signsD, -Array.mem_toList_iff]
    rw [L]
    simp [isName, -Array.mem_toList_iff]
    by_cases h1 : 1 ≤ z.length
    · by_cases h2 : z.length ≤ 6
      · have : ¬ (6 : Int) < z.length := by omega
        have : ¬ (z.length : Int) < 1 := by omega
        simp [*, -Array.mem_toList_iff, ← Array.all_toList]
      · have : (6 : Int) < z.length := by omega
        have : ¬ (z.length : Int) < 1 := by omega
        simp [*]
    · have : (z.length : Int) < 1 := by omega
      simp [*]
  | _ => simp [PT.fd__law_is_name, PT.mb__law_is_name, isName]
theorem call_law_kids (hn : G.funs[n]? = some PT.fd__law_is_name) (h : G.funs[i]? = some (PT.fd__law_kids_8d47 n)) (k : Nat) (x : D) (hx : Good x) : ∃ v, callM G (k + 2) i [Val.d x] = .ok v [Val.d x] ∧ (formed 6 x = true → LvV v (kidsD x)) ∧ (formed 6 x = false → v = Val.d .none) := by
  rw [call_go h ⟨rfl, Nat.le_of_ble_eq_true rfl⟩]
  have no : formed 6 x = false → endM [Val.d x] (go (cxP G (k + 1) ([Val.d x].map owned)) [.B (PT.fd__law_kids_8d47 n).mb] [] ([Val.d x].map some ++ List.replicate ((PT.fd__law_kids_8d47 n).n - (PT.fd__law_kids_8d47 n).np) none)) = .ok (Val.d .none) [Val.d x] →
      ∃ v, endM [Val.d x] (go (cxP G (k + 1) ([Val.d x].map owned)) [.B (PT.fd__law_kids_8d47 n).mb] [] ([Val.d x].map some ++ List.replicate ((PT.fd__law_kids_8d47 n).n - (PT.fd__law_kids_8d47 n).np) none)) = .ok v [Val.d x] ∧ (formed 6 x = true → LvV v (kidsD x)) ∧ (formed 6 x = false → v = Val.d .none) :=
    fun f e => ⟨_, e, fun z => (by rw [f] at z; cases z), fun _ => rfl⟩
  cases x with
  | tuple xs =>
    cases xs with
    | nil => exact no rfl (by simp [PT.fd__law_kids_8d47, PT.mb__law_kids_8d47])
    | cons y ks =>
      have hl := hx.len
      rw [List.length_cons] at hl
      cases y with
      | str w =>
        have hy := hx.mem (x := .str w) List.mem_cons_self
        obtain ⟨hw, _⟩ := hy.ok
        have hk0 : ¬ ((ks.length : Nat) : Int) + 1 < 1 := by omega
        by_cases h1 : w = "on"
        · subst h1
          match ks with
          | [] => exact no (by simp [formed, formedK]) (by simp [PT.fd__law_kids_8d47, PT.mb__law_kids_8d47, lN])
          | [x] =>
            have hX := hx.mem (x := x) (by simp)
            have N := call_law_is_name hn k x hX.fit
            cases q : isName x with
            | false => exact no (by simp [formed, formedK, q]) (by simp [PT.fd__law_kids_8d47, PT.mb__law_kids_8d47, lN, N, q])
            | true =>
              refine ⟨OL [], by simp [PT.fd__law_kids_8d47, PT.mb__law_kids_8d47, lN, N, q], fun _ => .inl ?_, fun z => ?_⟩
              · simp [kidsD, kidsK]
              · simp [formed, formedK, q] at z
          | x :: y :: r =>
            have e1 : ¬ (((r.length : Nat) : Int) + 1 + 1 = 1) := by omega
            have e2 : ¬ (((r.length : Nat) : Int) + 1 + 1 + 1 < 1) := by omega
            exact no (by simp [formed, formedK]) (by simp [PT.fd__law_kids_8d47, PT.mb__law_kids_8d47, lN, e1, e2])
        · have i2 := inD_two w "and" "or" hw (by decide +kernel) (by decide +kernel)
          by_cases h2 : w = "and" ∨ w = "or"
          · have e1 : (decide (w = "and") || decide (w = "or")) = true := by simpa using h2
            rw [e1] at i2
            by_cases q1 : 2 ≤ ks.length ∧ ks.length ≤ 6
            · have q2 : (2 : Int) ≤ (ks.length : Nat) := by omega
              have q3 : ((ks.length : Nat) : Int) ≤ 6 := by omega
              refine ⟨Val.d (.list ks), by simp [PT.fd__law_kids_8d47, PT.mb__law_kids_8d47, lN, h1, i2, hk0, q2, q3], fun _ => .inr ?_, fun z => ?_⟩
              · simp [kidsD, kidsK, h1]
              · simp [formed, formedK, h1, h2, q1.1, q1.2] at z
            · refine no ?_ ?_
              · simp only [formed, formedK, if_neg h1, if_pos h2, Bool.and_eq_false_iff, decide_eq_false_iff_not]
                omega
              · by_cases q2 : 2 ≤ ks.length
                · have q2' : (2 : Int) ≤ (ks.length : Nat) := by omega
                  have q3 : ¬ ((ks.length : Nat) : Int) ≤ 6 := by omega
                  simp [PT.fd__law_kids_8d47, PT.mb__law_kids_8d47, lN, h1, i2, hk0, q2', q3]
                · have q2' : ¬ (2 : Int) ≤ (ks.length : Nat) := by omega
                  simp [PT.fd__law_kids_8d47, PT.mb__law_kids_8d47, lN, h1, i2, hk0, q2']
          · have e1 : (decide (w = "and") || decide (w = "or")) = false := by
              rw [Bool.or_eq_false_iff, decide_eq_false_iff_not, decide_eq_false_iff_not]
              exact not_or.mp h2
            rw [e1] at i2
            have L := doLc_filD (c := cxP G (k + 1) [false]) (elt := .idx (.v 4) (.c (.int 1))) (t := .nm 4) (cs := [.cmp .Eq (.idx (.v 4) (.c (.int 0))) (.v 1)]) (own := [4]) (e1 := [some (Val.d (.tuple (.str w :: ks))), some (Val.d (.str w)), some (Val.d (.list ks)), none, none]) (xs := wantD) (wantG w)
              (by simp) (by rw [lN]; simp [wantD]) (fun y hy => by
                rw [lcStep1]
                simp only [wantD, List.mem_cons, List.not_mem_nil, or_false] at hy
                rcases hy with rfl | rfl | rfl | rfl | rfl
                · by_cases q : Str.ofString "yes" = w <;> simp [wantG, q]
                · by_cases q : Str.ofString "no" = w <;> simp [wantG, q]
                · by_cases q : Str.ofString "not" = w <;> simp [wantG, q]
                · by_cases q : Str.ofString "same" = w <;> simp [wantG, q]
                · by_cases q : Str.ofString "pick" = w <;> simp [wantG, q])
            rw [want_eq] at L
            have hK : formed 6 (.tuple (.str w :: ks)) = decide (kidN w = some ks.length) := by simp only [formed, formedK, if_neg h1, if_neg h2]
            rw [hK]
            cases q : kidN w with
            | none =>
              rw [q] at L
              refine ⟨Val.d .none, ?_, fun z => by simp at z, fun _ => rfl⟩
              simp [PT.fd__law_kids_8d47, PT.mb__law_kids_8d47, lN, h1, i2, hk0]
              rw [show [PyData.tuple [.str "yes", .int 0], .tuple [.str "no", .int 0], .tuple [.str "not", .int 1], .tuple [.str "same", .int 2], .tuple [.str "pick", .int 3]] = wantD from rfl, L]
              simp [lN, eqD_L01]
            | some v =>
              rw [q] at L
              by_cases q2 : v = ks.length
              · subst q2
                refine ⟨Val.d (.list ks), ?_, fun _ => .inr ?_, fun z => by simp at z⟩
                · simp [PT.fd__law_kids_8d47, PT.mb__law_kids_8d47, lN, h1, i2, hk0]
                  rw [show [PyData.tuple [.str "yes", .int 0], .tuple [.str "no", .int 0], .tuple [.str "not", .int 1], .tuple [.str "same", .int 2], .tuple [.str "pick", .int 3]] = wantD from rfl, L]
                  simp [lN, eqD_L1]
                · simp [kidsD, kidsK, h1]
              · have q3 : ¬ ((v : Int) = (ks.length : Nat)) := by omega
                refine ⟨Val.d .none, ?_, fun z => absurd (by simpa using z) q2, fun _ => rfl⟩
                simp [PT.fd__law_kids_8d47, PT.mb__law_kids_8d47, lN, h1, i2, hk0]
                rw [show [PyData.tuple [.str "yes", .int 0], .tuple [.str "no", .int 0], .tuple [.str "not", .int 1], .tuple [.str "same", .int 2], .tuple [.str "pick", .int 3]] = wantD from rfl, L]
                simp [lN, eqD_L1, q2, q3]
                try omega
      | _ =>
        have hk0 : ¬ ((ks.length : Nat) : Int) + 1 < 1 := by omega
        exact no rfl (by simp [PT.fd__law_kids_8d47, PT.mb__law_kids_8d47, hk0])
  | _ => exact no rfl (by simp [PT.fd__law_kids_8d47, PT.mb__law_kids_8d47])
end
end PL
end

section
set_option Elab.async false
set_option linter.all false
set_option maxRecDepth 100000
set_option maxHeartbeats 2000000
/-! LJ: parts counted, found, put anew; a saying bent. -/
namespace PL
open PySem PM
theorem fit_succ {wd q : Nat} {d : D} (f : fit wd (q + 1) d = true) : formed wd d = true ∧ ∀ x ∈ kidsD d, fit wd q x = true := by
  simp only [fit, Bool.and_eq_true, List.all_eq_true] at f
  exact f
theorem fit_formed {wd : Nat} : ∀ {q : Nat} {d : D}, fit wd q d = true → formed wd d = true
  | 0, _, f => by cases f
  | _ + 1, _, f => (fit_succ f).1
theorem sum_parts (q : Nat) : ∀ ks : List D, (ks.map fun x => ((parts q x).length : Int)).sum = ((ks.flatMap (parts q)).length : Nat)
  | [] => rfl
  | x :: r => by
    rw [List.map_cons, List.sum_cons, sum_parts q r, List.flatMap_cons, List.length_append]
    omega
section
variable {G : Prog} {i n j m : Nat} (hn : G.funs[n]? = some PT.fd__law_is_name) (hj : G.funs[j]? = some (PT.fd__law_kids_8d47 n))
include hn hj
theorem call_many (h : G.funs[i]? = some (PT.fd__law_many i j)) (k : Nat) : ∀ (q : Nat) (d : D), fit 6 q d = true → Good d → callM G (k + q + 2) i [Val.d d] = .ok (Val.d (.int (parts q d).length)) [Val.d d]
  | 0, d, f, _ => by cases f
  | q + 1, d, f, g => by
    rw [show k + (q + 1) + 2 = (k + q + 2) + 1 by omega, call_go h ⟨rfl, Nat.le_of_ble_eq_true rfl⟩]
    obtain ⟨f1, f2⟩ := fit_succ f
    obtain ⟨v, K1, K2, _⟩ := call_law_kids hn hj (k + q) d g
    have K2 := K2 f1
    have kg := kids_good g
    have L := doLc_mapD (c := cxP G (k + q + 2) [false]) (elt := .call i [.v 1]) (t := .nm 1) (cs := []) (own := [1]) (e1 := [some (Val.d d), none]) (xs := kidsD d) (fun x => .int (parts q x).length) (by simp) (by rw [lN]; have := kids_len f1; omega) (fun y hy => by
      rw [lcStep0]
      simp [call_many h k q y (f2 y hy) (kg y hy)])
    have S := sum_parts q (kidsD d)
    have e2 : (1 : Int) + ((((kidsD d).flatMap (parts q)).length : Nat) : Int) = ((parts (q + 1) d).length : Nat) := by
      rw [parts, List.length_cons]; omega
    rw [← S] at e2
    rcases K2 with rfl | rfl
    · simp [PT.fd__law_many, PT.mb__law_many, K1]
      rw [L]
      simp [e2]
    · simp [PT.fd__law_many, PT.mb__law_many, K1]
      rw [L]
      simp [e2]
theorem at_loop (hm : G.funs[m]? = some (PT.fd__law_many m j)) (k q : Nat) (hA : ∀ (d : D) (num : Nat), fit 6 q d = true → Good d → num < (parts q d).length → ∃ p, p ∈ parts q d ∧ callM G (k + q + 2) i [Val.d d, Val.d (.int num)] = .ok (Val.d p) [Val.d d, Val.d (.int num)]) (pr : List Bool) (hp : pr = [false, false]) (e0 e1 : Option Val) : ∀ (ks : List D) (num : Nat) (o3 o4 : Option Val), (∀ x ∈ ks, fit 6 q x = true ∧ Good x) → num < (ks.flatMap (parts q)).length →
    ∃ (p : D) (e' : Int × D × Int), p ∈ ks.flatMap (parts q) ∧ forL (loopF (cxP G (k + q + 2) pr) (.nm 3) [
    .set (.nm 4) (.call m [(.v 3)]),
    .ite (.cmp .Lt (.v 2) (.v 4)) [
      .ret (.call i [(.v 3), (.v 2)])] [],
    .set (.nm 2) (.bin .Sub (.v 2) (.v 4))]) ks [e0, e1, some (Val.d (.int num)), o3, o4] = .ok (.ret (Val.d p)) [e0, e1, some (Val.d (.int e'.1)), some (Val.d e'.2.1), some (Val.d (.int e'.2.2))]
  | [], num, _, _, _, hl => absurd hl (by simp)
  | x :: ks, num, o3, o4, hk, hl => by
    subst hp
    obtain ⟨f, g⟩ := hk x List.mem_cons_self
    have M := call_many hn hj hm k q x f g
    rw [List.flatMap_cons, List.length_append] at hl
    by_cases c1 : num < (parts q x).length
    · have c1' : (num : Int) < ((parts q x).length : Nat) := by omega
      obtain ⟨p, hp, A⟩ := hA x num f g c1
      refine ⟨p, ((num : Int), x, ((parts q x).length : Int)), List.mem_append_left _ hp, forL_ret ?_⟩
      rw [loopF_go]
      simp [M, c1, c1', A]
    · have c1' : ¬ (num : Int) < ((parts q x).length : Nat) := by omega
      obtain ⟨r, hr⟩ : ∃ r : Nat, (num : Int) - ((parts q x).length : Nat) = (r : Int) := ⟨num - (parts q x).length, by omega⟩
      obtain ⟨p, e', hp, B⟩ := at_loop hm k q hA [false, false] rfl e0 e1 ks r (some (Val.d x)) (some (Val.d (.int (parts q x).length))) (fun y m => hk y (List.mem_cons_of_mem _ m)) (by omega)
      refine ⟨p, e', List.mem_append_right _ hp, ?_⟩
      rw [forL_nx (e1 := [e0, e1, some (Val.d (.int r)), some (Val.d x), some (Val.d (.int (parts q x).length))])]
      · exact B
      · rw [loopF_go]
        simp [M, c1, c1', hr]
theorem call_at (hm : G.funs[m]? = some (PT.fd__law_many m j)) (h : G.funs[i]? = some (PT.fd__law_at j m i)) (k : Nat) : ∀ (q : Nat) (d : D) (num : Nat), fit 6 q d = true → Good d → num < (parts q d).length → ∃ p, p ∈ parts q d ∧ callM G (k + q + 2) i [Val.d d, Val.d (.int num)] = .ok (Val.d p) [Val.d d, Val.d (.int num)]
  | 0, d, _, f, _, _ => by cases f
  | q + 1, d, 0, f, g, hl => by
    refine ⟨d, by simp [parts], ?_⟩
    rw [show k + (q + 1) + 2 = (k + q + 2) + 1 by omega, call_go h ⟨rfl, Nat.le_of_ble_eq_true rfl⟩]
    simp [PT.fd__law_at, PT.mb__law_at]
  | q + 1, d, num + 1, f, g, hl => by
    rw [show k + (q + 1) + 2 = (k + q + 2) + 1 by omega, call_go h ⟨rfl, Nat.le_of_ble_eq_true rfl⟩]
    obtain ⟨f1, f2⟩ := fit_succ f
    obtain ⟨v, K1, K2, _⟩ := call_law_kids hn hj (k + q) d g
    have K2 := K2 f1
    have kg := kids_good g
    rw [parts, List.length_cons] at hl
    obtain ⟨p, e', hp, B⟩ := at_loop hn hj hm k q (fun d num => call_at hm h k q d num) [false, false] rfl (some (Val.d d)) (some (Val.d (.int ((num : Int) + 1)))) (kidsD d) num none none (fun x hx => ⟨f2 x hx, kg x hx⟩) (by omega)
    have e0 : ¬ (num : Int) + 1 = 0 := by omega
    have e2 : (num : Int) + 1 - 1 = num := by omega
    refine ⟨p, by rw [parts]; exact List.mem_cons_of_mem _ hp, ?_⟩
    rcases K2 with rfl | rfl
    · simp [PT.fd__law_at, PT.mb__law_at, K1, e0, e2]
      rw [B]
      simp
    · simp [PT.fd__law_at, PT.mb__law_at, K1, e0, e2]
      rw [B]
      simp
end
end PL
end

section
set_option Elab.async false
set_option linter.all false
set_option maxRecDepth 100000
set_option maxHeartbeats 2000000
/-! LK: a part put anew; a saying bent. -/
namespace PL
open PySem PM
theorem repD_mem {α : Type} {xs : List α} {k : Int} {x : α} (h : x ∈ repD xs k) : x ∈ xs := by
  unfold repD at h
  obtain ⟨l, hl, hx⟩ := List.mem_flatten.mp h
  rw [(List.mem_replicate.mp hl).2] at hx
  exact hx
theorem repD_len {α : Type} (xs : List α) (k : Int) : (repD xs k).length = k.toNat * xs.length := by
  unfold repD
  simp
section
variable {G : Prog} {i n j m : Nat} (hn : G.funs[n]? = some PT.fd__law_is_name) (hj : G.funs[j]? = some (PT.fd__law_kids_8d47 n))
include hn hj
def withB (m i : Nat) : List MS := [
    .set (.nm 6) (.ite (.isi (.v 5) [.bt "tuple"]) (.call m [(.v 5)]) (.c (.int 0))),
    .ite (.chain .LtE .Lt (.c (.int 0)) (.v 3) (.v 6)) [
      .expr (.mu .append 4 [(.call i [(.v 5), (.v 3), (.v 2)])])] [
      .expr (.mu .append 4 [(.v 5)])],
    .set (.nm 3) (.bin .Sub (.v 3) (.v 6))]
theorem with_loop (hm : G.funs[m]? = some (PT.fd__law_many m j)) (k q : Nat) (hA : ∀ (d : D) (num : Int) (o : D), fit 6 q d = true → Good d → Good o → 0 ≤ num → ∃ p, Good p ∧ callM G (k + q + 2) i [Val.d d, Val.d (.int num), Val.d o] = .ok (Val.d p) [Val.d d, Val.d (.int num), Val.d o]) (e0 e1 : Option Val) (o : D) (go : Good o) : ∀ (ks : List D) (num : Int) (acc : List D) (o5 o6 : Option Val), (∀ x ∈ ks, (fit 6 q x = true ∨ ∃ z, x = .str z) ∧ Good x) → (∀ x ∈ acc, Good x) → acc.length + ks.length ≤ 1000 →
    ∃ (acc' : List D) (num' : Int) (o5' o6' : Option Val), (∀ x ∈ acc', Good x) ∧ acc'.length = acc.length + ks.length ∧ forL (loopF (cxP G (k + q + 2) [false, false, false]) (.nm 5) (withB m i)) ks [e0, e1, some (Val.d o), some (Val.d (.int num)), some (OL acc), o5, o6] = .ok .nx [e0, e1, some (Val.d o), some (Val.d (.int num')), some (OL acc'), o5', o6']
  | [], num, acc, o5, o6, _, ha, _ => ⟨acc, num, o5, o6, ha, rfl, rfl⟩
  | x :: ks, num, acc, o5, o6, hk, ha, hl => by
    obtain ⟨f, g⟩ := hk x List.mem_cons_self
    rw [List.length_cons] at hl
    have hl7 : acc.length < 16777216 := by omega
    have nxt : ∀ (y : D) (num2 : Int) (v6 : Option Val), Good y → loopF (cxP G (k + q + 2) [false, false, false]) (.nm 5) (withB m i) x [e0, e1, some (Val.d o), some (Val.d (.int num)), some (OL acc), o5, o6] = .ok .nx [e0, e1, some (Val.d o), some (Val.d (.int num2)), some (OL (acc ++ [y])), some (Val.d x), v6] →
        ∃ (acc' : List D) (num' : Int) (o5' o6' : Option Val), (∀ x ∈ acc', Good x) ∧ acc'.length = acc.length + (x :: ks).length ∧ forL (loopF (cxP G (k + q + 2) [false, false, false]) (.nm 5) (withB m i)) (x :: ks) [e0, e1, some (Val.d o), some (Val.d (.int num)), some (OL acc), o5, o6] = .ok .nx [e0, e1, some (Val.d o), some (Val.d (.int num')), some (OL acc'), o5', o6'] := fun y num2 v6 gy hy => by
      obtain ⟨acc', num', o5', o6', h1, h2, h3⟩ := with_loop hm k q hA e0 e1 o go ks num2 (acc ++ [y]) (some (Val.d x)) v6 (fun y m => hk y (List.mem_cons_of_mem _ m)) (fun z hz => (List.mem_append.mp hz).elim (ha z) fun w => by rw [List.mem_singleton.mp w]; exact gy) (by simp; omega)
      refine ⟨acc', num', o5', o6', h1, by rw [h2]; simp; omega, ?_⟩
      rw [forL_nx hy]
      exact h3
    rcases f with f | ⟨z, rfl⟩
    · obtain ⟨w, r, rfl, _⟩ := formed_cases (fit_formed f)
      have M := call_many hn hj hm k q _ f g
      obtain ⟨sz, hsz⟩ : ∃ sz : Int, sz = ((parts q (PyData.tuple (.str w :: r))).length : Nat) := ⟨_, rfl⟩
      rw [← hsz] at M
      by_cases c1 : 0 ≤ num
      · obtain ⟨p, gp, A⟩ := hA _ num o f g go c1
        by_cases c2 : num < sz
        · refine nxt p (num - sz) (some (Val.d (.int sz))) gp ?_
          rw [loopF_go]
          simp [withB, M, c1, c2, A, lN, hl7]
        · refine nxt _ (num - sz) (some (Val.d (.int sz))) g ?_
          rw [loopF_go]
          simp [withB, M, c1, c2, lN, hl7]
      · refine nxt _ (num - sz) (some (Val.d (.int sz))) g ?_
        rw [loopF_go]
        simp [withB, M, c1, lN, hl7]
    · by_cases c1 : 0 ≤ num
      · have c2 : ¬ num < 0 := by omega
        refine nxt _ (num - 0) (some (Val.d (.int 0))) g ?_
        rw [loopF_go]
        simp [withB, c1, c2, lN, hl7]
      · refine nxt _ (num - 0) (some (Val.d (.int 0))) g ?_
        rw [loopF_go]
        simp [withB, c1, lN, hl7]
theorem call_with (hm : G.funs[m]? = some (PT.fd__law_many m j)) (h : G.funs[i]? = some (PT.fd__law_with m i)) (k : Nat) : ∀ (q : Nat) (d : D) (num : Int) (o : D), fit 6 q d = true → Good d → Good o → 0 ≤ num → ∃ p, Good p ∧ callM G (k + q + 2) i [Val.d d, Val.d (.int num), Val.d o] = .ok (Val.d p) [Val.d d, Val.d (.int num), Val.d o]
  | 0, d, _, _, f, _, _, _ => by cases f
  | q + 1, d, num, o, f, g, go, h0 => by
    rw [show k + (q + 1) + 2 = (k + q + 2) + 1 by omega, call_go h ⟨rfl, Nat.le_of_ble_eq_true rfl⟩]
    by_cases c0 : num = 0
    · refine ⟨o, go, ?_⟩
      simp [PT.fd__law_with, PT.mb__law_with, c0]
    · obtain ⟨f1, f2⟩ := fit_succ f
      obtain ⟨w, ks, rfl, hk⟩ := formed_cases f1
      have gw := g.mem (x := .str w) List.mem_cons_self
      have hkl := formedK_len hk
      obtain ⟨acc', num', o5', o6', h1, h2, h3⟩ := with_loop hn hj hm k q (fun d num o => call_with hm h k q d num o) (some (Val.d (.tuple (.str w :: ks)))) (some (Val.d (.int num))) o go ks (num - 1) [.str w] none none (fun x hx => ⟨by
        by_cases hw : w = "on"
        · obtain ⟨z, rfl, _⟩ := formed_on hk hw
          exact .inr ⟨z, List.mem_singleton.mp hx⟩
        · exact .inl (f2 x (by simp only [kidsD, kidsK, if_neg hw]; exact hx)), g.mem (List.mem_cons_of_mem _ hx)⟩) (fun x hx => by rw [List.mem_singleton.mp hx]; exact gw) (by simp; omega)
      refine ⟨.tuple acc', .tuple (by rw [h2]; simp; omega) h1, ?_⟩
      simp [PT.fd__law_with, PT.mb__law_with, c0, lN]
      refine Eq.trans (congrArg (fun z => endM _ (goF _ z _ _)) h3) ?_
      simp
end
end PL
end

section
set_option Elab.async false
set_option linter.all false
set_option maxRecDepth 100000
set_option maxHeartbeats 2000000
/-! LL: a saying bent. -/
namespace PL
open PySem PM
def wordsK : List String := ["on", "and", "or", "yes", "no", "not", "same", "pick"]
theorem word_of {wd : Nat} {w : Str} {ks : List D} (h : formedK wd w ks = true) : ∃ s ∈ wordsK, w = Str.ofString s := by
  unfold formedK at h
  split at h
  · exact ⟨"on", by simp [wordsK], by assumption⟩
  · split at h
    · rename_i h2
      rcases h2 with h2 | h2
      · exact ⟨"and", by simp [wordsK], h2⟩
      · exact ⟨"or", by simp [wordsK], h2⟩
    · have h := of_decide_eq_true h
      unfold kidN at h
      split at h
      · exact ⟨"yes", by simp [wordsK], by assumption⟩
      split at h
      · exact ⟨"no", by simp [wordsK], by assumption⟩
      split at h
      · exact ⟨"not", by simp [wordsK], by assumption⟩
      split at h
      · exact ⟨"same", by simp [wordsK], by assumption⟩
      split at h
      · exact ⟨"pick", by simp [wordsK], by assumption⟩
      cases h
theorem good_upper {wd : Nat} {w : Str} {ks : List D} (h : formedK wd w ks = true) : Good (.str (Txt.upper w)) ∧ w.length ≤ 5592405 := by
  have : ∀ s ∈ wordsK, (PyData.strOk (Txt.upper (Str.ofString s)) && decide ((Txt.upper (Str.ofString s)).length ≤ 1000000) && decide ((Str.ofString s).length ≤ 5592405)) = true := by decide +kernel
  obtain ⟨s, hs, rfl⟩ := word_of h
  have := this s hs
  simp only [Bool.and_eq_true, decide_eq_true_eq] at this
  exact ⟨.str this.1.1 this.1.2, this.2⟩
theorem atI_of {xs : List D} {r n : Nat} (hl : xs.length = n) (h : r < n) (g : ∀ x ∈ xs, Good x) : ∃ x, L2.atI xs (r : Int) = some x ∧ Good x := by
  refine ⟨xs[r], ?_, g _ (List.getElem_mem (by omega))⟩
  unfold L2.atI L2.ixN
  rw [if_pos (by omega), if_pos (by omega)]
  simp [hl, h]
theorem good_t1 {a : D} (h : Good a) : Good (.tuple [a]) := .tuple (by simp) (by simpa using h)
theorem good_t2 {a b : D} (h : Good a) (h2 : Good b) : Good (.tuple [a, b]) := .tuple (by simp) (by simp [h, h2])
theorem good_t3 {a b c : D} (h : Good a) (h2 : Good b) (h3 : Good c) : Good (.tuple [a, b, c]) := .tuple (by simp) (by simp [h, h2, h3])
theorem good_tc {a : D} {r : List D} (h : Good a) (h2 : ∀ x ∈ r, Good x) (hl : r.length ≤ 9999) : Good (.tuple (a :: r)) := .tuple (by rw [List.length_cons]; omega) fun x hx => by
  rcases List.mem_cons.mp hx with rfl | hx
  · exact h
  · exact h2 x hx
theorem rep_ok {a : D} (h : Good a) (k : Nat) (hk : k ≤ 5000) : (∀ x ∈ repD [a] (k : Int), Good x) ∧ (repD [a] (k : Int)).length ≤ 9999 := ⟨fun x hx => by rw [List.mem_singleton.mp (repD_mem hx)]; exact h, by rw [repD_len]; simp; omega⟩
theorem good_rep {a b : D} (h : Good a) (hb : Good b) (k : Nat) (hk : k ≤ 5000) : Good (.tuple (b :: repD [a] (k : Int))) := good_tc hb (rep_ok h k hk).1 (rep_ok h k hk).2
def menuD (w : Str) (ks : List D) (kid : D) : List D := [.tuple (.str w :: (ks ++ [kid])), .tuple (cut (.str w :: ks) none (some (-1))), .list (.str w :: ks), .tuple [.str w, .list ks], .none, .str "yes", .tuple [.str "maybe"],
  .tuple [.str "on", .str "aB"], .tuple [], .tuple [.str "on"], .tuple [.str "on", kid], .tuple [.str "not", kid, kid], .tuple [.str "yes", kid], .tuple [.str "and", kid],
  .tuple [.str "same", kid], .tuple [.str "pick", kid, kid], .tuple (.str "or" :: repD [kid] 7), .tuple [kid], .tuple (.bool true :: ks),
  .tuple (.str (Txt.upper w) :: ks), .tuple [.str "no", .tuple [.str "no"]],
  .tuple (.str "and" :: repD [kid] 6), .tuple [.str "pick", kid, kid, kid], .tuple [.str "not", kid], .tuple [.str "on", .str "abcdefg"], .int 5, .dict [], .list [kid]]
theorem menu_good {wd : Nat} {w : Str} {ks : List D} {kid : D} (h : formedK wd w ks = true) (hwd : wd ≤ 1000) (g : Good (.tuple (.str w :: ks))) (gk : Good kid) : ∀ x ∈ menuD w ks kid, Good x := by
  have gw := g.mem (x := .str w) List.mem_cons_self
  have gs : ∀ x ∈ ks, Good x := fun x hx => g.mem (List.mem_cons_of_mem _ hx)
  have hl := formedK_len h
  have gu := (good_upper h).1
  have g6 := fun s h => good_rep gk (b := .str (Str.ofString s)) (good_str s h) 6 (by omega)
  have g7 := fun s h => good_rep gk (b := .str (Str.ofString s)) (good_str s h) 7 (by omega)
  have gcut : Good (.tuple (cut (.str w :: ks) none (some (-1)))) := by
    have hm : ∀ x ∈ cut (.str w :: ks) none (some (-1)), x ∈ PyData.str w :: ks := fun x hx => List.mem_of_mem_drop (List.mem_of_mem_take hx)
    refine .tuple ?_ fun x hx => g.mem (hm x hx)
    unfold cut
    rw [List.length_take, List.length_drop, List.length_cons]
    omega
  simp only [menuD, List.forall_mem_cons, List.not_mem_nil, false_implies, implies_true, and_true]
  refine ⟨good_tc gw (fun x hx => (List.mem_append.mp hx).elim (gs x) fun z => by rw [List.mem_singleton.mp z]; exact gk) (by simp; omega), gcut, .list (by rw [List.length_cons]; omega) (by simpa using ⟨gw, gs⟩), good_t2 gw (.list (by omega) gs), .non, good_str _ (by decide +kernel), good_t1 (good_str _ (by decide +kernel)),
    good_t2 (good_str _ (by decide +kernel)) (good_str _ (by decide +kernel)), .tuple (by simp) (by simp), good_t1 (good_str _ (by decide +kernel)), good_t2 (good_str _ (by decide +kernel)) gk, good_t3 (good_str _ (by decide +kernel)) gk gk, good_t2 (good_str _ (by decide +kernel)) gk, good_t2 (good_str _ (by decide +kernel)) gk,
    good_t2 (good_str _ (by decide +kernel)) gk, good_t3 (good_str _ (by decide +kernel)) gk gk, g7 "or" (by decide +kernel), good_t1 gk, good_tc (.bool _) gs (by omega),
    good_tc gu gs (by omega), good_t2 (good_str _ (by decide +kernel)) (good_t1 (good_str _ (by decide +kernel))),
    g6 "and" (by decide +kernel), good_tc (good_str _ (by decide +kernel)) (by simp [gk]) (by simp), good_t2 (good_str _ (by decide +kernel)) gk, good_t2 (good_str _ (by decide +kernel)) (good_str _ (by decide +kernel)), .int _, .dict _, .list (by simp) (by simpa using gk)⟩
@[simp] theorem up_S {z : Str} : mtD .upper (.str z) [] = if z.length ≤ 5592405 then some (Val.d (.str (Txt.upper z))) else none := (rfl)
section
variable {G : Prog} {i m t f : Nat} (hm : G.funs[m]? = some PT.fd__law_mixed) (ht : G.funs[t]? = some (PT.fd__law_take m))
include hm ht
theorem call_bent (h : G.funs[i]? = some (PT.fd__law_bent t)) (k : Nat) (b : Bool) (n c s : Int) (d kid : D) (hf : formed 6 d = true) (g : Good d) (gk : Good kid) (h0 : 0 ≤ c) (h1 : c < 1000000000000000000) :
    ∃ (n' : Int) (x : D), Good x ∧ callM G (k + 3) i [st b n c s, Val.d d, Val.d kid] = .ok (Val.d x) [st b n' (c + 1) s, Val.d d, Val.d kid] := by
  rw [call_go h ⟨rfl, Nat.le_of_ble_eq_true rfl⟩]
  obtain ⟨w, ks, rfl, hk⟩ := formed_cases hf
  obtain ⟨n1, r, r1, T⟩ := call_take ht hm k b n c s 28 h0 (by omega) (by omega) (by omega)
  obtain ⟨x, hx, gx⟩ := atI_of (xs := menuD w ks kid) (r := r) (n := 28) (by simp [menuD]) (by omega) (menu_good hk (by omega) g gk)
  simp only [menuD] at hx
  have hu := (good_upper hk).2
  have hl := formedK_len hk
  have a1 : ks.length + 1 + 1 ≤ 16777216 := by omega
  have a2 : 1 + ks.length ≤ 16777216 := by omega
  have a3 : ∀ j : Int, 0 ≤ j → j ≤ 7 → 1 + (repD [kid] j).length ≤ 16777216 := fun j _ _ => by rw [repD_len]; simp; omega
  refine ⟨n1, x, gx, ?_⟩
  have e0 : PyData.dict (keysD (mergeD [] [])) = .dict [] := rfl
  simp [PT.fd__law_bent, PT.mb__law_bent, lN, T, e0, twosK, hx, hu, a1, a2, a3]
end
end PL
end

section
set_option Elab.async false
set_option linter.all false
set_option maxRecDepth 100000
set_option maxHeartbeats 2000000
/-! LM: a law's own look at a saying, breadth first. -/
namespace PL
open PySem PM
theorem canLayAll_S : ∀ zs : List Str, (∀ z ∈ zs, PyData.strOk z = true) → PyData.canLayAll0 (zs.map PyData.str) = true
  | [], _ => by simp [PyData.canLayAll0]
  | z :: r, h => by
    rw [List.map_cons]
    simp [PyData.canLayAll0, PyData.canLay0, h z List.mem_cons_self, canLayAll_S r fun y m => h y (List.mem_cons_of_mem _ m)]
theorem any_str (z : Str) (zs : List Str) : ((zs.map PyData.str).any fun y => PyData.eqv y (.str z)) = decide (z ∈ zs) := by
  induction zs with
  | nil => rfl
  | cons y r ih =>
    rw [List.map_cons, List.any_cons, ih]
    by_cases q : y = z
    · subst q; simp [PyData.eqv]
    · have q2 : ¬ z = y := fun e => q e.symm
      simp [PyData.eqv, q, q2]
theorem inD_strs {z : Str} {zs : List Str} (hz : PyData.strOk z = true) (h : ∀ z ∈ zs, PyData.strOk z = true) : inD (.str z) (.list (zs.map PyData.str)) = some (decide (z ∈ zs)) := by
  have e : okEq (.str z) (.list (zs.map PyData.str)) = true := by
    unfold okEq
    simp [PyData.canLay0, PyData.depth, hz, canLayAll_S zs h]
  simp only [inD, e, if_true, any_str]
def addO (zs : List Str) : Option Str → List Str
  | some z => addS zs z
  | none => zs
def bfs : Nat → List (D × Nat) → Nat → List Str → Option (List Str)
  | 0, _, _, _ => none
  | _ + 1, [], _, zs => some zs
  | f + 1, (p, d) :: r, n, zs => if formed 6 p = false ∨ 8 < d ∨ 40 < n then none
      else bfs f (r ++ (kidsD p).map fun x => (x, d + 1)) (n + (kidsD p).length) (addO zs (onName p))
def ppl (p : D × Nat) : List D := parts (9 - p.2) p.1
def pfit (p : D × Nat) : Bool := fit 6 (9 - p.2) p.1
theorem flat_map {α : Type} (ks : List D) (d : Nat) (f : D × Nat → List α) : (ks.map fun x => (x, d)).flatMap f = ks.flatMap fun x => f (x, d) := by
  induction ks with
  | nil => rfl
  | cons x r ih => rw [List.map_cons, List.flatMap_cons, List.flatMap_cons, ih]
theorem pfit_len {p : D × Nat} (h : pfit p = true) : 1 ≤ (ppl p).length := by
  unfold pfit at h
  unfold ppl
  cases e : 9 - p.2 with
  | zero => rw [e] at h; cases h
  | succ q => rw [parts]; simp
theorem flat_ge : ∀ {r : List (D × Nat)}, r.all pfit = true → r.length ≤ (r.flatMap ppl).length
  | [], _ => by simp
  | x :: r, h => by
    simp only [List.all_cons, Bool.and_eq_true] at h
    have := pfit_len h.1
    have := flat_ge h.2
    rw [List.flatMap_cons, List.length_append, List.length_cons]
    omega
/-- what the look comes to -/
theorem bfs_ok : ∀ (f i : Nat) (r : List (D × Nat)) (zs : List Str), 41 ≤ f + i → i ≤ 40 → (r ≠ [] ∨ i + r.length ≤ 40) → zs.Nodup →
    (r.all pfit = true ∧ i + (r.flatMap ppl).length ≤ 40 → ∃ zs', bfs f r (i + r.length) zs = some zs' ∧ zs'.Nodup ∧ ∀ z, z ∈ zs' ↔ z ∈ zs ∨ z ∈ namesOf (r.flatMap ppl)) ∧
    (¬ (r.all pfit = true ∧ i + (r.flatMap ppl).length ≤ 40) → bfs f r (i + r.length) zs = none)
  | 0, i, r, zs, h1, h2, _, _ => by omega
  | f + 1, i, [], zs, h1, h2, h3, nd => by
    refine ⟨fun _ => ⟨zs, rfl, nd, fun z => by simp [namesOf]⟩, fun h => absurd ⟨rfl, by simpa using h2⟩ h⟩
  | f + 1, i, (p, d) :: r, zs, h1, h2, h3, nd => by
    unfold bfs
    by_cases c1 : formed 6 p = false ∨ 8 < d ∨ 40 < i + ((p, d) :: r).length
    · rw [if_pos c1]
      refine ⟨fun ⟨a, b⟩ => ?_, fun _ => rfl⟩
      exfalso
      have hl := flat_ge a
      simp only [List.all_cons, Bool.and_eq_true] at a
      rcases c1 with c1 | c1 | c1
      · have := fit_formed a.1
        rw [c1] at this
        cases this
      · have := a.1
        unfold pfit at this
        rw [show 9 - (p, d).2 = 0 by show 9 - d = 0; omega] at this
        cases this
      · omega
    · rw [if_neg c1]
      obtain ⟨c1, c2⟩ := not_or.mp c1
      obtain ⟨c2, c3⟩ := not_or.mp c2
      rw [List.length_cons] at c3 ⊢
      have c1 : formed 6 p = true := by simpa using c1
      obtain ⟨q, hq⟩ : ∃ q, 9 - d = q + 1 ∧ 9 - (d + 1) = q := ⟨8 - d, by omega, by omega⟩
      have nd2 : (addO zs (onName p)).Nodup := by
        cases onName p with
        | none => exact nd
        | some z => exact nd_foldS (ys := [z]) nd
      obtain ⟨A, B⟩ := bfs_ok f (i + 1) (r ++ (kidsD p).map fun x => (x, d + 1)) (addO zs (onName p)) (by omega) (by omega) (by
        cases r with
        | nil => by_cases hk : kidsD p = []
                 · right; rw [hk]; simp at c3 ⊢; omega
                 · left; simpa using hk
        | cons _ _ => left; simp) nd2
      have e1 : i + 1 + (r ++ (kidsD p).map fun x => (x, d + 1)).length = i + (r.length + 1) + (kidsD p).length := by
        rw [List.length_append, List.length_map]; omega
      have p1 : ppl (p, d) = p :: (kidsD p).flatMap (parts q) := by
        unfold ppl
        show parts (9 - d) p = _
        rw [hq.1, parts]
      have p2 : ((kidsD p).map fun x => (x, d + 1)).flatMap ppl = (kidsD p).flatMap (parts q) := by
        rw [flat_map]
        unfold ppl
        show (kidsD p).flatMap (fun x => parts (9 - (d + 1)) x) = _
        rw [hq.2]
      have e2 : (r ++ (kidsD p).map fun x => (x, d + 1)).all pfit = (((p, d) :: r).all pfit) := by
        rw [List.all_append, List.all_cons]
        have : pfit (p, d) = ((kidsD p).map fun x => (x, d + 1)).all pfit := by
          unfold pfit
          show fit 6 (9 - d) p = _
          rw [hq.1, fit, c1, Bool.true_and, List.all_map]
          show _ = (kidsD p).all fun x => fit 6 (9 - (d + 1)) x
          rw [hq.2]
        rw [this, Bool.and_comm]
      have e3 : i + 1 + ((r ++ (kidsD p).map fun x => (x, d + 1)).flatMap ppl).length = i + (((p, d) :: r).flatMap ppl).length := by
        rw [List.flatMap_append, List.length_append, p2, List.flatMap_cons, List.length_append, p1, List.length_cons]
        omega
      rw [e1, e2, e3] at A
      rw [e1, e2, e3] at B
      refine ⟨fun h => ?_, B⟩
      obtain ⟨zs', h1, h2, h3⟩ := A h
      refine ⟨zs', h1, h2, fun z => ?_⟩
      rw [h3 z]
      simp only [mem_names, List.flatMap_append, p2, List.flatMap_cons, p1, List.mem_append, List.mem_cons]
      have hO : z ∈ addO zs (onName p) ↔ z ∈ zs ∨ onName p = some z := by
        cases onName p with
        | none => simp [addO]
        | some y =>
          show z ∈ addS zs y ↔ _
          rw [mem_addS]
          constructor
          · rintro (h | rfl)
            · exact .inl h
            · exact .inr rfl
          · rintro (h | h)
            · exact .inl h
            · injection h with h; exact .inr h.symm
      rw [hO]
      constructor
      · rintro ((a | a) | ⟨x, hx | hx, a⟩)
        · exact .inl a
        · exact .inr ⟨p, .inl (.inl rfl), a⟩
        · exact .inr ⟨x, .inr hx, a⟩
        · exact .inr ⟨x, .inl (.inr hx), a⟩
      · rintro (a | ⟨x, (rfl | hx) | hx, a⟩)
        · exact .inl (.inl a)
        · exact .inl (.inr a)
        · exact .inr ⟨x, .inr hx, a⟩
        · exact .inr ⟨x, .inl hx, a⟩
theorem bfs_said (x : D) : (match bfs 41 [(x, 1)] 1 [] with
    | some zs => decide (zs.length ≤ 8)
    | none => false) = isSaid 6 x := by
  obtain ⟨A, B⟩ := bfs_ok 41 0 [(x, 1)] [] (by omega) (by omega) (.inl (by simp)) List.nodup_nil
  have e1 : [(x, 1)].all pfit = fit 6 8 x := by simp [pfit]
  have e2 : [(x, 1)].flatMap ppl = parts 8 x := by simp [ppl]
  rw [e1, e2] at A
  rw [e1, e2] at B
  rw [Nat.zero_add] at A B
  rw [show 0 + [(x, 1)].length = 1 from rfl] at A B
  unfold isSaid
  by_cases h : fit 6 8 x = true ∧ (parts 8 x).length ≤ 40
  · obtain ⟨zs', h1, h2, h3⟩ := A h
    rw [h1, h.1, decide_eq_true h.2]
    have : zs'.length = (dedS (namesOf (parts 8 x))).length := len_of_mem h2 (nd_foldS List.nodup_nil) fun z => by
      rw [h3 z]
      unfold dedS
      rw [mem_foldS]
    simp [this]
  · rw [B h]
    have h := Decidable.not_and_iff_or_not.mp h
    rcases h with h | h
    · have : fit 6 8 x = false := by simpa using h
      simp [this]
    · simp [h]
end PL
end

section
set_option Elab.async false
set_option linter.all false
set_option maxRecDepth 100000
set_option maxHeartbeats 2000000
/-! LN: the law's own look, walked. -/
namespace PL
open PySem PM
def nonPk : Option Val → Option Bool
  | some (.ol _) => some false
  | some (.od _) => some false
  | _ => none
theorem nonV_pk2 {e : PM.Env} {k : Nat} : nonV e (.pk k) = nonPk (getS e k) := rfl
@[simp] theorem nonPk_OL {ds : List D} : nonPk (some (OL ds)) = some false := (rfl)
@[simp] theorem nonPk_OD {ds : List (Key × D)} : nonPk (some (OD ds)) = some false := (rfl)
def qD (p : D × Nat) : D := .tuple [p.1, .int p.2]
def lookT : ME := .cmp .Lt (.v 2) (.bi .len [(.v 1)])
def lookB (c0 : Nat) : List MS := [
    .set (.tup [(.nm 4), (.nm 5)]) (.idx (.v 1) (.v 2)),
    .set (.nm 6) (.call c0 [(.v 4)]),
    .ite (.or (.isN false (.v 6)) (.or (.cmp .Gt (.v 5) (.c (.int 8))) (.cmp .Gt (.bi .len [(.v 1)]) (.c (.int 40))))) [
      .ret (.c (.bool false))] [],
    .ite (.and (.cmp .Eq (.idx (.v 4) (.c (.int 0))) (.c (.str "on"))) (.cmp .NotIn (.idx (.v 4) (.c (.int 1))) (.v 3))) [
      .expr (.mu .append 3 [(.idx (.v 4) (.c (.int 1)))])] [],
    .set (.nm 1) (.bin .Add (.v 1) (.lc (.tup [(.v 7), (.bin .Add (.v 5) (.c (.int 1)))]) (.nm 7) (.seq (.v 6)) [] [7])),
    .set (.nm 2) (.bin .Add (.v 2) (.c (.int 1)))]
section
variable {G : Prog} {i n j m : Nat} (hn : G.funs[n]? = some PT.fd__law_is_name) (hj : G.funs[j]? = some (PT.fd__law_kids_8d47 n))
include hn hj
theorem look_body (k : Nat) (x0 : Option Val) (dn : List (D × Nat)) (p : D) (d : Nat) (r : List (D × Nat)) (zs : List Str) (o4 o5 o6 : Option Val) (g : Good p) (hl : dn.length + r.length ≤ 60) (hd : d ≤ 100) (hz : ∀ z ∈ zs, PyData.strOk z = true) (hzl : zs.length ≤ 60) :
    (formed 6 p = false ∨ 8 < d ∨ 40 < dn.length + (r.length + 1) → ∃ e', bodyW (cxP G (k + 2) [false]) (lookB j) [x0, some (OL ((dn ++ (p, d) :: r).map qD)), some (Val.d (.int dn.length)), some (OL (zs.map .str)), o4, o5, o6, none] = .ok (.ret (Val.d (.bool false))) e') ∧
    (formed 6 p = true → d ≤ 8 → dn.length + (r.length + 1) ≤ 40 → ∃ o4' o5' o6', bodyW (cxP G (k + 2) [false]) (lookB j) [x0, some (OL ((dn ++ (p, d) :: r).map qD)), some (Val.d (.int dn.length)), some (OL (zs.map .str)), o4, o5, o6, none] =
      .ok .nx [x0, some (OL (((dn ++ [(p, d)]) ++ (r ++ (kidsD p).map fun x => (x, d + 1))).map qD)), some (Val.d (.int ((dn ++ [(p, d)]).length : Nat))), some (OL ((addO zs (onName p)).map .str)), o4', o5', o6', none]) := by
  obtain ⟨v, K1, K2, K3⟩ := call_law_kids hn hj k p g
  have hat : L2.atI ((dn.map qD) ++ PyData.tuple [p, .int d] :: (r.map qD)) ((dn.length : Nat) : Int) = some (.tuple [p, .int d]) := by
    unfold L2.atI L2.ixN
    rw [if_pos (by omega), if_pos (by simp; omega)]
    simp
  have hq : qD (p, d) = .tuple [p, .int d] := rfl
  obtain ⟨Q, hQ⟩ : ∃ Q, Q = dn.map qD ++ PyData.tuple [p, .int d] :: r.map qD := ⟨_, rfl⟩
  have hQl : Q.length = dn.length + (r.length + 1) := by rw [hQ]; simp
  rw [← hQ] at hat
  have hm : (dn ++ (p, d) :: r).map qD = Q := by rw [hQ]; simp [hq]
  rw [hm]
  by_cases c1 : formed 6 p = true
  · have K4 := K2 c1
    clear K2 K3
    by_cases c2 : 8 < d
    · have c2' : (8 : Int) < (d : Int) := by omega
      refine ⟨fun _ => ?_, fun _ h => absurd h (by omega)⟩
      rw [bodyW_go]
      rcases K4 with rfl | rfl
      · simp [lookB, hat, K1, c2, c2', nonV_pk2]
      · simp [lookB, hat, K1, c2, c2', nonV_pk2]
    · have c2' : ¬ (8 : Int) < (d : Int) := by omega
      by_cases c3 : 40 < Q.length
      · have c3' : (40 : Int) < ((Q.length : Nat) : Int) := by omega
        refine ⟨fun _ => ?_, fun _ _ h => absurd h (by omega)⟩
        rw [bodyW_go]
        rcases K4 with rfl | rfl
        · simp [lookB, hat, K1, c2, c2', c3, c3', nonV_pk2]
        · simp [lookB, hat, K1, c2, c2', c3, c3', nonV_pk2]
      · have c3' : ¬ (40 : Int) < ((Q.length : Nat) : Int) := by omega
        refine ⟨fun h => absurd h (by simp [c1]; omega), fun _ _ _ => ?_⟩
        obtain ⟨w, ks, rfl, hk⟩ := formed_cases c1
        have hkl := kids_len c1
        have L : ∀ (zs' : List Str), doLc (cxP G (k + 2) [false]) (.tup [(.v 7), (.bin .Add (.v 5) (.c (.int 1)))]) (.nm 7) [] [7] (some (kidsD (.tuple (.str w :: ks)), [x0, some (OL Q), some (Val.d (.int dn.length)), some (OL (zs'.map .str)), some (Val.d (.tuple (.str w :: ks))), some (Val.d (.int d)), some (Val.d (.list (kidsD (.tuple (.str w :: ks))))), none])) =
            .ok (OL ((kidsD (.tuple (.str w :: ks))).map fun x => .tuple [x, .int ((d : Int) + 1)])) [x0, some (OL Q), some (Val.d (.int dn.length)), some (OL (zs'.map .str)), some (Val.d (.tuple (.str w :: ks))), some (Val.d (.int d)), some (Val.d (.list (kidsD (.tuple (.str w :: ks))))), none] := fun zs' => by
          rw [doLc_mapD (fun x => .tuple [x, .int ((d : Int) + 1)]) (by simp) (by rw [lN]; omega) (fun y hy => by
            rw [lcStep0]
            simp [lN])]
          simp
        obtain ⟨KS, hKS⟩ : ∃ KS, KS = kidsD (.tuple (.str w :: ks)) := ⟨_, rfl⟩
        rw [← hKS] at L K4 hkl
        have fin : ∃ o4' o5' o6', bodyW (cxP G (k + 2) [false]) (lookB j) [x0, some (OL Q), some (Val.d (.int dn.length)), some (OL (zs.map .str)), o4, o5, o6, none] =
            .ok .nx [x0, some (OL (Q ++ KS.map fun x => .tuple [x, .int ((d : Int) + 1)])), some (Val.d (.int ((dn.length : Int) + 1))), some (OL ((addO zs (onName (.tuple (.str w :: ks)))).map .str)), o4', o5', o6', none] := by
          have q1 : Q.length + KS.length ≤ 16777216 := by omega
          refine ⟨some (Val.d (.tuple (.str w :: ks))), some (Val.d (.int d)), some (Val.d (.list KS)), ?_⟩
          rw [bodyW_go]
          by_cases h1 : w = "on"
          · subst h1
            obtain ⟨z, rfl, _⟩ := formed_on hk rfl
            have gz := (g.mem (x := .str z) (by simp)).ok.1
            have I := inD_strs gz hz
            have q2 : zs.length < 16777216 := by omega
            by_cases hin : z ∈ zs
            · rcases K4 with rfl | rfl
              · simp [lookB, hat, K1, c2, c2', c3, c3', nonV_pk2, I, hin, walkV_pk', L, lN, q1, onName, addO, addS]
              · simp [lookB, hat, K1, c2, c2', c3, c3', nonV_pk2, I, hin, walkV_pk', L, lN, q1, onName, addO, addS]
            · have L2 := L (zs ++ [z])
              rw [List.map_append] at L2
              rcases K4 with rfl | rfl
              · simp [lookB, hat, K1, c2, c2', c3, c3', nonV_pk2, I, hin, walkV_pk', lN, q1, q2, onName, addO, addS]
                simp at L2
                simp [L2, lN, q1]
              · simp [lookB, hat, K1, c2, c2', c3, c3', nonV_pk2, I, hin, walkV_pk', lN, q1, q2, onName, addO, addS]
                simp at L2
                simp [L2, lN, q1]
          · have e1 : onName (.tuple (.str w :: ks)) = none := by
              unfold onName
              split
              · rename_i w' z r e
                injection e with e
                injection e with e _
                injection e with e
                rw [← e, if_neg h1]
              · rfl
            rcases K4 with rfl | rfl
            · simp [lookB, hat, K1, c2, c2', c3, c3', nonV_pk2, h1, e1, walkV_pk', L, lN, q1, addO]
            · simp [lookB, hat, K1, c2, c2', c3, c3', nonV_pk2, h1, e1, walkV_pk', L, lN, q1, addO]
        obtain ⟨o4', o5', o6', F⟩ := fin
        refine ⟨o4', o5', o6', ?_⟩
        have e1 : ((dn ++ [(PyData.tuple (.str w :: ks), d)]) ++ (r ++ KS.map fun x => (x, d + 1))).map qD = Q ++ KS.map fun x => .tuple [x, .int ((d : Int) + 1)] := by
          rw [hQ]
          simp [qD]
        have e2 : ((((dn ++ [(PyData.tuple (.str w :: ks), d)]).length : Nat)) : Int) = (dn.length : Int) + 1 := by simp
        rw [← hKS, e1, e2]
        exact F
  · have c1' : formed 6 p = false := by simpa using c1
    have K4 := K3 c1'
    subst K4
    refine ⟨fun _ => ?_, fun h => absurd h c1⟩
    rw [bodyW_go]
    simp [lookB, hat, K1]
theorem look_loop (k : Nat) (x0 : Option Val) : ∀ (f g i : Nat) (dn r : List (D × Nat)) (zs : List Str) (o4 o5 o6 : Option Val), dn.length = i → 41 ≤ f + i → i ≤ 40 → (∀ p ∈ r, Good p.1 ∧ p.2 ≤ 9) → dn.length + r.length ≤ 60 → (∀ z ∈ zs, PyData.strOk z = true) → zs.length ≤ i →
    ∃ fl e', whileL (tstF (cxP G (k + 2) [false]) lookT) (bodyW (cxP G (k + 2) [false]) (lookB j)) (f + g) [x0, some (OL ((dn ++ r).map qD)), some (Val.d (.int i)), some (OL (zs.map .str)), o4, o5, o6, none] = .ok fl e' ∧
      (match bfs f r (i + r.length) zs with
        | some zs' => fl = .nx ∧ ∃ q' i' o4' o5' o6', e' = [x0, some (OL q'), some (Val.d (.int i')), some (OL (zs'.map .str)), o4', o5', o6', none]
        | none => fl = .ret (Val.d (.bool false)))
  | 0, g, i, dn, r, zs, o4, o5, o6, a1, a2, a3, _, _, _, _ => by omega
  | f + 1, g, i, dn, [], zs, o4, o5, o6, a1, a2, a3, a4, a5, a6, a7 => by
    have t : tstF (cxP G (k + 2) [false]) lookT [x0, some (OL ((dn ++ []).map qD)), some (Val.d (.int i)), some (OL (zs.map .str)), o4, o5, o6, none] = .ok false [x0, some (OL ((dn ++ []).map qD)), some (Val.d (.int i)), some (OL (zs.map .str)), o4, o5, o6, none] := by
      rw [tstF_go]
      simp [lookT, a1]
    rw [show f + 1 + g = f + g + 1 by omega, whileL_end t]
    exact ⟨_, _, rfl, rfl, _, _, _, _, _, rfl⟩
  | f + 1, g, i, dn, (p, d) :: r, zs, o4, o5, o6, a1, a2, a3, a4, a5, a6, a7 => by
    have t : tstF (cxP G (k + 2) [false]) lookT [x0, some (OL ((dn ++ (p, d) :: r).map qD)), some (Val.d (.int i)), some (OL (zs.map .str)), o4, o5, o6, none] = .ok true [x0, some (OL ((dn ++ (p, d) :: r).map qD)), some (Val.d (.int i)), some (OL (zs.map .str)), o4, o5, o6, none] := by
      rw [tstF_go]
      have : (i : Int) < (i : Int) + ((r.length : Int) + 1) := by omega
      simp [lookT, a1, this]
    obtain ⟨gp, gd⟩ := a4 (p, d) List.mem_cons_self
    rw [List.length_cons] at a5
    obtain ⟨B1, B2⟩ := look_body hn hj k x0 dn p d r zs o4 o5 o6 gp (by omega) (by show d ≤ 100; have : d ≤ 9 := gd; omega) a6 (by omega)
    rw [show f + 1 + g = f + g + 1 by omega]
    rw [a1] at B1 B2
    unfold bfs
    by_cases c1 : formed 6 p = false ∨ 8 < d ∨ 40 < i + ((p, d) :: r).length
    · rw [if_pos c1]
      obtain ⟨e', B⟩ := B1 c1
      exact ⟨_, e', whileL_ret t B, rfl⟩
    · rw [if_neg c1]
      obtain ⟨c1, c2⟩ := not_or.mp c1
      obtain ⟨c2, c3⟩ := not_or.mp c2
      have c1 : formed 6 p = true := by simpa using c1
      rw [List.length_cons] at c3
      obtain ⟨o4', o5', o6', B⟩ := B2 c1 (by omega) (by omega)
      have hkl := kids_len c1
      obtain ⟨fl, e', h1, h2⟩ := look_loop k x0 f g (i + 1) (dn ++ [(p, d)]) (r ++ (kidsD p).map fun x => (x, d + 1)) (addO zs (onName p)) o4' o5' o6' (by simp [a1]) (by omega) (by omega) (fun q hq => by
        rcases List.mem_append.mp hq with hq | hq
        · exact a4 q (List.mem_cons_of_mem _ hq)
        · obtain ⟨x, hx, rfl⟩ := List.mem_map.mp hq
          exact ⟨kids_good gp x hx, by show d + 1 ≤ 9; omega⟩) (by simp; omega) (fun z hz => by
        cases e : onName p with
        | none => rw [e] at hz; exact a6 z hz
        | some y =>
          rw [e] at hz
          rcases mem_addS.mp hz with hz | rfl
          · exact a6 z hz
          · obtain ⟨w, ks, rfl, hk⟩ := formed_cases c1
            unfold onName at e
            split at e
            · rename_i w' z' r' e2
              split at e
              · injection e with e
                subst e
                injection e2 with e2
                rw [e2] at gp
                exact (gp.mem (x := .str z') (by simp)).ok.1
              · cases e
            · cases e) (by
        cases onName p with
        | none => show zs.length ≤ _; omega
        | some y =>
          show (addS zs y).length ≤ _
          unfold addS
          split <;> (try simp) <;> omega)
      have e1 : i + 1 + (r ++ (kidsD p).map fun x => (x, d + 1)).length = i + ((p, d) :: r).length + (kidsD p).length := by
        rw [List.length_append, List.length_map, List.length_cons]; omega
      rw [e1] at h2
      refine ⟨fl, e', ?_, h2⟩
      rw [whileL_go t B, show ((dn ++ [(p, d)]).length : Nat) = i + 1 by simp [a1]]
      exact h1
theorem call_law_is_saying (h : G.funs[i]? = some (PT.fd__law_is_saying j)) (k : Nat) (x : D) (g : Good x) : callM G (k + 3) i [Val.d x] = .ok (Val.d (.bool (isSaid 6 x))) [Val.d x] := by
  rw [call_go h ⟨rfl, Nat.le_of_ble_eq_true rfl⟩]
  obtain ⟨fl, e', h1, h2⟩ := look_loop hn hj k (some (Val.d x)) 41 (whileFuel - 41) 0 [] [(x, 1)] [] none none none rfl (by omega) (by omega) (fun p hp => by rw [List.mem_singleton.mp hp]; exact ⟨g, by show 1 ≤ 9; omega⟩) (by simp) (by simp) (by simp)
  rw [show 41 + (whileFuel - 41) = whileFuel from rfl] at h1
  have S := bfs_said x
  rw [show 0 + [(x, 1)].length = 1 from rfl] at h2
  simp [PT.fd__law_is_saying, PT.mb__law_is_saying, lN]
  simp [qD] at h1
  refine Eq.trans (congrArg (fun z => endM _ (goF _ z _ _)) h1) ?_
  cases q : bfs 41 [(x, 1)] 1 [] with
  | none =>
    rw [q] at h2 S
    dsimp only at h2 S
    subst h2
    simp [← S]
  | some zs' =>
    rw [q] at h2 S
    dsimp only at h2 S
    obtain ⟨rfl, q', i', o4', o5', o6', rfl⟩ := h2
    have e8 : ((((zs'.length : Nat)) : Int) ≤ 8) ↔ zs'.length ≤ 8 := by omega
    simp [← S, e8]
end
end PL
end

section
set_option Elab.async false
set_option linter.all false
set_option maxRecDepth 100000
set_option maxHeartbeats 2000000
/-! LO: said or told; what a law asks of a thing. -/
namespace PL
open PySem PM
/-- what a law's words and their fields are -/
def SubW (G : Prog) (x : String) : Prop := (∀ c : Str, G.sub x c = (decide (c = x) || decide (c = "ReadyError"))) ∧ G.flds x = []
section
variable {G : Prog} {i n f g s ns w : Nat} (hn : G.funs[n]? = some PT.fd_is_name) (hf : G.funs[f]? = some (PT.fd_is_formed n)) (hg : G.funs[g]? = some PT.fd_kids_of)
include hn hf hg
theorem call_is_saying (h : G.funs[i]? = some (PT.fd_is_saying s)) (hs : G.funs[s]? = some (PT.fd_is_said f g)) (k : Nat) (x : D) (hx : Good x) : callM G (k + 4) i [Val.d x] = .ok (Val.d (.bool (isSaid 6 x))) [Val.d x] := by
  rw [call_go h ⟨rfl, Nat.le_of_ble_eq_true rfl⟩]
  have S := call_is_said hn hf hg hs k x 6 hx (by omega)
  simp at S
  simp [PT.fd_is_saying, PT.mb_is_saying, S]
theorem call_need_saying (h : G.funs[i]? = some (PT.fd_need_saying ns)) (hN : G.funs[ns]? = some (PT.fd_is_saying s)) (hs : G.funs[s]? = some (PT.fd_is_said f g)) (hS : SubW G "BadSaying") (k : Nat) (x : D) (hx : Good x) :
    (isSaid 6 x = true → callM G (k + 5) i [Val.d x] = .ok (Val.d .none) [Val.d x]) ∧ (isSaid 6 x = false → callM G (k + 5) i [Val.d x] = .ex ⟨"BadSaying", []⟩ [Val.d x]) := by
  rw [call_go h ⟨rfl, Nat.le_of_ble_eq_true rfl⟩]
  have S := call_is_saying hn hf hg hN hs k x hx
  refine ⟨fun e => ?_, fun e => ?_⟩
  · rw [e] at S
    simp [PT.fd_need_saying, PT.mb_need_saying, S]
  · rw [e] at S
    simp [PT.fd_need_saying, PT.mb_need_saying, S, hS.2, excOf, lN]
end
section
variable {G : Prog} {i n : Nat}
def wordP : D → Option D
  | .tuple [x, .bool true] => some x
  | _ => none
theorem word_lc {c : PM.Ctx} {e0 e1 : Option Val} {bs : List (String × Bool)} (hp : c.pr = [false]) (hl : bs.length ≤ 100) : doLc c (.v 3) (.tup [.nm 3, .nm 4]) [.v 4] [3, 4] (some (bs.map (fun p => .tuple [.str (Str.ofString p.1), .bool p.2]), [e0, e1, none, none, none])) = .ok (OL (bs.filterMap fun p => if p.2 then some (.str (Str.ofString p.1)) else none)) [e0, e1, none, none, none] := by
  rw [doLc_fil (fun p : String × Bool => if p.2 then some (PyData.str (Str.ofString p.1)) else none) (by simp [hp]) (by rw [lN]; omega) (fun y hy => by
    rw [lcStep1]
    obtain ⟨a, b⟩ := y
    cases b <;> simp [hp])]
  simp
def wordT : List (String × String) := [("BadName", "name"), ("BadNames", "names"), ("BadSaying", "saying"), ("BadSetting", "setting"), ("BadNumber", "number"), ("TooGreat", "great")]
theorem call_law_word (h : G.funs[i]? = some PT.fd__law_word) (k : Nat) (x y : String) (hx : (x, y) ∈ wordT) (hS : SubW G x) : callM G (k + 1) i [.ex (Str.ofString x) []] = .ok (Val.d (.str (Str.ofString y))) [.ex (Str.ofString x) []] := by
  rw [call_go h ⟨rfl, Nat.le_of_ble_eq_true rfl⟩]
  have L := fun (e0 e1 : Option Val) (a b c d e f g h : Bool) => word_lc (c := cxP G k [false]) (e0 := e0) (e1 := e1) (bs := [("name", a), ("names", b), ("saying", c), ("setting", d), ("number", e), ("great", f), ("other", g), ("more", h)]) rfl (by simp)
  simp only [List.map_cons, List.map_nil] at L
  simp only [wordT, List.mem_cons, List.not_mem_nil, or_false, Prod.mk.injEq] at hx
  rcases hx with ⟨rfl, rfl⟩ | ⟨rfl, rfl⟩ | ⟨rfl, rfl⟩ | ⟨rfl, rfl⟩ | ⟨rfl, rfl⟩ | ⟨rfl, rfl⟩ <;>
  · simp [PT.fd__law_word, PT.mb__law_word, hS.1, ofS_inj, lN, walkV_pk', excBases]
    rw [L]
    simp [ofS_inj, excBases]
end
section
variable {G : Prog} {i n f g s ns w : Nat} (hn : G.funs[n]? = some PT.fd_is_name) (hf : G.funs[f]? = some (PT.fd_is_formed n)) (hg : G.funs[g]? = some PT.fd_kids_of) (hs : G.funs[s]? = some (PT.fd_is_said f g)) (hS : SubW G "BadSaying")
include hn hf hg hs hS
theorem call_law_said {is : Nat} (h : G.funs[i]? = some (PT.fd__law_said ns w)) (hN : G.funs[ns]? = some (PT.fd_need_saying is)) (hi : G.funs[is]? = some (PT.fd_is_saying s)) (hw : G.funs[w]? = some PT.fd__law_word) (k : Nat) (x : D) (hx : Good x) :
    callM G (k + 6) i [Val.d x] = .ok (Val.d (.str (if isSaid 6 x = true then Str.ofString "good" else Str.ofString "saying"))) [Val.d x] := by
  rw [call_go h ⟨rfl, Nat.le_of_ble_eq_true rfl⟩]
  obtain ⟨N1, N2⟩ := call_need_saying hn hf hg hN hi hs hS k x hx
  have W := call_law_word hw (k + 4) "BadSaying" "saying" (by simp [wordT]) hS
  by_cases q : isSaid 6 x = true
  · simp [PT.fd__law_said, PT.mb__law_said, N1 q, q]
  · have q : isSaid 6 x = false := by simpa using q
    simp [PT.fd__law_said, PT.mb__law_said, N2 q, q, hS.1, ofS_inj, W]
theorem call_law_right {is sa : Nat} (h : G.funs[i]? = some (PT.fd__law_right is sa)) (hsa : G.funs[sa]? = some (PT.fd__law_said ns w)) (hN : G.funs[ns]? = some (PT.fd_need_saying is)) (hi : G.funs[is]? = some (PT.fd_is_saying s)) (hw : G.funs[w]? = some PT.fd__law_word) (k : Nat) (x : D) (hx : Good x) :
    callM G (k + 7) i [Val.d x, Val.d (.bool (isSaid 6 x))] = .ok (Val.d (.bool true)) [Val.d x, Val.d (.bool (isSaid 6 x))] := by
  rw [call_go h ⟨rfl, Nat.le_of_ble_eq_true rfl⟩]
  have S := call_is_saying hn hf hg hi hs (k + 2) x hx
  have W := call_law_said hn hf hg hs hS hsa hN hi hw k x hx
  have two : ∀ (y : D) (o2 o3 : Option Val), loopF (cxP G (k + 6) [false, false]) (.nm 2) [
    .set (.nm 3) (.call is [(.v 0)]),
    .ite (.or (.not (.isi (.v 3) [.bt "bool"])) (.cmp .NotEq (.v 3) (.v 1))) [
      .ret (.c (.bool false))] [],
    .ite (.cmp .NotEq (.call sa [(.v 0)]) (.idx (.lst [(.c (.str "saying")), (.c (.str "good"))]) (.bi .int [(.v 1)]))) [
      .ret (.c (.bool false))] []] y [some (Val.d x), some (Val.d (.bool (isSaid 6 x))), o2, o3] = .ok .nx [some (Val.d x), some (Val.d (.bool (isSaid 6 x))), some (Val.d y), some (Val.d (.bool (isSaid 6 x)))] := fun y o2 o3 => by
    rw [loopF_go]
    cases q : isSaid 6 x with
    | true =>
      rw [q] at S W
      simp [S, W, lN]
    | false =>
      rw [q] at S W
      simp [S, W, lN]
  simp [PT.fd__law_right, PT.mb__law_right]
  rw [show rangeV 0 2 = [.int 0, .int 1] from rfl, forL_nx (two _ _ _), forL_nx (two _ _ _)]
  simp
end
end PL
end

section
set_option Elab.async false
set_option linter.all false
set_option maxRecDepth 100000
set_option maxHeartbeats 2000000
/-! LP: great sayings and far ones. -/
namespace PL
open PySem PM
/-! ### far -/
def notN (x : D) : Nat → D
  | 0 => x
  | n + 1 => .tuple [.str "not", notN x n]
def dblN (x : D) : Nat → D
  | 0 => x
  | n + 1 => .tuple [.str "and", dblN x n, dblN x n]
theorem notN_in (x : D) : ∀ n, notN (.tuple [.str "not", x]) n = notN x (n + 1)
  | 0 => rfl
  | n + 1 => by rw [notN, notN_in x n]; rfl
theorem dblN_in (x : D) : ∀ n, dblN (.tuple [.str "and", x, x]) n = dblN x (n + 1)
  | 0 => rfl
  | n + 1 => by rw [dblN, dblN_in x n]; rfl
theorem fit_not (wd : Nat) (x : D) : ∀ {n m : Nat}, n ≤ m → fit wd n (notN x m) = false
  | 0, _, _ => rfl
  | n + 1, 0, h => by omega
  | n + 1, m + 1, h => by
    have := fit_not wd x (n := n) (m := m) (by omega)
    simp [fit, notN, kidsD, kidsK, ofS_inj, this]
theorem fit_dbl (wd : Nat) (x : D) : ∀ {n m : Nat}, n ≤ m → fit wd n (dblN x m) = false
  | 0, _, _ => rfl
  | n + 1, 0, h => by omega
  | n + 1, m + 1, h => by
    have := fit_dbl wd x (n := n) (m := m) (by omega)
    simp [fit, dblN, kidsD, kidsK, ofS_inj, this]
theorem good_notN {x : D} (h : Good x) : ∀ n, Good (notN x n)
  | 0 => h
  | n + 1 => good_t2 (good_str _ (by decide +kernel)) (good_notN h n)
theorem good_dblN {x : D} (h : Good x) : ∀ n, Good (dblN x n)
  | 0 => h
  | n + 1 => good_t3 (good_str _ (by decide +kernel)) (good_dblN h n) (good_dblN h n)
theorem said_fit {wd : Nat} {x : D} (h : fit wd 8 x = false) : isSaid wd x = false := by simp [isSaid, h]
theorem said_formed {wd : Nat} {x : D} (h : formed wd x = false) : isSaid wd x = false := said_fit (by simp [fit, h])
theorem far_not {c : PM.Ctx} (hp : c.pr = []) : ∀ (n : Nat) (lo : Int) (x : D) (e1 e2 : Option Val), ∃ e2', forL (loopF c (.nm 2) [
    .set (.nm 0) (.tup [(.c (.str "not")), (.v 0)])]) (rangeV lo n) [some (Val.d x), e1, e2] = .ok .nx [some (Val.d (notN x n)), e1, e2']
  | 0, lo, x, e1, e2 => ⟨e2, rfl⟩
  | n + 1, lo, x, e1, e2 => by
    obtain ⟨e2', h⟩ := far_not hp n (lo + 1) (.tuple [.str "not", x]) e1 (some (Val.d (.int lo)))
    refine ⟨e2', ?_⟩
    rw [rangeV, forL_nx (e1 := [some (Val.d (.tuple [.str "not", x])), e1, some (Val.d (.int lo))])]
    · rw [h, notN_in]
    · rw [loopF_go]
      simp [hp, lN]
theorem far_dbl {c : PM.Ctx} (hp : c.pr = []) : ∀ (n : Nat) (lo : Int) (x : D) (e1 e2 : Option Val), ∃ e2', forL (loopF c (.nm 2) [
    .set (.nm 1) (.tup [(.c (.str "and")), (.v 1), (.v 1)])]) (rangeV lo n) [e1, some (Val.d x), e2] = .ok .nx [e1, some (Val.d (dblN x n)), e2']
  | 0, lo, x, e1, e2 => ⟨e2, rfl⟩
  | n + 1, lo, x, e1, e2 => by
    obtain ⟨e2', h⟩ := far_dbl hp n (lo + 1) (.tuple [.str "and", x, x]) e1 (some (Val.d (.int lo)))
    refine ⟨e2', ?_⟩
    rw [rangeV, forL_nx (e1 := [e1, some (Val.d (.tuple [.str "and", x, x])), some (Val.d (.int lo))])]
    · rw [h, dblN_in]
    · rw [loopF_go]
      simp [hp, lN]
def longA : Str := ⟨(repD (Str.ofString "a").cps.toList 5000).toArray⟩
def farL : List D := [notN sYes 5000, dblN sYes 60, .tuple (.str "or" :: repD [sYes] 5000), .tuple [.str "on", .str longA]]
theorem longA_len : longA.length = 5000 := by
  unfold longA Str.length
  rw [List.size_toArray, repD_len]
  rfl
theorem longA_ok : PyData.strOk longA = true := by
  unfold PyData.strOk longA
  rw [List.all_toArray, List.all_eq_true]
  intro n hn
  have := repD_mem hn
  rw [show (Str.ofString "a").cps.toList = [97] from rfl, List.mem_singleton] at this
  rw [this]
  rfl
theorem farL_ok : ∀ x ∈ farL, Good x ∧ isSaid 6 x = false := by
  have hr := rep_ok good_yes 5000 (by omega)
  simp only [farL, List.forall_mem_cons, List.not_mem_nil, false_implies, implies_true, and_true]
  refine ⟨⟨good_notN good_yes _, said_fit (fit_not 6 _ (by omega))⟩, ⟨good_dblN good_yes _, said_fit (fit_dbl 6 _ (by omega))⟩, ⟨good_tc (good_str _ (by decide +kernel)) hr.1 hr.2, said_formed ?_⟩, ⟨good_t2 (good_str _ (by decide +kernel)) (.str longA_ok (by rw [longA_len]; omega)), said_formed ?_⟩⟩
  · have e : (repD [sYes] ((5000 : Nat) : Int)).length = 5000 := by rw [repD_len]; rfl
    have e : (repD [sYes] 5000).length = 5000 := e
    simp [formed, formedK, ofS_inj, e]
  · simp [formed, formedK, isName, longA_len]
section
variable {G : Prog} {i : Nat}
theorem call_law_far (h : G.funs[i]? = some PT.fd__law_far) (k : Nat) : callM G (k + 1) i [] = .ok (OL farL) [] := by
  rw [call_go h ⟨rfl, Nat.le_of_ble_eq_true rfl⟩]
  obtain ⟨e2, F1⟩ := far_not (c := cxP G k []) rfl 5000 0 sYes (some (Val.d sYes)) none
  obtain ⟨e3, F2⟩ := far_dbl (c := cxP G k []) rfl 60 0 sYes (some (Val.d (notN sYes 5000))) e2
  have r1 : (repD [sYes] 5000).length = 5000 := by
    have e : (repD [sYes] ((5000 : Nat) : Int)).length = 5000 := by rw [repD_len]; rfl
    exact e
  have l1 := longA_len
  unfold farL longA
  generalize notN sYes 5000 = N0 at F1 F2 ⊢
  generalize dblN sYes 60 = N1 at F2 ⊢
  generalize hR0 : rangeV 0 5000 = R0 at F1
  generalize hR1 : rangeV 0 60 = R1 at F2
  have e0 : (PyData.tuple [.str "yes"]) = sYes := rfl
  simp [PT.fd__law_far, PT.mb__law_far, lN, hR0, hR1, e0]
  rw [F1]
  simp [lN, hR1]
  rw [F2]
  have s1 : (Str.ofString "a").length = 1 := rfl
  simp [lN, e0, r1, s1]
end
/-! ### great -/
def goodB : Nat → D → Bool
  | _, .none => true
  | _, .bool _ => true
  | _, .int _ => true
  | _, .str z => PyData.strOk z && decide (z.length ≤ 1000000)
  | 0, _ => false
  | n + 1, .list xs => decide (xs.length ≤ 1000000) && xs.all (goodB n)
  | n + 1, .tuple xs => decide (xs.length ≤ 1000000) && xs.all (goodB n)
  | _, .dict _ => true
theorem goodB_ok : ∀ {n : Nat} {x : D}, goodB n x = true → Good x
  | _, .none, _ => .non
  | _, .bool _, _ => .bool _
  | _, .int _, _ => .int _
  | n, .str z, h => by
    unfold goodB at h
    rw [Bool.and_eq_true, decide_eq_true_eq] at h
    exact .str h.1 h.2
  | 0, .list _, h => by cases h
  | 0, .tuple _, h => by cases h
  | n + 1, .list xs, h => by
    unfold goodB at h
    rw [Bool.and_eq_true, decide_eq_true_eq, List.all_eq_true] at h
    exact .list h.1 fun x hx => goodB_ok (h.2 x hx)
  | n + 1, .tuple xs, h => by
    unfold goodB at h
    rw [Bool.and_eq_true, decide_eq_true_eq, List.all_eq_true] at h
    exact .tuple h.1 fun x hx => goodB_ok (h.2 x hx)
  | _, .dict _, _ => .dict _
end PL
end

section
set_option Elab.async false
set_option linter.all false
set_option maxRecDepth 100000
set_option maxHeartbeats 2000000
/-! LQ: great sayings. -/
namespace PL
open PySem PM
def gA : D := .tuple [.str "on", .str "a"]
def gOn (c : Nat) : D := .tuple [.str "on", .str ⟨#[c]⟩]
def g7 : D := notN gA 7
def g5 : D := .tuple [.str "and", gA, gA, gA, gA, gA]
def gO6 : D := .tuple [.str "or", g5, g5, g5, g5, g5, g5]
def gW : D := .tuple [.str "or", g5, g5, g5, g5, g5, .tuple [.str "and", gA, gA]]
def nt (x : D) : D := .tuple [.str "not", x]
def or4 : D := .tuple [.str "or", gOn 97, gOn 98, gOn 99, gOn 100]
def or8 : D := .tuple [.str "or", gOn 101, gOn 102, gOn 103, gOn 104]
def or9 : D := .tuple [.str "or", gOn 101, gOn 102, gOn 103, gOn 104, gOn 105]
def greatP : List (D × Bool) := [(g7, true), (nt g7, false), (.tuple [.str "and", gA, gA, gA, gA, gA, gA], true), (.tuple [.str "and", gA, gA, gA, gA, gA, gA, gA], false),
  (.tuple [.str "or", or4, or8], true), (.tuple [.str "or", or4, or9], false), (gW, true), (nt gO6, true), (nt (nt (nt gO6)), true), (.tuple [.str "and", nt gO6, gA], true), (.tuple [.str "and", nt gO6, gA, gA], false)]
def duD (p : D × Bool) : D := .tuple [p.1, .bool p.2]
theorem greatP_ok : greatP.all (fun p => decide (isSaid 6 p.1 = p.2) && goodB 20 p.1) = true := by decide +kernel
theorem great_chain {c : PM.Ctx} (hp : c.pr = []) (e0 e3 e4 e5 e6 e7 : Option Val) : ∀ (n : Nat) (lo : Int) (x : D) (e2 : Option Val), ∃ e2', forL (loopF c (.nm 2) [
    .set (.nm 1) (.tup [(.c (.str "not")), (.v 1)])]) (rangeV lo n) [e0, some (Val.d x), e2, e3, e4, e5, e6, e7] = .ok .nx [e0, some (Val.d (notN x n)), e2', e3, e4, e5, e6, e7]
  | 0, lo, x, e2 => ⟨e2, rfl⟩
  | n + 1, lo, x, e2 => by
    obtain ⟨e2', h⟩ := great_chain hp e0 e3 e4 e5 e6 e7 n (lo + 1) (.tuple [.str "not", x]) (some (Val.d (.int lo)))
    refine ⟨e2', ?_⟩
    rw [rangeV, forL_nx (e1 := [e0, some (Val.d (.tuple [.str "not", x])), some (Val.d (.int lo)), e3, e4, e5, e6, e7])]
    · rw [h, notN_in]
    · rw [loopF_go]
      simp [hp, lN]
section
variable {G : Prog} {i : Nat}
theorem call_law_great (h : G.funs[i]? = some PT.fd__law_great) (k : Nat) : callM G (k + 1) i [] = .ok (OL (greatP.map duD)) [] := by
  rw [call_go h ⟨rfl, Nat.le_of_ble_eq_true rfl⟩]
  obtain ⟨e2, F1⟩ := great_chain (c := cxP G k []) rfl (some (Val.d gA)) none none none none none 7 0 gA none
  have e0 : (PyData.tuple [.str "on", .str "a"]) = gA := rfl
  have p5 : repD [gA] 5 = [gA, gA, gA, gA, gA] := rfl
  have p6 : repD [gA] 6 = [gA, gA, gA, gA, gA, gA] := rfl
  have p7 : repD [gA] 7 = [gA, gA, gA, gA, gA, gA, gA] := rfl
  have sg : signsD (Str.ofString "abcdefghi") = [97, 98, 99, 100, 101, 102, 103, 104, 105].map fun n => PyData.str ⟨#[n]⟩ := rfl
  have sl : (Str.ofString "abcdefghi").length = 9 := rfl
  have L : ∀ a0 a1 a2 a3 a4 a5 : Option Val, doLc (cxP G k []) (.tup [(.c (.str "on")), (.v 7)]) (.nm 7) [] [7] (some ([97, 98, 99, 100, 101, 102, 103, 104, 105].map fun n => PyData.str ⟨#[n]⟩, [a0, a1, a2, a3, a4, a5, none, none])) = .ok (OL ([97, 98, 99, 100, 101, 102, 103, 104, 105].map gOn)) [a0, a1, a2, a3, a4, a5, none, none] := fun a0 a1 a2 a3 a4 a5 => by
    rw [doLc_mapM gOn (by simp) (by rw [lN]; simp) (fun y hy => by
      rw [lcStep0]
      simp [lN, gOn])]
    simp
  have c1 : cut [gOn 97, gOn 98, gOn 99, gOn 100, gOn 101, gOn 102, gOn 103, gOn 104, gOn 105] none (some 4) = [gOn 97, gOn 98, gOn 99, gOn 100] := rfl
  have c2 : cut [gOn 97, gOn 98, gOn 99, gOn 100, gOn 101, gOn 102, gOn 103, gOn 104, gOn 105] (some 4) (some 8) = [gOn 101, gOn 102, gOn 103, gOn 104] := rfl
  have c3 : cut [gOn 97, gOn 98, gOn 99, gOn 100, gOn 101, gOn 102, gOn 103, gOn 104, gOn 105] (some 4) none = [gOn 101, gOn 102, gOn 103, gOn 104, gOn 105] := rfl
  generalize hR0 : rangeV 0 7 = R0 at F1
  simp [PT.fd__law_great, PT.mb__law_great, lN, hR0, e0]
  rw [F1]
  simp [lN, e0, p5, p6, p7, sg, sl]
  simp only [List.map_cons, List.map_nil] at L
  rw [L]
  simp [lN, e0, c1, c2, c3, greatP, duD]
  simp only [g7, nt, gO6, g5, gW, or4, or8, or9]
end
end PL
end

section
set_option Elab.async false
set_option linter.all false
set_option maxRecDepth 100000
set_option maxHeartbeats 2000000
/-! LR: what every law's loop over its script wants. -/
namespace PL
open PySem PM
theorem forL_inv {f : D → PM.Env → Res PM.Flow} (P : PM.Env → Prop) : ∀ {xs : List D}, (∀ x ∈ xs, ∀ e, P e → ∃ e', f x e = .ok .nx e' ∧ P e') → ∀ e, P e → ∃ e', forL f xs e = .ok .nx e' ∧ P e'
  | [], _, e, p => ⟨e, rfl, p⟩
  | x :: xs, h, e, p => by
    obtain ⟨e1, h1, p1⟩ := h x List.mem_cons_self e p
    obtain ⟨e2, h2, p2⟩ := forL_inv P (xs := xs) (fun y m => h y (List.mem_cons_of_mem _ m)) e1 p1
    exact ⟨e2, by rw [forL_nx h1]; exact h2, p2⟩
@[simp] theorem walkEnum_OL {e : PM.Env} {ds : List D} : walkEnum e (OL ds) = some (enumV 0 ds, e) := by
  unfold walkEnum walkL
  rw [take_OL]
  rfl
theorem mem_enumV : ∀ {xs : List D} {k : Nat} {x : D}, x ∈ enumV k xs → ∃ (i : Nat) (y : D), y ∈ xs ∧ x = .tuple [.int i, y] ∧ i < k + xs.length
  | [], _, _, h => by cases h
  | y :: r, k, x, h => by
    rw [enumV] at h
    rcases List.mem_cons.mp h with rfl | h
    · exact ⟨k, y, List.mem_cons_self, rfl, by rw [List.length_cons]; omega⟩
    · obtain ⟨i, z, a, b, c⟩ := mem_enumV h
      exact ⟨i, z, List.mem_cons_of_mem _ a, b, by rw [List.length_cons]; omega⟩
theorem mem_cut {α : Type} {xs : List α} {lo hi : Option Int} {x : α} (h : x ∈ cut xs lo hi) : x ∈ xs := List.mem_of_mem_drop (List.mem_of_mem_take h)
theorem cut_len {α : Type} (xs : List α) (lo hi : Option Int) : (cut xs lo hi).length ≤ xs.length := by
  unfold cut
  rw [List.length_take, List.length_drop]
  omega
/-- what a law walks over -/
def scrD (ns : List Int) : List D := enumV 0 (cut (ns.map PyData.int ++ [.int 0]) none (some 63))
theorem scrD_ok {ns : List Int} (h : ns.length ≤ 63) {x : D} (hx : x ∈ scrD ns) : ∃ (i : Nat) (j : Int), x = .tuple [.int i, .int j] ∧ i < 64 := by
  obtain ⟨i, y, a, b, c⟩ := mem_enumV hx
  have l := cut_len (ns.map PyData.int ++ [.int 0]) none (some 63)
  rw [List.length_append, List.length_map] at l
  have l : (cut (ns.map PyData.int ++ [.int 0]) none (some 63)).length ≤ ns.length + 1 := l
  rcases List.mem_append.mp (mem_cut a) with m | m
  · obtain ⟨j, _, rfl⟩ := List.mem_map.mp m
    exact ⟨i, j, b, by omega⟩
  · exact ⟨i, 0, by rw [b, List.mem_singleton.mp m], by omega⟩
theorem parts_ok {wd : Nat} : ∀ {q : Nat} {d p : D}, fit wd q d = true → Good d → p ∈ parts q d → formed wd p = true ∧ Good p
  | 0, _, _, f, _, _ => by cases f
  | q + 1, d, p, f, g, h => by
    obtain ⟨f1, f2⟩ := fit_succ f
    rw [parts] at h
    rcases List.mem_cons.mp h with rfl | h
    · exact ⟨f1, g⟩
    · obtain ⟨x, hx, hp⟩ := List.mem_flatMap.mp h
      exact parts_ok (f2 x hx) (kids_good g x hx) hp
theorem parts_pos {wd : Nat} : ∀ {q : Nat} {d : D}, fit wd q d = true → 0 < (parts q d).length
  | 0, _, f => by cases f
  | q + 1, d, _ => by rw [parts, List.length_cons]; omega
theorem len_le_of_mem {α : Type} [DecidableEq α] {xs ys : List α} (hx : xs.Nodup) (h : ∀ x ∈ xs, x ∈ ys) : xs.length ≤ ys.length := len_le_of_sub hx h
/-- what is drawn is a saying -/
theorem drawn_said {ls : List (List Nat)} {n r : Nat} {d : D} (h : Drawn ls n r d) (hn : n ≤ 8) (hr : r ≤ 40) (hl : ls.length ≤ 8) : isSaid 6 d = true := by
  have h := h.mono hn (Nat.le_refl r)
  have a := h.sz
  have b : (dedS (namesOf (parts 8 d))).length ≤ 8 := by
    refine Nat.le_trans (len_le_of_mem (ys := ls.map W) (nd_foldS List.nodup_nil) fun z hz => ?_) (by rw [List.length_map]; exact hl)
    unfold dedS at hz
    rw [mem_foldS] at hz
    rcases hz with hz | hz
    · cases hz
    · obtain ⟨x, hx, e⟩ := mem_names.mp hz
      obtain ⟨l, m, rfl⟩ := h.nm x hx z e
      exact List.mem_map.mpr ⟨l, m, rfl⟩
  unfold isSaid
  rw [h.fit, decide_eq_true b, decide_eq_true (by omega)]
  rfl
end PL
end

section
set_option Elab.async false
set_option linter.all false
set_option maxRecDepth 100000
set_option maxHeartbeats 2000000
/-! LS: names, settings, numbers. -/
namespace PL
open PySem PM
def isNames : D → Bool
  | .tuple xs => decide (xs.length ≤ 8) && xs.all isName && (match strsD xs with
    | some ss => decide ((dedS ss).length = ss.length)
    | none => false)
  | _ => false
def lenD : D → Nat
  | .tuple xs => xs.length
  | _ => 0
def isBoolD : D → Bool
  | .bool _ => true
  | _ => false
def isSet (n : Nat) : D → Bool
  | .tuple xs => decide (xs.length = n) && xs.all isBoolD
  | _ => false
def isWhole : D → Bool
  | .int _ => true
  | _ => false
def loB : Nat → Int → List Bool
  | 0, _ => []
  | n + 1, v => decide (v % 2 = 1) :: loB n (v / 2)
def bits (n : Nat) (v : Int) : D := .tuple ((loB n v).reverse.map .bool)
theorem strsD_names : ∀ {xs : List D}, xs.all isName = true → ∃ ss, strsD xs = some ss ∧ ss.length = xs.length
  | [], _ => ⟨[], rfl, rfl⟩
  | x :: r, h => by
    rw [List.all_cons, Bool.and_eq_true] at h
    obtain ⟨ss, e, l⟩ := strsD_names h.2
    cases x with
    | str z => exact ⟨z :: ss, by simp [e], by simp [l]⟩
    | _ => cases h.1
section
variable {G : Prog} {i n nm nn : Nat}
theorem call_is_whole (h : G.funs[i]? = some PT.fd_is_whole) (k : Nat) (x : D) : callM G (k + 1) i [Val.d x] = .ok (Val.d (.bool (isWhole x))) [Val.d x] := by
  rw [call_go h ⟨rfl, Nat.le_of_ble_eq_true rfl⟩]
  cases x <;> simp [PT.fd_is_whole, PT.mb_is_whole, isWhole]
theorem call_is_names (hn : G.funs[n]? = some PT.fd_is_name) (h : G.funs[i]? = some (PT.fd_is_names n)) (k : Nat) (x : D) (hx : Good x) : callM G (k + 2) i [Val.d x] = .ok (Val.d (.bool (isNames x))) [Val.d x] := by
  rw [call_go h ⟨rfl, Nat.le_of_ble_eq_true rfl⟩]
  cases x with
  | tuple xs =>
    by_cases c1 : xs.length ≤ 8
    · have c1' : ¬ (8 : Int) < (xs.length : Nat) := by omega
      have L := doLc_mapD (c := cxP G (k + 1) [false]) (elt := .call n [.v 1]) (t := .nm 1) (cs := []) (own := [1]) (e1 := [some (Val.d (.tuple xs)), none]) (xs := xs) (fun x => .bool (isName x)) (by simp) (by rw [lN]; omega) (fun y hy => by
        rw [lcStep0]
        simp [call_is_name hn k y (hx.mem hy).fit])
      by_cases c2 : xs.all isName = true
      · obtain ⟨ss, e, l⟩ := strsD_names c2
        have l2 : xs.length < 1000 := by omega
        simp [PT.fd_is_names, PT.mb_is_names, c1', -List.all_eq_true]
        rw [L]
        have e3 : ((((dedS ss).length : Nat) : Int) = (xs.length : Nat)) ↔ (dedS ss).length = xs.length := by omega
        simp [isNames, c1, c2, e, lenset_T, l2, l, e3, -List.all_eq_true]
      · have c2 : xs.all isName = false := by simpa using c2
        simp [PT.fd_is_names, PT.mb_is_names, c1', -List.all_eq_true]
        rw [L]
        simp [isNames, c1, c2, -List.all_eq_false]
    · have c1' : (8 : Int) < (xs.length : Nat) := by omega
      simp [PT.fd_is_names, PT.mb_is_names, c1, c1', isNames]
  | _ => simp [PT.fd_is_names, PT.mb_is_names, isNames]
theorem call_need_names (hn : G.funs[n]? = some PT.fd_is_name) (hm : G.funs[nm]? = some (PT.fd_is_names n)) (h : G.funs[i]? = some (PT.fd_need_names nm)) (hS : SubW G "BadNames") (k : Nat) (x : D) (hx : Good x) :
    (isNames x = true → callM G (k + 3) i [Val.d x] = .ok (Val.d .none) [Val.d x]) ∧ (isNames x = false → callM G (k + 3) i [Val.d x] = .ex ⟨"BadNames", []⟩ [Val.d x]) := by
  rw [call_go h ⟨rfl, Nat.le_of_ble_eq_true rfl⟩]
  have S := call_is_names hn hm k x hx
  refine ⟨fun e => ?_, fun e => ?_⟩
  · rw [e] at S
    simp [PT.fd_need_names, PT.mb_need_names, S]
  · rw [e] at S
    simp [PT.fd_need_names, PT.mb_need_names, S, hS.2, excOf, lN]
theorem call_is_setting (h : G.funs[i]? = some PT.fd_is_setting) (k : Nat) (xs : List D) (y : D) (hy : Good y) : callM G (k + 1) i [Val.d (.tuple xs), Val.d y] = .ok (Val.d (.bool (isSet xs.length y))) [Val.d (.tuple xs), Val.d y] := by
  rw [call_go h ⟨rfl, Nat.le_of_ble_eq_true rfl⟩]
  cases y with
  | tuple ys =>
    have hl := hy.len
    have L := doLc_mapD (c := cxP G k [false, false]) (elt := .isi (.v 2) [.bt "bool"]) (t := .nm 2) (cs := []) (own := [2]) (e1 := [some (Val.d (.tuple xs)), some (Val.d (.tuple ys)), none]) (xs := ys) (fun x => .bool (isBoolD x)) (by simp) (by rw [lN]; omega) (fun y hy => by
      rw [lcStep0]
      cases y <;> simp [isBoolD])
    by_cases c1 : ys.length = xs.length
    · simp [PT.fd_is_setting, PT.mb_is_setting, c1, -List.all_eq_true]
      rw [L]
      simp [isSet, c1, Function.comp_def]
    · simp [PT.fd_is_setting, PT.mb_is_setting, c1, isSet]
      try omega
  | _ => simp [PT.fd_is_setting, PT.mb_is_setting, isSet]
theorem isNames_tuple {x : D} (h : isNames x = true) : ∃ xs, x = .tuple xs ∧ xs.length ≤ 8 := by
  cases x with
  | tuple xs =>
    simp only [isNames, Bool.and_eq_true, decide_eq_true_eq] at h
    exact ⟨xs, rfl, h.1.1⟩
  | _ => cases h
theorem call_need_setting {is : Nat} (hn : G.funs[n]? = some PT.fd_is_name) (hm : G.funs[nm]? = some (PT.fd_is_names n)) (hnn : G.funs[nn]? = some (PT.fd_need_names nm)) (his : G.funs[is]? = some PT.fd_is_setting) (h : G.funs[i]? = some (PT.fd_need_setting nn is)) (hS : SubW G "BadNames") (hT : SubW G "BadSetting") (k : Nat) (x y : D) (hx : Good x) (hy : Good y) :
    (isNames x = false → callM G (k + 4) i [Val.d x, Val.d y] = .ex ⟨"BadNames", []⟩ [Val.d x, Val.d y]) ∧ (isNames x = true → isSet (lenD x) y = false → callM G (k + 4) i [Val.d x, Val.d y] = .ex ⟨"BadSetting", []⟩ [Val.d x, Val.d y]) ∧
    (isNames x = true → isSet (lenD x) y = true → callM G (k + 4) i [Val.d x, Val.d y] = .ok (Val.d .none) [Val.d x, Val.d y]) := by
  rw [call_go h ⟨rfl, Nat.le_of_ble_eq_true rfl⟩]
  obtain ⟨N1, N2⟩ := call_need_names hn hm hnn hS k x hx
  refine ⟨fun e => ?_, fun e f => ?_, fun e f => ?_⟩
  · simp [PT.fd_need_setting, PT.mb_need_setting, N2 e]
  · obtain ⟨xs, rfl, _⟩ := isNames_tuple e
    have S := call_is_setting his (k + 2) xs y hy
    rw [show isSet xs.length y = false from f] at S
    simp [PT.fd_need_setting, PT.mb_need_setting, N1 e, S, hT.2, excOf, lN]
  · obtain ⟨xs, rfl, _⟩ := isNames_tuple e
    have S := call_is_setting his (k + 2) xs y hy
    rw [show isSet xs.length y = true from f] at S
    simp [PT.fd_need_setting, PT.mb_need_setting, N1 e, S]
theorem many_step {c : PM.Ctx} (hp : c.pr = [false]) (e0 e2 : Option Val) (v : Int) (x : D) : loopF c (.nm 2) [.set (.nm 1) (.bin .Mult (.v 1) (.c (.int 2)))] x [e0, some (Val.d (.int v)), e2] = .ok .nx [e0, some (Val.d (.int (v * 2))), some (Val.d x)] := by
  have m : okMul v 2 = true := okMul_r (by omega)
  rw [loopF_go]
  simp [hp, m]
def dbl : List D → Int → Int
  | [], v => v
  | _ :: xs, v => dbl xs (v * 2)
theorem many_loop {c : PM.Ctx} (hp : c.pr = [false]) (e0 : Option Val) : ∀ (xs : List D) (v : Int) (e2 : Option Val), ∃ e2', forL (loopF c (.nm 2) [
    .set (.nm 1) (.bin .Mult (.v 1) (.c (.int 2)))]) xs [e0, some (Val.d (.int v)), e2] = .ok .nx [e0, some (Val.d (.int (dbl xs v))), e2'] := fun xs => by
  induction xs with
  | nil => exact fun v e2 => ⟨e2, rfl⟩
  | cons x xs ih =>
    intro v e2
    obtain ⟨e2', h⟩ := ih (v * 2) (some (Val.d x))
    exact ⟨e2', by rw [forL_nx (many_step hp e0 e2 v x)]; exact h⟩
theorem dbl_eq : ∀ (xs : List D) (v : Int), dbl xs v = v * 2 ^ xs.length := fun xs => by
  induction xs with
  | nil => intro v; simp [dbl]
  | cons x xs ih =>
    intro v
    rw [dbl, ih, List.length_cons, Int.pow_succ, Int.mul_assoc, Int.mul_comm 2]
theorem call_many_settings (h : G.funs[i]? = some PT.fd_many_settings) (k : Nat) (xs : List D) : callM G (k + 1) i [Val.d (.tuple xs)] = .ok (Val.d (.int (dbl xs 1))) [Val.d (.tuple xs)] := by
  rw [call_go h ⟨rfl, Nat.le_of_ble_eq_true rfl⟩]
  obtain ⟨e2', L⟩ := many_loop (c := cxP G k [false]) rfl (some (Val.d (.tuple xs))) xs 1 none
  generalize dbl xs 1 = z at L ⊢
  simp [PT.fd_many_settings, PT.mb_many_settings]
  rw [L]
  simp
theorem bits_loop {c : PM.Ctx} (hp : c.pr = [false, false]) (e0 : Option Val) : ∀ (xs : List D) (v : Int) (acc : List D) (e3 : Option Val), acc.length + xs.length ≤ 1000 → ∃ v' e3', forL (loopF c (.nm 3) [
    .expr (.mu .append 2 [(.cmp .Eq (.bin .Mod (.v 1) (.c (.int 2))) (.c (.int 1)))]),
    .set (.nm 1) (.bin .FloorDiv (.v 1) (.c (.int 2)))]) xs [e0, some (Val.d (.int v)), some (OL acc), e3] = .ok .nx [e0, some (Val.d (.int v')), some (OL (acc ++ (loB xs.length v).map .bool)), e3']
  | [], v, acc, e3, _ => ⟨v, e3, by simp [loB]⟩
  | x :: xs, v, acc, e3, hl => by
    rw [List.length_cons] at hl
    obtain ⟨v', e3', h⟩ := bits_loop hp e0 xs (v / 2) (acc ++ [.bool (decide (v % 2 = 1))]) (some (Val.d x)) (by simp; omega)
    refine ⟨v', e3', ?_⟩
    have q : acc.length < 16777216 := by omega
    rw [forL_nx (e1 := [e0, some (Val.d (.int (v / 2))), some (OL (acc ++ [.bool (decide (v % 2 = 1))])), some (Val.d x)])]
    · rw [h, List.length_cons, loB]
      simp
    · rw [loopF_go]
      simp [hp, lN, q]
theorem loB_len : ∀ (n : Nat) (v : Int), (loB n v).length = n
  | 0, _ => rfl
  | n + 1, v => by rw [loB, List.length_cons, loB_len n]
theorem picks_rev {α : Type} (xs : List α) : picks xs none none (some (-1)) = xs.reverse := by
  unfold picks
  rw [PySem.W.krv_bounds]
  show (sliceRange ((xs.length : Int) - 1) (-1) (-1)).filterMap (xs[·]?) = _
  rw [PySem.W.krv_sliceRange, List.filterMap_map]
  have e : (List.range xs.length).filterMap ((xs[·]?) ∘ fun k => xs.length - 1 - k) = (List.range xs.length).filterMap (xs.reverse[·]?) := by
    have g : ∀ l : List Nat, (∀ k ∈ l, k < xs.length) → l.filterMap ((xs[·]?) ∘ fun k => xs.length - 1 - k) = l.filterMap (xs.reverse[·]?) := fun l => by
      induction l with
      | nil => intro _; rfl
      | cons k l ih =>
        intro hk
        have := hk k List.mem_cons_self
        rw [List.filterMap_cons, List.filterMap_cons, ih fun j m => hk j (List.mem_cons_of_mem _ m)]
        show (match xs[xs.length - 1 - k]? with
          | none => _
          | some b => _) = _
        rw [List.getElem?_reverse this]
        cases xs[xs.length - 1 - k]? <;> rfl
    exact g _ fun k hk => List.mem_range.mp hk
  rw [e]
  have h := PySem.W.krv_all xs.reverse.toArray
  simpa using h
end
end PL
end

section
set_option Elab.async false
set_option linter.all false
set_option maxRecDepth 100000
set_option maxHeartbeats 2000000
/-! LT: a setting at a number, a number of a setting, all settings. -/
namespace PL
open PySem PM
def numOk (m : Int) : D → Bool
  | .int v => decide (0 ≤ v) && decide (v < m)
  | _ => false
def numD : D → Int
  | .int v => v
  | _ => 0
def valB (acc : Int) : List D → Int
  | [] => acc
  | .bool b :: r => valB (2 * acc + if b then 1 else 0) r
  | _ :: r => valB acc r
def numOf : D → Int
  | .tuple ys => valB 0 ys
  | _ => 0
theorem dbl_pos (xs : List D) : 1 ≤ dbl xs 1 := by
  rw [dbl_eq, Int.one_mul]
  generalize xs.length = n
  induction n with
  | zero => decide
  | succ n ih => rw [Int.pow_succ]; omega
theorem dbl_len {xs : List D} (h : xs.length ≤ 8) : dbl xs 1 ≤ 256 := by
  rw [dbl_eq, Int.one_mul]
  have : xs.length = 0 ∨ xs.length = 1 ∨ xs.length = 2 ∨ xs.length = 3 ∨ xs.length = 4 ∨ xs.length = 5 ∨ xs.length = 6 ∨ xs.length = 7 ∨ xs.length = 8 := by omega
  rcases this with h | h | h | h | h | h | h | h | h <;> rw [h] <;> decide
section
variable {G : Prog} {i n nm nn iw ms ns : Nat} (hn : G.funs[n]? = some PT.fd_is_name) (hm : G.funs[nm]? = some (PT.fd_is_names n)) (hnn : G.funs[nn]? = some (PT.fd_need_names nm)) (hS : SubW G "BadNames")
include hn hm hnn hS
theorem call_setting_at (hw : G.funs[iw]? = some PT.fd_is_whole) (hms : G.funs[ms]? = some PT.fd_many_settings) (h : G.funs[i]? = some (PT.fd_setting_at nn iw ms)) (hT : SubW G "BadNumber") (k : Nat) (x y : D) (hx : Good x) :
    (isNames x = false → callM G (k + 4) i [Val.d x, Val.d y] = .ex ⟨"BadNames", []⟩ [Val.d x, Val.d y]) ∧ (∀ xs, x = .tuple xs → isNames x = true → numOk (dbl xs 1) y = false → callM G (k + 4) i [Val.d x, Val.d y] = .ex ⟨"BadNumber", []⟩ [Val.d x, Val.d y]) ∧
    (∀ xs, x = .tuple xs → isNames x = true → numOk (dbl xs 1) y = true → callM G (k + 4) i [Val.d x, Val.d y] = .ok (Val.d (bits xs.length (numD y))) [Val.d x, Val.d y]) := by
  rw [call_go h ⟨rfl, Nat.le_of_ble_eq_true rfl⟩]
  obtain ⟨N1, N2⟩ := call_need_names hn hm hnn hS k x hx
  have W := call_is_whole hw (k + 2) y
  refine ⟨fun e => ?_, fun xs ex e f => ?_, fun xs ex e f => ?_⟩
  · simp [PT.fd_setting_at, PT.mb_setting_at, N2 e]
  · subst ex
    have M := call_many_settings hms (k + 2) xs
    generalize dbl xs 1 = z at f M
    cases y with
    | int v =>
      by_cases c1 : 0 ≤ v
      · have c2 : ¬ v < z := by simpa [numOk, c1] using f
        simp [PT.fd_setting_at, PT.mb_setting_at, N1 e, W, isWhole, M, c1, c2, hT.2, excOf, lN]
      · simp [PT.fd_setting_at, PT.mb_setting_at, N1 e, W, isWhole, M, c1, hT.2, excOf, lN]
    | _ => simp [PT.fd_setting_at, PT.mb_setting_at, N1 e, W, isWhole, hT.2, excOf, lN]
  · subst ex
    obtain ⟨_, hx2, hl⟩ := isNames_tuple e
    cases hx2
    have M := call_many_settings hms (k + 2) xs
    generalize dbl xs 1 = z at f M
    cases y with
    | int v =>
      simp only [numOk, Bool.and_eq_true, decide_eq_true_eq] at f
      obtain ⟨v', e3', L⟩ := bits_loop (c := cxP G (k + 3) [false, false]) rfl (some (Val.d (.tuple xs))) xs v [] none (by simp; omega)
      have hlb := loB_len xs.length v
      have hl2 : xs.length ≤ 16777216 := by omega
      simp [PT.fd_setting_at, PT.mb_setting_at, N1 e, W, isWhole, M, f.1, f.2, lN]
      rw [L]
      simp [picks_rev, hlb, lN, hl2, bits, numD]
    | _ => cases f
end
theorem valB_loop {c : PM.Ctx} (hp : c.pr = [false, false]) (e0 e1 : Option Val) : ∀ (ys : List D) (acc : Int) (e3 : Option Val), ys.all isBoolD = true → ∃ e3', forL (loopF c (.nm 3) [
    .set (.nm 2) (.bin .Add (.bin .Mult (.c (.int 2)) (.v 2)) (.bi .int [(.v 3)]))]) ys [e0, e1, some (Val.d (.int acc)), e3] = .ok .nx [e0, e1, some (Val.d (.int (valB acc ys))), e3'] := fun ys => by
  induction ys with
  | nil => exact fun acc e3 _ => ⟨e3, rfl⟩
  | cons y ys ih =>
    intro acc e3 h
    rw [List.all_cons, Bool.and_eq_true] at h
    cases y with
    | bool b =>
      obtain ⟨e3', L⟩ := ih (2 * acc + if b then 1 else 0) (some (Val.d (.bool b))) h.2
      refine ⟨e3', ?_⟩
      have m : okMul 2 acc = true := okMul_l (by omega)
      rw [forL_nx (e1 := [e0, e1, some (Val.d (.int (2 * acc + if b then 1 else 0))), some (Val.d (.bool b))])]
      · exact L
      · rw [loopF_go]
        simp [hp, m]
    | _ => cases h.1
section
variable {G : Prog} {i n nm nn is ns iw ms sa : Nat} (hn : G.funs[n]? = some PT.fd_is_name) (hm : G.funs[nm]? = some (PT.fd_is_names n)) (hnn : G.funs[nn]? = some (PT.fd_need_names nm)) (hS : SubW G "BadNames")
include hn hm hnn hS
theorem call_number_of (his : G.funs[is]? = some PT.fd_is_setting) (hns : G.funs[ns]? = some (PT.fd_need_setting nn is)) (h : G.funs[i]? = some (PT.fd_number_of ns)) (hT : SubW G "BadSetting") (k : Nat) (x y : D) (hx : Good x) (hy : Good y) :
    (isNames x = false → callM G (k + 5) i [Val.d x, Val.d y] = .ex ⟨"BadNames", []⟩ [Val.d x, Val.d y]) ∧ (isNames x = true → isSet (lenD x) y = false → callM G (k + 5) i [Val.d x, Val.d y] = .ex ⟨"BadSetting", []⟩ [Val.d x, Val.d y]) ∧
    (isNames x = true → isSet (lenD x) y = true → callM G (k + 5) i [Val.d x, Val.d y] = .ok (Val.d (.int (numOf y))) [Val.d x, Val.d y]) := by
  rw [call_go h ⟨rfl, Nat.le_of_ble_eq_true rfl⟩]
  obtain ⟨S1, S2, S3⟩ := call_need_setting hn hm hnn his hns hS hT k x y hx hy
  refine ⟨fun e => ?_, fun e f => ?_, fun e f => ?_⟩
  · simp [PT.fd_number_of, PT.mb_number_of, S1 e]
  · simp [PT.fd_number_of, PT.mb_number_of, S2 e f]
  · cases y with
    | tuple ys =>
      have f2 : ys.all isBoolD = true := by
        simp only [isSet, Bool.and_eq_true] at f
        exact f.2
      obtain ⟨e3', L⟩ := valB_loop (c := cxP G (k + 4) [false, false]) rfl (some (Val.d x)) (some (Val.d (.tuple ys))) ys 0 none f2
      simp [PT.fd_number_of, PT.mb_number_of, S3 e f]
      rw [L]
      simp [numOf]
    | _ => cases f
theorem call_all_settings (hw : G.funs[iw]? = some PT.fd_is_whole) (hms : G.funs[ms]? = some PT.fd_many_settings) (hsa : G.funs[sa]? = some (PT.fd_setting_at nn iw ms)) (h : G.funs[i]? = some (PT.fd_all_settings nn sa ms)) (hT : SubW G "BadNumber") (k : Nat) (x : D) (hx : Good x) :
    (isNames x = false → callM G (k + 5) i [Val.d x] = .ex ⟨"BadNames", []⟩ [Val.d x]) ∧ (∀ xs, x = .tuple xs → isNames x = true → callM G (k + 5) i [Val.d x] = .ok (OL ((rangeV 0 (dbl xs 1).toNat).map fun v => bits xs.length (numD v))) [Val.d x]) := by
  rw [call_go h ⟨rfl, Nat.le_of_ble_eq_true rfl⟩]
  obtain ⟨N1, N2⟩ := call_need_names hn hm hnn hS (k + 1) x hx
  refine ⟨fun e => ?_, fun xs ex e => ?_⟩
  · simp [PT.fd_all_settings, PT.mb_all_settings, N2 e]
  · subst ex
    obtain ⟨_, hx2, hl⟩ := isNames_tuple e
    cases hx2
    have M := call_many_settings hms (k + 3) xs
    have b1 := dbl_pos xs
    have b2 := dbl_len hl
    have A := fun y => (call_setting_at hn hm hnn hS hw hms hsa hT k (.tuple xs) y hx).2.2 xs rfl e
    generalize dbl xs 1 = z at M b1 b2 A
    have mem : ∀ y ∈ rangeV 0 z.toNat, numOk z y = true := by
      have g : ∀ (m : Nat) (lo : Int), 0 ≤ lo → lo + m ≤ z → ∀ y ∈ rangeV lo m, numOk z y = true := fun m => by
        induction m with
        | zero => intro lo _ _ y hy; cases hy
        | succ m ih =>
          intro lo h0 h1 y hy
          rw [rangeV] at hy
          rcases List.mem_cons.mp hy with rfl | hy
          · simp only [numOk, Bool.and_eq_true, decide_eq_true_eq]
            omega
          · exact ih (lo + 1) (by omega) (by omega) y hy
      exact g _ 0 (by omega) (by omega)
    have L := doLc_mapD (c := cxP G (k + 4) [false]) (elt := .call sa [.v 0, .v 1]) (t := .nm 1) (cs := []) (own := [1]) (e1 := [some (Val.d (.tuple xs)), none]) (xs := rangeV 0 z.toNat) (fun v => bits xs.length (numD v)) (by simp) (by rw [lN, rangeV_len]; omega) (fun y hy => by
      rw [lcStep0]
      simp [A y (mem y hy)])
    have z1 : -4611686018427387904 ≤ z := by omega
    have z2 : z < 4611686018427387904 := by omega
    simp [PT.fd_all_settings, PT.mb_all_settings, N1 e, M, z1, z2]
    rw [L]
    simp
end
end PL
end

section
set_option Elab.async false
set_option linter.all false
set_option maxRecDepth 100000
set_option maxHeartbeats 2000000
/-! LU: said of settings; the law's own setting. -/
namespace PL
open PySem PM
def toldD (v : D) : D := .tuple [.str "told", v]
def refD (w : String) : D := .tuple [.str "refused", .str (Str.ofString w)]
def saidD (w : Nat) (x y : D) : D := match x with
  | .tuple xs => if isNames (.tuple xs) = true then (match w with
      | 0 => if numOk (dbl xs 1) y = true then toldD (bits xs.length (numD y)) else refD "number"
      | 1 => if isSet xs.length y = true then toldD (.int (numOf y)) else refD "setting"
      | 2 => if isSet xs.length y = true then toldD .none else refD "setting"
      | _ => toldD (.list ((rangeV 0 (dbl xs 1).toNat).map fun v => bits xs.length (numD v)))) else refD "names"
  | _ => refD "names"
def hiB : Nat → Int → Int → List Bool
  | 0, _, _ => []
  | m + 1, h, v => decide (h / 2 ≤ v) :: hiB m (h / 2) (if h / 2 ≤ v then v - h / 2 else v)
theorem bits_hi : ∀ n : Fin 9, ∀ v : Fin 256, v.1 < 2 ^ n.1 → (loB n.1 (v.1 : Int)).reverse = hiB n.1 ((2 ^ n.1 : Nat) : Int) (v.1 : Int) := by decide +kernel
theorem numOf_bits : ∀ n : Fin 9, ∀ v : Fin 256, v.1 < 2 ^ n.1 → numOf (bits n.1 (v.1 : Int)) = (v.1 : Int) := by decide +kernel
section
variable {G : Prog} {i n nm nn is ns iw ms sa no al wd : Nat} (hn : G.funs[n]? = some PT.fd_is_name) (hm : G.funs[nm]? = some (PT.fd_is_names n)) (hnn : G.funs[nn]? = some (PT.fd_need_names nm)) (hS : SubW G "BadNames") (hT : SubW G "BadSetting") (hU : SubW G "BadNumber")
include hn hm hnn hS hT hU
theorem call_said04 (his : G.funs[is]? = some PT.fd_is_setting) (hns : G.funs[ns]? = some (PT.fd_need_setting nn is)) (hno : G.funs[no]? = some (PT.fd_number_of ns)) (hw : G.funs[iw]? = some PT.fd_is_whole) (hms : G.funs[ms]? = some PT.fd_many_settings) (hsa : G.funs[sa]? = some (PT.fd_setting_at nn iw ms)) (hal : G.funs[al]? = some (PT.fd_all_settings nn sa ms)) (hwd : G.funs[wd]? = some PT.fd__law_word)
    (h : G.funs[i]? = some (PT.fd__law_said_f8a3 sa no ns al wd)) (k w : Nat) (hw4 : w < 4) (x y : D) (hx : Good x) (hy : Good y) : callM G (k + 6) i [Val.d (.int w), Val.d x, Val.d y] = .ok (Val.d (saidD w x y)) [Val.d (.int w), Val.d x, Val.d y] := by
  rw [call_go h ⟨rfl, Nat.le_of_ble_eq_true rfl⟩]
  obtain ⟨A1, A2, A3⟩ := call_setting_at hn hm hnn hS hw hms hsa hU (k + 1) x y hx
  obtain ⟨B1, B2, B3⟩ := call_number_of hn hm hnn hS his hns hno hT k x y hx hy
  obtain ⟨C1, C2, C3⟩ := call_need_setting hn hm hnn his hns hS hT (k + 1) x y hx hy
  obtain ⟨D1, D2⟩ := call_all_settings hn hm hnn hS hw hms hsa hal hU k x hx
  have W1 := call_law_word hwd (k + 4) "BadNames" "names" (by simp [wordT]) hS
  have W2 := call_law_word hwd (k + 4) "BadSetting" "setting" (by simp [wordT]) hT
  have W3 := call_law_word hwd (k + 4) "BadNumber" "number" (by simp [wordT]) hU
  have e4 : w = 0 ∨ w = 1 ∨ w = 2 ∨ w = 3 := by omega
  cases e : isNames x with
  | false =>
    have sd : saidD w x y = refD "names" := by
      cases x with
      | tuple xs => show (if isNames (.tuple xs) = true then _ else _) = _; rw [e]; rfl
      | _ => rfl
    rw [sd]
    rcases e4 with rfl | rfl | rfl | rfl <;>
    · simp [PT.fd__law_said_f8a3, PT.mb__law_said_f8a3, A1 e, B1 e, C1 e, D1 e, hS.1, ofS_inj, W1, refD, lN]
  | true =>
    obtain ⟨xs, rfl, _⟩ := isNames_tuple e
    rcases e4 with rfl | rfl | rfl | rfl
    · cases f : numOk (dbl xs 1) y with
      | false => simp [PT.fd__law_said_f8a3, PT.mb__law_said_f8a3, A2 xs rfl e f, hU.1, ofS_inj, W3, refD, lN, saidD, e, f]
      | true => simp [PT.fd__law_said_f8a3, PT.mb__law_said_f8a3, A3 xs rfl e f, toldD, lN, saidD, e, f]
    · cases f : isSet xs.length y with
      | false => simp [PT.fd__law_said_f8a3, PT.mb__law_said_f8a3, B2 e f, hT.1, ofS_inj, W2, refD, lN, saidD, e, f]
      | true => simp [PT.fd__law_said_f8a3, PT.mb__law_said_f8a3, B3 e f, toldD, lN, saidD, e, f]
    · cases f : isSet xs.length y with
      | false => simp [PT.fd__law_said_f8a3, PT.mb__law_said_f8a3, C2 e f, hT.1, ofS_inj, W2, refD, lN, saidD, e, f]
      | true => simp [PT.fd__law_said_f8a3, PT.mb__law_said_f8a3, C3 e f, toldD, lN, saidD, e, f]
    · simp [PT.fd__law_said_f8a3, PT.mb__law_said_f8a3, D2 xs rfl e, toldD, lN, saidD, e]
end
theorem half_loop {c : PM.Ctx} (hp : c.pr = [false, false]) (e0 e1 e2 : Option Val) : ∀ (xs : List D) (v : Int) (e4 : Option Val), ∃ e4', forL (loopF c (.nm 4) [
    .set (.nm 3) (.bin .Mult (.v 3) (.c (.int 2)))]) xs [e0, e1, e2, some (Val.d (.int v)), e4] = .ok .nx [e0, e1, e2, some (Val.d (.int (dbl xs v))), e4'] := fun xs => by
  induction xs with
  | nil => exact fun v e2 => ⟨e2, rfl⟩
  | cons x xs ih =>
    intro v e4
    obtain ⟨e4', h⟩ := ih (v * 2) (some (Val.d x))
    have m : okMul v 2 = true := okMul_r (by omega)
    refine ⟨e4', ?_⟩
    rw [forL_nx (e1 := [e0, e1, e2, some (Val.d (.int (v * 2))), some (Val.d x)])]
    · exact h
    · rw [loopF_go]
      simp [hp, m]
theorem hi_loop {c : PM.Ctx} (hp : c.pr = [false, false]) (e0 : Option Val) : ∀ (xs : List D) (v hf : Int) (acc : List D) (e4 : Option Val), acc.length + xs.length ≤ 1000 → ∃ v' hf' e4', forL (loopF c (.nm 4) [
    .set (.nm 3) (.bin .FloorDiv (.v 3) (.c (.int 2))),
    .expr (.mu .append 2 [(.cmp .GtE (.v 1) (.v 3))]),
    .set (.nm 1) (.ite (.cmp .GtE (.v 1) (.v 3)) (.bin .Sub (.v 1) (.v 3)) (.v 1))]) xs [e0, some (Val.d (.int v)), some (OL acc), some (Val.d (.int hf)), e4] = .ok .nx [e0, some (Val.d (.int v')), some (OL (acc ++ (hiB xs.length hf v).map .bool)), some (Val.d (.int hf')), e4'] := fun xs => by
  induction xs with
  | nil => exact fun v hf acc e4 _ => ⟨v, hf, e4, by simp [hiB]⟩
  | cons x xs ih =>
    intro v hf acc e4 hl
    rw [List.length_cons] at hl
    obtain ⟨v', hf', e4', h⟩ := ih (if hf / 2 ≤ v then v - hf / 2 else v) (hf / 2) (acc ++ [.bool (decide (hf / 2 ≤ v))]) (some (Val.d x)) (by simp; omega)
    have q : acc.length < 16777216 := by omega
    refine ⟨v', hf', e4', ?_⟩
    rw [forL_nx (e1 := [e0, some (Val.d (.int (if hf / 2 ≤ v then v - hf / 2 else v))), some (OL (acc ++ [.bool (decide (hf / 2 ≤ v))])), some (Val.d (.int (hf / 2))), some (Val.d x)])]
    · rw [h, List.length_cons, hiB]
      simp
    · rw [loopF_go]
      by_cases c1 : hf / 2 ≤ v
      · simp [hp, lN, q, c1]
      · simp [hp, lN, q, c1]
section
variable {G : Prog} {i : Nat}
theorem call_law_setting (h : G.funs[i]? = some PT.fd__law_setting) (k n : Nat) (v : Int) (hn : n ≤ 8) : callM G (k + 1) i [Val.d (.int n), Val.d (.int v)] = .ok (Val.d (.tuple ((hiB n ((2 ^ n : Nat) : Int) v).map .bool))) [Val.d (.int n), Val.d (.int v)] := by
  rw [call_go h ⟨rfl, Nat.le_of_ble_eq_true rfl⟩]
  obtain ⟨e4, L1⟩ := half_loop (c := cxP G k [false, false]) rfl (some (Val.d (.int n))) (some (Val.d (.int v))) (some (OL [])) (rangeV 0 n) 1 none
  obtain ⟨v', hf', e4', L2⟩ := hi_loop (c := cxP G k [false, false]) rfl (some (Val.d (.int n))) (rangeV 0 n) v (dbl (rangeV 0 n) 1) [] e4 (by rw [rangeV_len]; simp; omega)
  have e1 : dbl (rangeV 0 n) 1 = ((2 ^ n : Nat) : Int) := by rw [dbl_eq, rangeV_len, Int.one_mul]; simp
  rw [rangeV_len] at L2
  rw [e1] at L1 L2
  generalize ((2 ^ n : Nat) : Int) = z at L1 L2 ⊢
  have h1 : (n : Int) < 4611686018427387904 := by omega
  have h2 : -4611686018427387904 ≤ (n : Int) := by omega
  simp [PT.fd__law_setting, PT.mb__law_setting, h1, h2]
  rw [L1]
  simp [h1, h2]
  rw [L2]
  simp
end
end PL
end

section
set_option Elab.async false
set_option linter.all false
set_option maxRecDepth 100000
set_option maxHeartbeats 2000000
/-! LV: odd numbers, odd names, odd settings. -/
namespace PL
open PySem PM
theorem cut_hi {α : Type} (xs : List α) (n : Nat) : cut xs none (some (n : Int)) = xs.take n := by
  unfold cut
  rw [HT.sIx_nat, HT.sIx_none]
  by_cases h : n ≤ xs.length
  · rw [Nat.min_eq_left h]
    simp
  · rw [Nat.min_eq_right (by omega)]
    simp
    exact (List.take_of_length_le (by omega)).symm
def menuN (m : Int) : List D := [.int m, .int (m + 1), .int (-1), .none, .bool true, .bool false, .str "0", .list [.int 0], .tuple [.int 0], .int 1000000000000000000000000000000, .int (-1000000000000000000000000000000), .dict []]
theorem numOk_no {m v : Int} (h : ¬ (0 ≤ v ∧ v < m)) : numOk m (.int v) = false := by
  show (decide (0 ≤ v) && decide (v < m)) = false
  rw [← Bool.not_eq_true, Bool.and_eq_true, decide_eq_true_eq, decide_eq_true_eq]
  exact h
theorem menuN_ok {m : Int} (h1 : 1 ≤ m) (h2 : m ≤ 256) : ∀ x ∈ menuN m, Good x ∧ numOk m x = false := by
  simp only [menuN, List.forall_mem_cons, List.not_mem_nil, false_implies, implies_true, and_true]
  refine ⟨⟨.int _, numOk_no (by omega)⟩, ⟨.int _, numOk_no (by omega)⟩, ⟨.int _, numOk_no (by omega)⟩, ⟨.non, rfl⟩, ⟨.bool _, rfl⟩, ⟨.bool _, rfl⟩, ⟨good_str _ (by decide +kernel), rfl⟩, ⟨.list (by simp) (by simp; exact .int _), rfl⟩, ⟨good_t1 (.int _), rfl⟩, ⟨.int _, numOk_no (by omega)⟩, ⟨.int _, numOk_no (by omega)⟩, ⟨.dict _, rfl⟩⟩
theorem names_app {xs : List D} {y : D} (h : isName y = false) : isNames (.tuple (xs ++ [y])) = false := by
  simp [isNames, h]
theorem strsD_mp : ∀ r : List Str, strsD (r.map PyData.str) = some r
  | [] => rfl
  | x :: r => by
    rw [List.map_cons]
    simp [strsD_mp r]
theorem strsD_app : ∀ {xs : List D} {ss : List Str} (r : List Str), strsD xs = some ss → strsD (xs ++ r.map .str) = some (ss ++ r)
  | [], ss, r, h => by
    cases h
    exact strsD_mp r
  | x :: xs, ss, r, h => by
    cases x with
    | str z =>
      obtain ⟨t, ht, rfl⟩ := Option.map_eq_some_iff.mp (show (strsD xs).map (z :: ·) = some ss from h)
      simp [strsD_app r ht]
    | _ => cases h
theorem addS_len (X : List Str) (a : Str) : (addS X a).length ≤ X.length + 1 := by
  unfold addS
  split <;> simp
theorem names_twice {xs : List D} (a : Str) : isNames (.tuple (xs ++ [PyData.str a, .str a])) = false := by
  by_cases h : (xs ++ [PyData.str a, .str a]).all isName = true
  · have h2 : xs.all isName = true := by rw [List.all_append, Bool.and_eq_true] at h; exact h.1
    obtain ⟨ss, e, l⟩ := strsD_names h2
    have e2 := strsD_app [a, a] e
    have e2 : strsD (xs ++ [PyData.str a, .str a]) = some (ss ++ [a, a]) := e2
    have d : (dedS (ss ++ [a, a])).length ≤ ss.length + 1 := by
      unfold dedS
      rw [List.foldl_append]
      show (addS (addS (ss.foldl addS []) a) a).length ≤ _
      have m : a ∈ addS (ss.foldl addS []) a := mem_addS.mpr (.inr rfl)
      rw [show addS (addS (ss.foldl addS []) a) a = addS (ss.foldl addS []) a from if_pos m]
      refine Nat.le_trans (addS_len _ _) ?_
      have := ded_len ss
      unfold dedS at this
      omega
    simp only [isNames, e2]
    rw [decide_eq_false (p := (dedS (ss ++ [a, a])).length = (ss ++ [a, a]).length) (by rw [List.length_append]; simp; omega)]
    simp
  · have h : (xs ++ [PyData.str a, .str a]).all isName = false := by rwa [Bool.not_eq_true] at h
    show ((decide ((xs ++ [PyData.str a, .str a]).length ≤ 8) && (xs ++ [PyData.str a, .str a]).all isName) && _) = false
    rw [h, Bool.and_false, Bool.false_and]
def menuS (xs : List D) : List D := [.list xs, .none, .tuple (xs ++ [.str ""]), .tuple (xs ++ [.str "A"]), .str "a", .int 5, .tuple (xs ++ [.int 5]), .tuple (xs ++ [.str "ab", .str "ab"]), .dict []]
theorem good_app {xs ys : List D} (h : Good (.tuple xs)) (hl : xs.length ≤ 100) (g : ∀ y ∈ ys, Good y) (hy : ys.length ≤ 100) : Good (.tuple (xs ++ ys)) :=
  .tuple (by rw [List.length_append]; omega) fun x hx => (List.mem_append.mp hx).elim h.mem (g x)
theorem menuS_ok {xs : List D} (h : Good (.tuple xs)) (hl : xs.length ≤ 8) : ∀ x ∈ menuS xs, Good x ∧ isNames x = false := by
  have gs : ∀ s : String, (PyData.strOk (Str.ofString s) && decide ((Str.ofString s).length ≤ 1000000)) = true → Good (.str (Str.ofString s)) := good_str
  simp only [menuS, List.forall_mem_cons, List.not_mem_nil, false_implies, implies_true, and_true]
  refine ⟨⟨.list (by omega) fun x hx => h.mem hx, rfl⟩, ⟨.non, rfl⟩, ⟨good_app h (by omega) (by simp; exact gs "" (by decide +kernel)) (by simp), names_app (by decide +kernel)⟩, ⟨good_app h (by omega) (by simp; exact gs "A" (by decide +kernel)) (by simp), names_app (by decide +kernel)⟩, ⟨gs "a" (by decide +kernel), rfl⟩, ⟨.int _, rfl⟩, ⟨good_app h (by omega) (by simp; exact .int _) (by simp), names_app rfl⟩,
    ⟨good_app h (by omega) (by simp; exact gs "ab" (by decide +kernel)) (by simp), names_twice _⟩, ⟨.dict _, rfl⟩⟩
def putAt (ys : List D) (r : Nat) (o : D) : D := .tuple (ys.take r ++ (o :: ys.drop (r + 1)))
def lastT (ys : List D) (r : Nat) : List D := if ys = [] then [] else [if r < ys.length then .tuple (ys.take r ++ ys.drop (r + 1)) else .tuple (ys.drop 1)]
def menuT (ys : List D) (r : Nat) : List D := [.tuple (ys ++ [.bool true]), .list ys, .none, .int 5, .str "True", .dict [], putAt ys r (.int 0), putAt ys r (.int 1), putAt ys r .none, putAt ys r (.str "True"), putAt ys r (.tuple [.bool true])] ++ lastT ys r
theorem put_ok {ys : List D} {r : Nat} {o : D} (h : Good (.tuple ys)) (hl : ys.length ≤ 8) (g : Good o) (b : isBoolD o = false) : Good (putAt ys r o) ∧ isSet ys.length (putAt ys r o) = false := by
  refine ⟨.tuple (by simp; omega) fun x hx => ?_, by simp [putAt, isSet, b]⟩
  rcases List.mem_append.mp hx with hx | hx
  · exact h.mem (List.mem_of_mem_take hx)
  · rcases List.mem_cons.mp hx with rfl | hx
    · exact g
    · exact h.mem (List.mem_of_mem_drop hx)
theorem menuT_ok {ys : List D} {r : Nat} (h : Good (.tuple ys)) (hl : ys.length ≤ 8) : ∀ x ∈ menuT ys r, Good x ∧ isSet ys.length x = false := by
  intro x hx
  rcases List.mem_append.mp hx with hx | hx
  · have gs := good_str "True" (by decide +kernel)
    have all : ∀ x ∈ ([.tuple (ys ++ [.bool true]), .list ys, .none, .int 5, .str "True", .dict [], putAt ys r (.int 0), putAt ys r (.int 1), putAt ys r .none, putAt ys r (.str "True"), putAt ys r (.tuple [.bool true])] : List D), Good x ∧ isSet ys.length x = false := by
      simp only [List.forall_mem_cons, List.not_mem_nil, false_implies, implies_true, and_true]
      exact ⟨⟨good_app h (by omega) (by simp; exact .bool _) (by simp), by simp [isSet]⟩, ⟨.list (by omega) fun x hx => h.mem hx, rfl⟩, ⟨.non, rfl⟩, ⟨.int _, rfl⟩, ⟨gs, rfl⟩, ⟨.dict _, rfl⟩, put_ok h hl (.int _) rfl, put_ok h hl (.int _) rfl, put_ok h hl .non rfl, put_ok h hl gs rfl, put_ok h hl (good_t1 (.bool _)) rfl⟩
    exact all x hx
  · unfold lastT at hx
    split at hx
    · cases hx
    · rename_i ne
      have pos : 0 < ys.length := by cases ys with
        | nil => exact absurd rfl ne
        | cons _ _ => simp
      rw [List.mem_singleton.mp hx]
      split
      · rename_i c
        refine ⟨.tuple (by simp; omega) fun x hx => (List.mem_append.mp hx).elim (fun z => h.mem (List.mem_of_mem_take z)) fun z => h.mem (List.mem_of_mem_drop z), ?_⟩
        simp only [isSet, Bool.and_eq_false_iff, decide_eq_false_iff_not]
        left
        simp
        omega
      · refine ⟨.tuple (by simp; omega) fun x hx => h.mem (List.mem_of_mem_drop hx), ?_⟩
        simp only [isSet, Bool.and_eq_false_iff, decide_eq_false_iff_not]
        left
        simp
        omega
section
variable {G : Prog} {i m t : Nat} (hm : G.funs[m]? = some PT.fd__law_mixed) (ht : G.funs[t]? = some (PT.fd__law_take m))
include hm ht
theorem call_odd_number (h : G.funs[i]? = some (PT.fd__law_odd_number t)) (k : Nat) (b : Bool) (n c s : Int) (z : Int) (h0 : 0 ≤ c) (h1 : c < 1000000000000000000) (z1 : 1 ≤ z) (z2 : z ≤ 256) :
    ∃ (n' : Int) (x : D), Good x ∧ numOk z x = false ∧ callM G (k + 3) i [st b n c s, Val.d (.int z)] = .ok (Val.d x) [st b n' (c + 1) s, Val.d (.int z)] := by
  rw [call_go h ⟨rfl, Nat.le_of_ble_eq_true rfl⟩]
  obtain ⟨n1, r, r1, T⟩ := call_take ht hm k b n c s 12 h0 (by omega) (by omega) (by omega)
  have ok := menuN_ok z1 z2
  obtain ⟨x, hx, gx⟩ : ∃ x, L2.atI (menuN z) (r : Int) = some x ∧ (Good x ∧ numOk z x = false) := by
    refine ⟨(menuN z)[r]'(by simp [menuN]; omega), ?_, ok _ (List.getElem_mem _)⟩
    unfold L2.atI L2.ixN
    rw [if_pos (by omega), if_pos (by simp [menuN]; omega)]
    simp
  simp only [menuN] at hx
  refine ⟨n1, x, gx.1, gx.2, ?_⟩
  have e0 : PyData.dict (keysD (mergeD [] [])) = .dict [] := rfl
  simp [PT.fd__law_odd_number, PT.mb__law_odd_number, lN, T, e0, twosK, hx]
theorem call_odd_names (h : G.funs[i]? = some (PT.fd__law_odd_names t)) (k : Nat) (b : Bool) (n c s : Int) (xs : List D) (g : Good (.tuple xs)) (hl : xs.length ≤ 8) (h0 : 0 ≤ c) (h1 : c < 1000000000000000000) :
    ∃ (n' : Int) (x : D), Good x ∧ isNames x = false ∧ callM G (k + 3) i [st b n c s, Val.d (.tuple xs)] = .ok (Val.d x) [st b n' (c + 1) s, Val.d (.tuple xs)] := by
  rw [call_go h ⟨rfl, Nat.le_of_ble_eq_true rfl⟩]
  obtain ⟨n1, r, r1, T⟩ := call_take ht hm k b n c s 9 h0 (by omega) (by omega) (by omega)
  have ok := menuS_ok g hl
  obtain ⟨x, hx, gx⟩ : ∃ x, L2.atI (menuS xs) (r : Int) = some x ∧ (Good x ∧ isNames x = false) := by
    refine ⟨(menuS xs)[r]'(by simp [menuS]; omega), ?_, ok _ (List.getElem_mem _)⟩
    unfold L2.atI L2.ixN
    rw [if_pos (by omega), if_pos (by simp [menuS]; omega)]
    simp
  simp only [menuS] at hx
  refine ⟨n1, x, gx.1, gx.2, ?_⟩
  have e0 : PyData.dict (keysD (mergeD [] [])) = .dict [] := rfl
  have a1 : xs.length + 1 ≤ 16777216 := by omega
  have a2 : xs.length + 2 ≤ 16777216 := by omega
  simp [PT.fd__law_odd_names, PT.mb__law_odd_names, lN, T, e0, twosK, hx, a1, a2]
theorem call_odd_setting (h : G.funs[i]? = some (PT.fd__law_odd_setting t)) (k : Nat) (b : Bool) (n c s : Int) (ys : List D) (g : Good (.tuple ys)) (hl : ys.length ≤ 8) (h0 : 0 ≤ c) (h1 : c < 100000000000000000) :
    ∃ (n' : Int) (x : D), Good x ∧ isSet ys.length x = false ∧ callM G (k + 3) i [st b n c s, Val.d (.tuple ys)] = .ok (Val.d x) [st b n' (c + 1 + 1) s, Val.d (.tuple ys)] := by
  rw [call_go h ⟨rfl, Nat.le_of_ble_eq_true rfl⟩]
  obtain ⟨n1, r, r1, T⟩ := call_take ht hm k b n c s ((ys.length : Int) + 1) h0 (by omega) (by omega) (by omega)
  obtain ⟨n2, q, q1, T2⟩ := call_take ht hm k b n1 (c + 1) s ((menuT ys r).length : Int) (by omega) (by omega) (by simp [menuT]; omega) (by simp [menuT, lastT]; split <;> simp)
  have ok := menuT_ok (r := r) g hl
  obtain ⟨x, hx, gx⟩ : ∃ x, L2.atI (menuT ys r) (q : Int) = some x ∧ (Good x ∧ isSet ys.length x = false) := by
    refine ⟨(menuT ys r)[q]'(by omega), ?_, ok _ (List.getElem_mem _)⟩
    unfold L2.atI L2.ixN
    rw [if_pos (by omega), if_pos (by omega)]
    simp
  have e0 : PyData.dict (keysD (mergeD [] [])) = .dict [] := rfl
  have a1 : ys.length + 1 ≤ 16777216 := by omega
  have ch := cut_hi ys r
  have cl : cut ys (some ((r : Int) + 1)) none = ys.drop (r + 1) := cut_lo ys (r + 1)
  have c1 : cut ys (some 1) none = ys.drop 1 := cut_lo ys 1
  have tl : (ys.take r).length ≤ 8 := by simp; omega
  have dl : (ys.drop (r + 1)).length ≤ 8 := by simp; omega
  refine ⟨n2, x, gx.1, gx.2, ?_⟩
  have m1 : min r ys.length + 1 ≤ 16777216 := by omega
  have m2 : min r ys.length + (ys.length - (r + 1) + 1) ≤ 16777216 := by omega
  have m3 : min r ys.length + 1 + (ys.length - (r + 1)) ≤ 16777216 := by omega
  have m4 : min r ys.length + (ys.length - (r + 1)) ≤ 16777216 := by omega
  have L : ∀ A : List D, doLc (cxP G (k + 2) [true, false]) (.bin .Add (.bin .Add (.sli (.v 1) none (some (.v 2))) (.tup [(.v 4)])) (.sli (.v 1) (some (.bin .Add (.v 2) (.c (.int 1)))) none)) (.nm 4) [] [4] (some ([.int 1, .none, .str "True", .tuple [.bool true]], [some (st b n1 (c + 1) s), some (Val.d (.tuple ys)), some (Val.d (.int r)), some (OL A), none])) =
      .ok (OL ([PyData.int 1, .none, .str "True", .tuple [.bool true]].map fun o => putAt ys r o)) [some (st b n1 (c + 1) s), some (Val.d (.tuple ys)), some (Val.d (.int r)), some (OL A), none] := fun A => by
    rw [doLc_mapD (fun o => putAt ys r o) (by simp) (by rw [lN]; simp) (fun y hy => by
      rw [lcStep0]
      simp [lN, ch, cl, m1, m2, m3, putAt])]
    simp
  by_cases ne : ys = []
  · have em : ys.isEmpty = true := by rw [ne]; rfl
    have e11 : ((menuT ys r).length : Int) = 11 := by simp [menuT, lastT, ne]
    rw [e11] at T2
    simp only [menuT, lastT, if_pos ne, List.append_nil, putAt] at hx
    simp [PT.fd__law_odd_setting, PT.mb__law_odd_setting, lN, T, e0, twosK, ch, cl, a1, m1, m2, m3]
    rw [L]
    simp [lN, em, T2, hx, putAt]
  · have em : ys.isEmpty = false := by cases ys with
      | nil => exact absurd rfl ne
      | cons _ _ => rfl
    have e12 : ((menuT ys r).length : Int) = 12 := by simp [menuT, lastT, ne]
    rw [e12] at T2
    by_cases c5 : r < ys.length
    · have c5' : (r : Int) < (ys.length : Nat) := by omega
      simp only [menuT, lastT, if_neg ne, if_pos c5, List.cons_append, List.nil_append, putAt] at hx
      simp [PT.fd__law_odd_setting, PT.mb__law_odd_setting, lN, T, e0, twosK, ch, cl, a1, m1, m2, m3]
      rw [L]
      simp [lN, em, T2, hx, putAt, c5, c5', ch, cl, m4]
    · have c5' : ¬ (r : Int) < (ys.length : Nat) := by omega
      simp only [menuT, lastT, if_neg ne, if_neg c5, List.cons_append, List.nil_append, putAt, List.drop_one] at hx
      simp [PT.fd__law_odd_setting, PT.mb__law_odd_setting, lN, T, e0, twosK, ch, cl, a1, m1, m2, m3]
      rw [L]
      simp [lN, em, T2, hx, putAt, c5, c5', c1]
end
end PL
end

section
set_option Elab.async false
set_option linter.all false
set_option maxRecDepth 100000
set_option maxHeartbeats 2000000
/-! LW: written settings. -/
namespace PL
open PySem PM
def nBA : D := .tuple [.str "b", .str "a"]
theorem good_strs {l : List String} (h : l.all (fun s => PyData.strOk (Str.ofString s) && decide ((Str.ofString s).length ≤ 1000000)) = true) (hl : l.length ≤ 100) : Good (.tuple (l.map fun s => .str (Str.ofString s))) :=
  .tuple (by rw [List.length_map]; omega) fun x hx => by
    obtain ⟨s, hs, rfl⟩ := List.mem_map.mp hx
    exact good_str s (List.all_eq_true.mp h s hs)
theorem good_bools (l : List Bool) (hl : l.length ≤ 100) : Good (.tuple (l.map .bool)) :=
  .tuple (by rw [List.length_map]; omega) fun x hx => by
    obtain ⟨s, hs, rfl⟩ := List.mem_map.mp hx
    exact .bool _
def tr1 (sd : Nat) : List MS := [
    .ite (.cmp .NotEq (.call sd [(.c (.int 0)), (.v 0), (.v 1)]) (.ite (.isN false (.v 2)) (.tup [(.c (.str "refused")), (.c (.str "number"))]) (.tup [(.c (.str "told")), (.v 2)]))) [
      .ret (.c (.bool false))] []]
def tr2 (sd : Nat) : List MS := [
    .ite (.cmp .NotEq (.call sd [(.c (.int 1)), (.v 0), (.v 3)]) (.ite (.isN false (.v 2)) (.tup [(.c (.str "refused")), (.c (.str "setting"))]) (.tup [(.c (.str "told")), (.v 2)]))) [
      .ret (.c (.bool false))] [],
    .ite (.cmp .NotEq (.call sd [(.c (.int 2)), (.v 0), (.v 3)]) (.ite (.isN false (.v 2)) (.tup [(.c (.str "refused")), (.c (.str "setting"))]) (.tup [(.c (.str "told")), (.c .none)]))) [
      .ret (.c (.bool false))] []]
def tr3 (sd : Nat) : List MS := [
    .ite (.or (.cmp .NotEq (.call sd [(.c (.int 0)), (.v 5), (.c (.int 1))]) (.tup [(.c (.str "told")), (.v 2)])) (.cmp .NotEq (.call sd [(.c (.int 1)), (.v 5), (.v 2)]) (.tup [(.c (.str "told")), (.c (.int 1))]))) [
      .ret (.c (.bool false))] [],
    .ite (.and (.cmp .NotEq (.v 5) (.v 0)) (.cmp .NotEq (.call sd [(.c (.int 2)), (.v 5), (.tup [(.c (.bool true)), (.c (.bool false))])]) (.tup [(.c (.str "refused")), (.c (.str "setting"))]))) [
      .ret (.c (.bool false))] []]
section
variable {G : Prog} {i sd : Nat}
theorem call_truths (h : G.funs[i]? = some (PT.fd__law_truths_right sd)) (k : Nat) (S : ∀ (w : Nat) (x y : D), w < 4 → Good x → Good y → callM G k sd [Val.d (.int w), Val.d x, Val.d y] = .ok (Val.d (saidD w x y)) [Val.d (.int w), Val.d x, Val.d y]) : callM G (k + 1) i [] = .ok (Val.d (.bool true)) [] := by
  rw [call_go h ⟨rfl, Nat.le_of_ble_eq_true rfl⟩]
  have gBA : Good (.tuple [.str "b", .str "a"]) := good_strs (l := ["b", "a"]) (by decide +kernel) (by simp)
  have gA : Good (.tuple [.str "a"]) := good_strs (l := ["a"]) (by decide +kernel) (by simp)
  have gABC : Good (.tuple [.str "a", .str "b", .str "c"]) := good_strs (l := ["a", "b", "c"]) (by decide +kernel) (by simp)
  have S0 := fun x y (g : Good x) (f : Good y) => S 0 x y (by omega) g f
  have S1 := fun x y (g : Good x) (f : Good y) => S 1 x y (by omega) g f
  have S2 := fun x y (g : Good x) (f : Good y) => S 2 x y (by omega) g f
  simp at S0 S1 S2
  have r1 : ∀ v, Good v → eqD (saidD 0 (.tuple [.str "b", .str "a"]) v) (.tuple [.str "refused", .str "number"]) = some true → ∀ o1 o2 o3 o4 o5, loopF (cxP G k []) (.tup [.nm 1, .nm 2]) (tr1 sd) (.tuple [v, .none]) [some (Val.d (.tuple [.str "b", .str "a"])), o1, o2, o3, o4, o5] = .ok .nx [some (Val.d (.tuple [.str "b", .str "a"])), some (Val.d v), some (Val.d .none), o3, o4, o5] := fun v g q o1 o2 o3 o4 o5 => by
    rw [loopF_go]
    simp [tr1, S0 _ v gBA g, q, lN]
  have r2 : ∀ v l, Good v → eqD (saidD 0 (.tuple [.str "b", .str "a"]) v) (.tuple [.str "told", .tuple l]) = some true → ∀ o1 o2 o3 o4 o5, loopF (cxP G k []) (.tup [.nm 1, .nm 2]) (tr1 sd) (.tuple [v, .tuple l]) [some (Val.d (.tuple [.str "b", .str "a"])), o1, o2, o3, o4, o5] = .ok .nx [some (Val.d (.tuple [.str "b", .str "a"])), some (Val.d v), some (Val.d (.tuple l)), o3, o4, o5] := fun v l g q o1 o2 o3 o4 o5 => by
    rw [loopF_go]
    simp [tr1, S0 _ v gBA g, q, lN]
  have r3 : ∀ v, Good v → eqD (saidD 1 (.tuple [.str "b", .str "a"]) v) (.tuple [.str "refused", .str "setting"]) = some true → eqD (saidD 2 (.tuple [.str "b", .str "a"]) v) (.tuple [.str "refused", .str "setting"]) = some true → ∀ o1 o2 o3 o4 o5, loopF (cxP G k []) (.tup [.nm 3, .nm 2]) (tr2 sd) (.tuple [v, .none]) [some (Val.d (.tuple [.str "b", .str "a"])), o1, o2, o3, o4, o5] = .ok .nx [some (Val.d (.tuple [.str "b", .str "a"])), o1, some (Val.d .none), some (Val.d v), o4, o5] := fun v g q q' o1 o2 o3 o4 o5 => by
    rw [loopF_go]
    simp [tr2, S1 _ v gBA g, S2 _ v gBA g, q, q', lN]
  have r4 : ∀ v (j : Int), Good v → eqD (saidD 1 (.tuple [.str "b", .str "a"]) v) (.tuple [.str "told", .int j]) = some true → eqD (saidD 2 (.tuple [.str "b", .str "a"]) v) (.tuple [.str "told", .none]) = some true → ∀ o1 o2 o3 o4 o5, loopF (cxP G k []) (.tup [.nm 3, .nm 2]) (tr2 sd) (.tuple [v, .int j]) [some (Val.d (.tuple [.str "b", .str "a"])), o1, o2, o3, o4, o5] = .ok .nx [some (Val.d (.tuple [.str "b", .str "a"])), o1, some (Val.d (.int j)), some (Val.d v), o4, o5] := fun v j g q q' o1 o2 o3 o4 o5 => by
    rw [loopF_go]
    simp [tr2, S1 _ v gBA g, S2 _ v gBA g, q, q', lN]
  have r5 : ∀ (x l : D) (m : Bool), Good x → Good l → eqD (saidD 0 x (.int 1)) (.tuple [.str "told", l]) = some true → eqD (saidD 1 x l) (.tuple [.str "told", .int 1]) = some true → eqD x (.tuple [.str "b", .str "a"]) = some m → (m = true ∨ eqD (saidD 2 x (.tuple [.bool true, .bool false])) (.tuple [.str "refused", .str "setting"]) = some true) → ∀ o1 o2 o3 o4 o5, loopF (cxP G k []) (.tup [.nm 5, .nm 2]) (tr3 sd) (.tuple [x, l]) [some (Val.d (.tuple [.str "b", .str "a"])), o1, o2, o3, o4, o5] = .ok .nx [some (Val.d (.tuple [.str "b", .str "a"])), o1, some (Val.d l), o3, o4, some (Val.d x)] := fun x l m gx gl q1 q2 q3 q4 o1 o2 o3 o4 o5 => by
    have TF : Good (.tuple [.bool true, .bool false]) := good_bools [true, false] (by simp)
    rw [loopF_go]
    cases m with
    | true => simp [tr3, S0 x _ gx (.int 1), S1 x l gx gl, q1, q2, q3, lN]
    | false =>
      have q4 := q4.resolve_left (by simp)
      simp [tr3, S0 x _ gx (.int 1), S1 x l gx gl, S2 x _ gx TF, q1, q2, q3, q4, lN]
  have b00 := good_bools [false, false] (by simp)
  have b01 := good_bools [false, true] (by simp)
  have b10 := good_bools [true, false] (by simp)
  have b1 := good_bools [true] (by simp)
  have b001 := good_bools [false, false, true] (by simp)
  simp only [List.map_cons, List.map_nil] at b00 b01 b10 b1 b001
  unfold tr1 at r1 r2
  unfold tr2 at r3 r4
  unfold tr3 at r5
  simp [PT.fd__law_truths_right, PT.mb__law_truths_right, lN]
  rw [forL_nx (r2 (.int 0) [.bool false, .bool false] (.int 0) (by decide +kernel) _ _ _ _ _), forL_nx (r1 (.bool false) (.bool _) (by decide +kernel) _ _ _ _ _), forL_nx (r2 (.int 0) [.bool false, .bool false] (.int 0) (by decide +kernel) _ _ _ _ _), forL_nx (r2 (.int 1) [.bool false, .bool true] (.int _) (by decide +kernel) _ _ _ _ _), forL_nx (r1 (.bool true) (.bool _) (by decide +kernel) _ _ _ _ _)]
  simp [lN]
  rw [forL_nx (r4 (.tuple [.bool true, .bool false]) 2 b10 (by decide +kernel) (by decide +kernel) _ _ _ _ _), forL_nx (r3 (.tuple [.int 1, .int 0]) (good_t2 (.int _) (.int _)) (by decide +kernel) (by decide +kernel) _ _ _ _ _), forL_nx (r4 (.tuple [.bool true, .bool false]) 2 b10 (by decide +kernel) (by decide +kernel) _ _ _ _ _), forL_nx (r3 (.tuple [.int 0, .int 1]) (good_t2 (.int _) (.int _)) (by decide +kernel) (by decide +kernel) _ _ _ _ _), forL_nx (r4 (.tuple [.bool false, .bool true]) 1 b01 (by decide +kernel) (by decide +kernel) _ _ _ _ _)]
  simp [lN, walkV_pk']
  rw [forL_nx (r5 (.tuple [.str "a"]) (.tuple [.bool true]) false gA b1 (by decide +kernel) (by decide +kernel) (by decide +kernel) (.inr (by decide +kernel)) _ _ _ _ _), forL_nx (r5 (.tuple [.str "b", .str "a"]) (.tuple [.bool false, .bool true]) true gBA b01 (by decide +kernel) (by decide +kernel) (by decide +kernel) (.inl rfl) _ _ _ _ _), forL_nx (r5 (.tuple [.str "a", .str "b", .str "c"]) (.tuple [.bool false, .bool false, .bool true]) false gABC b001 (by decide +kernel) (by decide +kernel) (by decide +kernel) (.inr (by decide +kernel)) _ _ _ _ _), forL_nx (r5 (.tuple [.str "a"]) (.tuple [.bool true]) false gA b1 (by decide +kernel) (by decide +kernel) (by decide +kernel) (.inr (by decide +kernel)) _ _ _ _ _)]
  simp
end
end PL
end

section
set_option Elab.async false
set_option linter.all false
set_option maxRecDepth 100000
set_option maxHeartbeats 2000000
/-! LX: plain facts for k04. -/
namespace PL
open PySem PM
def reprOk (x : D) : Bool := x.canLay0 && x.showable && decide (x.depth ≤ 64) && decide (x.shown.length ≤ lineN)
theorem reprV_ok {x : D} (h : reprOk x = true) : reprV x = some (Val.d (.str x.shown)) := if_pos h
@[simp] theorem repr_L {xs : List D} : biD .repr [.list xs] = reprV (.list xs) := (rfl)
@[simp] theorem repr_T {xs : List D} : biD .repr [.tuple xs] = reprV (.tuple xs) := (rfl)
/-! ### lengths of what is shown -/
theorem shownAll_mem : ∀ {xs : List D} {t : Str}, t ∈ PyData.shownAll xs → ∃ x ∈ xs, t = x.shown
  | [], _, h => by simp [PyData.shownAll] at h
  | x :: xs, t, h => by
    simp only [PyData.shownAll] at h
    rcases List.mem_cons.mp h with rfl | h
    · exact ⟨x, List.mem_cons_self, rfl⟩
    · obtain ⟨y, m, e⟩ := shownAll_mem h
      exact ⟨y, List.mem_cons_of_mem _ m, e⟩
theorem shownAll_len : ∀ xs : List D, (PyData.shownAll xs).length = xs.length
  | [] => by simp [PyData.shownAll]
  | x :: xs => by simp only [PyData.shownAll, List.length_cons, shownAll_len xs]
theorem piled_le {b : Nat} : ∀ {ts : List Str}, (∀ t ∈ ts, t.length ≤ b) → piled ts ≤ ts.length * (b + 2)
  | [], _ => by simp [piled]
  | t :: ts, h => by
    have h1 := h t List.mem_cons_self
    have h2 := piled_le (ts := ts) fun y m => h y (List.mem_cons_of_mem _ m)
    rw [List.length_cons, Nat.add_mul]
    simp only [piled, List.map_cons, List.sum_cons] at h2 ⊢
    omega
theorem tuple_le {b : Nat} {ts : List Str} (h : ∀ t ∈ ts, t.length ≤ b) : (tupleText ts).length ≤ ts.length * (b + 2) + 3 := by
  have j : (Str.join ", " ts).length ≤ piled ts := by
    by_cases ne : ts = []
    · subst ne; decide +kernel
    · have := join_length_add ts ne; omega
  have p := piled_le h
  have e0 : (Str.ofString "(").length = 1 := rfl
  have e1 : (Str.ofString ")").length = 1 := rfl
  have e2 : (Str.ofString ",)").length = 2 := rfl
  unfold tupleText
  rw [strLen_append, strLen_append]
  split <;> omega
theorem from_le {b : Nat} : ∀ {ts : List Str} {k : Nat} {acc : Str}, (∀ t ∈ ts, t.length ≤ b) → (textFrom k acc ts).length ≤ acc.length + ts.length * (b + 2)
  | [], k, acc, _ => by simp [textFrom]
  | t :: ts, k, acc, h => by
    have h1 := h t List.mem_cons_self
    have h2 := from_le (ts := ts) (k := k + 1) (acc := acc ++ (if k > 0 then ", " else "" : String) ++ t) fun y m => h y (List.mem_cons_of_mem _ m)
    rw [strLen_append, strLen_append] at h2
    have e1 : (Str.ofString ", ").length = 2 := rfl
    have e2 : (Str.ofString "").length = 0 := rfl
    rw [List.length_cons, Nat.add_mul]
    show (textFrom (k + 1) (acc ++ (if k > 0 then ", " else "" : String) ++ t) ts).length ≤ _
    split at h2 <;> simp_all <;> omega
theorem list_le {b : Nat} {ts : List Str} (h : ∀ t ∈ ts, t.length ≤ b) : (listText ts).length ≤ ts.length * (b + 2) + 2 := by
  have := from_le (k := 0) (acc := "[") h
  have e0 : (Str.ofString "[").length = 1 := rfl
  have e1 : (Str.ofString "]").length = 1 := rfl
  unfold listText
  rw [strLen_append]
  omega
theorem shown_tuple {b : Nat} {xs : List D} (h : ∀ x ∈ xs, x.shown.length ≤ b) : (PyData.tuple xs).shown.length ≤ xs.length * (b + 2) + 3 := by
  simp only [PyData.shown]
  rw [← shownAll_len xs]
  exact tuple_le fun t ht => by
    obtain ⟨x, m, rfl⟩ := shownAll_mem ht
    exact h x m
theorem shown_list {b : Nat} {xs : List D} (h : ∀ x ∈ xs, x.shown.length ≤ b) : (PyData.list xs).shown.length ≤ xs.length * (b + 2) + 2 := by
  simp only [PyData.shown]
  rw [← shownAll_len xs]
  exact list_le fun t ht => by
    obtain ⟨x, m, rfl⟩ := shownAll_mem ht
    exact h x m
theorem shown_bool (b : Bool) : (PyData.bool b).shown.length ≤ 5 := by cases b <;> decide +kernel
theorem shown_bits {n : Nat} (v : Int) (h : n ≤ 8) : (bits n v).shown.length ≤ 100 := by
  have := shown_tuple (b := 5) (xs := (loB n v).reverse.map .bool) fun x hx => by
    obtain ⟨b, _, rfl⟩ := List.mem_map.mp hx
    exact shown_bool b
  unfold bits
  rw [List.length_map, List.length_reverse, loB_len] at this
  omega
theorem lay_bools : ∀ l : List Bool, PyData.canLayAll0 (l.map .bool) = true ∧ PyData.showableAll (l.map .bool) = true ∧ PyData.depthAll (l.map .bool) = 0
  | [] => by simp [PyData.canLayAll0, PyData.showableAll, PyData.depthAll]
  | b :: r => by
    obtain ⟨h1, h2, h3⟩ := lay_bools r
    rw [List.map_cons]
    simp [PyData.canLayAll0, PyData.showableAll, PyData.depthAll, PyData.canLay0, PyData.showable, PyData.depth, h1, h2, h3]
theorem lay_bits (n : Nat) (v : Int) : (bits n v).canLay0 = true ∧ (bits n v).showable = true ∧ (bits n v).depth = 1 := by
  obtain ⟨h1, h2, h3⟩ := lay_bools (loB n v).reverse
  unfold bits
  simp only [PyData.canLay0, PyData.showable, PyData.depth]
  exact ⟨h1, h2, by rw [h3]⟩
theorem told_len : (PyData.str (Str.ofString "told")).shown.length ≤ 42 := by
  simp only [PyData.shown]
  decide +kernel
theorem told_ok : PyData.strOk (Str.ofString "told") = true := by decide +kernel
theorem ok_bits {n : Nat} (v : Int) (h : n ≤ 8) : reprOk (.tuple [.str "told", bits n v]) = true := by
  obtain ⟨h1, h2, h3⟩ := lay_bits n v
  have l := shown_tuple (b := 100) (xs := [.str "told", bits n v]) (by
    simp only [List.forall_mem_cons, List.not_mem_nil, false_implies, implies_true, and_true]
    exact ⟨Nat.le_trans told_len (by omega), shown_bits v h⟩)
  have e : lineN = 16777216 := lN
  unfold reprOk
  have l2 : (PyData.tuple [.str "told", bits n v]).shown.length ≤ lineN := by
    rw [e]
    simp only [List.length_cons, List.length_nil] at l
    omega
  simp [PyData.canLay0, PyData.canLayAll0, PyData.showable, PyData.showableAll, PyData.depth, PyData.depthAll, h1, h2, h3, told_ok, l2]
theorem int_len : ∀ v : Fin 256, ((toString ((v.1 : Nat) : Int) : String) : Str).length ≤ 10 := by decide +kernel
theorem ok_num {v : Nat} (h : v < 256) : reprOk (.tuple [.str "told", .int (v : Int)]) = true := by
  have hi : (PyData.int (v : Int)).shown.length ≤ 10 := by
    simp only [PyData.shown]
    exact int_len ⟨v, h⟩
  have l := shown_tuple (b := 100) (xs := [.str "told", .int (v : Int)]) (by
    simp only [List.forall_mem_cons, List.not_mem_nil, false_implies, implies_true, and_true]
    exact ⟨Nat.le_trans told_len (by omega), Nat.le_trans hi (by omega)⟩)
  have e : lineN = 16777216 := lN
  have lg : Nat.log2 v < 1920 := Nat.lt_of_le_of_lt (Nat.log2_le_self v) (by omega)
  unfold reprOk
  have l2 : (PyData.tuple [.str "told", .int (v : Int)]).shown.length ≤ lineN := by
    rw [e]
    simp only [List.length_cons, List.length_nil] at l
    omega
  simp [PyData.canLay0, PyData.canLayAll0, PyData.showable, PyData.showableAll, PyData.depth, PyData.depthAll, told_ok, l2, lg]
theorem lay_rows (n : Nat) : ∀ vs : List D, PyData.canLayAll0 (vs.map fun v => bits n (numD v)) = true ∧ PyData.showableAll (vs.map fun v => bits n (numD v)) = true ∧ PyData.depthAll (vs.map fun v => bits n (numD v)) ≤ 1
  | [] => by simp [PyData.canLayAll0, PyData.showableAll, PyData.depthAll]
  | b :: r => by
    obtain ⟨h1, h2, h3⟩ := lay_rows n r
    obtain ⟨g1, g2, g3⟩ := lay_bits n (numD b)
    rw [List.map_cons]
    simp only [PyData.canLayAll0, PyData.showableAll, PyData.depthAll, h1, h2, g1, g2, g3, Bool.and_self, true_and]
    omega
theorem ok_all {n : Nat} (h : n ≤ 8) {vs : List D} (hl : vs.length ≤ 256) : reprOk (.list (vs.map fun v => bits n (numD v))) = true := by
  obtain ⟨h1, h2, h3⟩ := lay_rows n vs
  have l := shown_list (b := 100) (xs := vs.map fun v => bits n (numD v)) fun x hx => by
    obtain ⟨v, _, rfl⟩ := List.mem_map.mp hx
    exact shown_bits _ h
  have e : lineN = 16777216 := lN
  rw [List.length_map] at l
  have l2 : (PyData.list (vs.map fun v => bits n (numD v))).shown.length ≤ lineN := by
    rw [e]
    have : vs.length * 102 ≤ 256 * 102 := Nat.mul_le_mul_right _ hl
    omega
  unfold reprOk
  rw [decide_eq_true l2]
  simp only [PyData.canLay0, PyData.showable, PyData.depth, h1, h2, Bool.and_true, Bool.true_and]
  exact decide_eq_true (by omega)
end PL
end

section
set_option Elab.async false
set_option linter.all false
set_option maxRecDepth 100000
set_option maxHeartbeats 2000000
/-! LX: plain facts for k04. -/
namespace PL
open PySem PM
theorem names_ok {ls : List (List Nat)} (hv : ∀ l ∈ ls, Valid l) (nd : ls.Nodup) (hl : ls.length ≤ 8) : isNames (.tuple (ls.map nmD)) = true := by
  have e : strsD (ls.map nmD) = some (ls.map W) := strsD_mapS (f := W)
  have n2 : (ls.map W).Nodup := by
    unfold List.Nodup
    rw [List.pairwise_map]
    exact nd.imp fun h z => h (W_inj z)
  have l2 : (dedS (ls.map W)).length = (ls.map W).length := len_of_mem (nd_foldS List.nodup_nil) n2 fun z => by
    unfold dedS
    rw [mem_foldS]
    simp
  have a : (ls.map nmD).all isName = true := by
    rw [List.all_eq_true]
    intro x hx
    obtain ⟨l, m, rfl⟩ := List.mem_map.mp hx
    exact (isName_nm l).mpr (hv l m)
  unfold isNames
  simp only [e, a, l2]
  simp [hl]
theorem good_names {ls : List (List Nat)} (hv : ∀ l ∈ ls, Valid l) (hl : ls.length ≤ 8) : Good (.tuple (ls.map nmD)) := .tuple (by rw [List.length_map]; omega) fun x hx => by
  obtain ⟨l, m, rfl⟩ := List.mem_map.mp hx
  exact good_nm (hv l m)
theorem most_at {n : Nat} (h : n ≤ 8) : L2.atI [PyData.int 1, .int 2, .int 4, .int 8, .int 16, .int 32, .int 64, .int 128, .int 256] (n : Int) = some (.int ((2 ^ n : Nat) : Int)) ∧ 1 ≤ 2 ^ n ∧ 2 ^ n ≤ 256 := by
  have : n = 0 ∨ n = 1 ∨ n = 2 ∨ n = 3 ∨ n = 4 ∨ n = 5 ∨ n = 6 ∨ n = 7 ∨ n = 8 := by omega
  rcases this with rfl | rfl | rfl | rfl | rfl | rfl | rfl | rfl | rfl <;> exact ⟨rfl, by decide, by decide⟩
theorem bits_hi' {n v : Nat} (h : n ≤ 8) (hv : v < 2 ^ n) : PyData.tuple ((hiB n ((2 ^ n : Nat) : Int) (v : Int)).map .bool) = bits n (v : Int) := by
  have := (most_at h).2.2
  have := bits_hi ⟨n, by omega⟩ ⟨v, by omega⟩ hv
  unfold bits
  rw [this]
theorem bits_set (n : Nat) (v : Int) : isSet n (bits n v) = true ∧ Good (bits n v) ∨ n > 100 := by
  by_cases h : n ≤ 100
  · left
    refine ⟨?_, good_bools _ (by rw [List.length_reverse, loB_len]; exact h)⟩
    simp [bits, isSet, loB_len, isBoolD]
  · right; omega
theorem mem_rangeV : ∀ {m : Nat} {lo : Nat} {y : D}, y ∈ rangeV (lo : Int) m → ∃ j : Nat, y = .int j ∧ lo ≤ j ∧ j < lo + m
  | 0, _, _, h => by cases h
  | m + 1, lo, y, h => by
    rw [rangeV] at h
    rcases List.mem_cons.mp h with rfl | h
    · exact ⟨lo, rfl, by omega, by omega⟩
    · have h : y ∈ rangeV ((lo + 1 : Nat) : Int) m := by simpa using h
      obtain ⟨j, e, a, b⟩ := mem_rangeV h
      exact ⟨j, e, by omega, by omega⟩
end PL
end

section
set_option Elab.async false
set_option linter.all false
set_option maxRecDepth 100000
set_option maxHeartbeats 0
/-! The machine's text of a law's defs, checked against the row (printed by gen.py). -/
namespace Lk04
open PySem PySem.Spec PyProof.Rows L2 PM
def top (i : Nat) : Stmt := PySem.Challenge.pw_readyhall_k04_settings.main.body.getD i (.Pass ⟨0, 0, 0, 0⟩)
def d_is_whole : DefT := ⟨PT.fd_is_whole, "is_whole", "is_whole", defArgs (top 23), defBody (top 23), defScope (top 23), ["thing"], ["thing"]⟩
def d_is_name : DefT := ⟨PT.fd_is_name, "is_name", "is_name", defArgs (top 24), defBody (top 24), defScope (top 24), ["thing", "sign"], ["thing"]⟩
def d_is_names : DefT := ⟨(PT.fd_is_names 1), "is_names", "is_names", defArgs (top 25), defBody (top 25), defScope (top 25), ["thing", "name"], ["thing"]⟩
def d_need_names : DefT := ⟨(PT.fd_need_names 2), "need_names", "need_names", defArgs (top 26), defBody (top 26), defScope (top 26), ["thing"], ["thing"]⟩
def d_is_setting : DefT := ⟨PT.fd_is_setting, "is_setting", "is_setting", defArgs (top 28), defBody (top 28), defScope (top 28), ["names", "thing", "truth"], ["names", "thing"]⟩
def d_need_setting : DefT := ⟨(PT.fd_need_setting 3 4), "need_setting", "need_setting", defArgs (top 29), defBody (top 29), defScope (top 29), ["names", "thing"], ["names", "thing"]⟩
def d_many_settings : DefT := ⟨PT.fd_many_settings, "many_settings", "many_settings", defArgs (top 30), defBody (top 30), defScope (top 30), ["names", "found", "name"], ["names"]⟩
def d_setting_at : DefT := ⟨(PT.fd_setting_at 3 0 6), "setting_at", "setting_at", defArgs (top 31), defBody (top 31), defScope (top 31), ["names", "number", "found", "name"], ["names", "number"]⟩
def d_number_of : DefT := ⟨(PT.fd_number_of 5), "number_of", "number_of", defArgs (top 32), defBody (top 32), defScope (top 32), ["names", "setting", "found", "truth"], ["names", "setting"]⟩
def d_all_settings : DefT := ⟨(PT.fd_all_settings 3 7 6), "all_settings", "all_settings", defArgs (top 33), defBody (top 33), defScope (top 33), ["names", "number"], ["names"]⟩
def d__law_mixed : DefT := ⟨PT.fd__law_mixed, "_law_mixed", "_law_mixed", defArgs (top 35), defBody (top 35), defScope (top 35), ["_law_number", "_law_k"], ["_law_number", "_law_k"]⟩
def d__law_stream : DefT := ⟨(PT.fd__law_stream 10), "_law_stream", "_law_stream", defArgs (top 36), defBody (top 36), defScope (top 36), ["_law_cell", "_law_k"], ["_law_cell", "_law_k"]⟩
def d__law_take : DefT := ⟨(PT.fd__law_take 10), "_law_take", "_law_take", defArgs (top 37), defBody (top 37), defScope (top 37), ["_law_stream_here", "_law_many", "_law_number"], ["_law_stream_here", "_law_many"]⟩
def d__law_names_by : DefT := ⟨(PT.fd__law_names_by 12), "_law_names_by", "_law_names_by", defArgs (top 38), defBody (top 38), defScope (top 38), ["_law_stream_here", "_law_many", "_law_letters", "_law_start", "_law_step", "_law_found", "_law_k", "_law_name", "_law_turn"], ["_law_stream_here", "_law_many"]⟩
def d__law_word : DefT := ⟨PT.fd__law_word, "_law_word", "_law_word", defArgs (top 39), defBody (top 39), defScope (top 39), ["_law_error", "_law_menu", "_law_found", "_law_word_here", "_law_fits"], ["_law_error"]⟩
def d__law_said : DefT := ⟨(PT.fd__law_said_f8a3 7 8 5 9 14), "_law_said", "_law_said", defArgs (top 40), defBody (top 40), defScope (top 40), ["_law_which", "_law_names", "_law_thing", "_law_caught", "_law_found", "_law_error"], ["_law_which", "_law_names", "_law_thing"]⟩
def d__law_setting : DefT := ⟨PT.fd__law_setting, "_law_setting", "_law_setting", defArgs (top 41), defBody (top 41), defScope (top 41), ["_law_many", "_law_number", "_law_found", "_law_half", "_law_turn"], ["_law_many", "_law_number"]⟩
def d__law_odd_setting : DefT := ⟨(PT.fd__law_odd_setting 12), "_law_odd_setting", "_law_odd_setting", defArgs (top 42), defBody (top 42), defScope (top 42), ["_law_stream_here", "_law_setting_here", "_law_at", "_law_menu", "_law_odd"], ["_law_stream_here", "_law_setting_here"]⟩
def d__law_odd_number : DefT := ⟨(PT.fd__law_odd_number 12), "_law_odd_number", "_law_odd_number", defArgs (top 43), defBody (top 43), defScope (top 43), ["_law_stream_here", "_law_most", "_law_menu"], ["_law_stream_here", "_law_most"]⟩
def d__law_odd_names : DefT := ⟨(PT.fd__law_odd_names 12), "_law_odd_names", "_law_odd_names", defArgs (top 44), defBody (top 44), defScope (top 44), ["_law_stream_here", "_law_names", "_law_menu"], ["_law_stream_here", "_law_names"]⟩
def d__law_truths_right : DefT := ⟨(PT.fd__law_truths_right 15), "_law_truths_right", "_law_truths_right", defArgs (top 45), defBody (top 45), defScope (top 45), ["_law_names", "_law_number", "_law_due", "_law_setting_here", "_law_rows", "_law_some"], []⟩
def d_law : DefT := ⟨(PT.fd_law_b4f9 20 11 13 12 16 15 9 17 18 19), "law", "law", defArgs (top 46), defBody (top 46), defScope (top 46), ["_law_script", "_law_k", "_law_cell", "_law_stream_here", "_law_names", "_law_most", "_law_number", "_law_setting_here", "_law_turn", "_law_found", "_law_at", "_law_odd", "_law_bad", "_law_second", "_law_which"], ["_law_script"]⟩
def defs0 : List (Str × DefT) := [("is_whole", d_is_whole), ("is_name", d_is_name), ("is_names", d_is_names), ("need_names", d_need_names), ("is_setting", d_is_setting), ("need_setting", d_need_setting), ("many_settings", d_many_settings), ("setting_at", d_setting_at), ("number_of", d_number_of), ("all_settings", d_all_settings), ("_law_mixed", d__law_mixed), ("_law_stream", d__law_stream), ("_law_take", d__law_take), ("_law_names_by", d__law_names_by), ("_law_word", d__law_word), ("_law_said", d__law_said), ("_law_setting", d__law_setting), ("_law_odd_setting", d__law_odd_setting), ("_law_odd_number", d__law_odd_number), ("_law_odd_names", d__law_odd_names), ("_law_truths_right", d__law_truths_right), ("law", d_law)]
def defs : List (Str × DefT) := defs0
def cls0 : List (Str × Bool) := [("ReadyError", true), ("BadName", true), ("BadNames", true), ("BadSaying", true), ("BadSetting", true), ("BadNumber", true), ("BadWeights", true), ("BadOrder", true), ("BadLine", true), ("NoSetting", true), ("TooGreat", true), ("NoSaying", true), ("Twice", true), ("Full", true), ("BadAsked", true), ("BadText", false), ("BadWeb", false), ("BadPaper", false)]
def cls : List (Str × Bool) := cls0
def subs0 : List (Str × List Str) := [("ReadyError", ["ReadyError"]), ("BadName", ["BadName", "ReadyError"]), ("BadNames", ["BadNames", "ReadyError"]), ("BadSaying", ["BadSaying", "ReadyError"]), ("BadSetting", ["BadSetting", "ReadyError"]), ("BadNumber", ["BadNumber", "ReadyError"]), ("BadWeights", ["BadWeights", "ReadyError"]), ("BadOrder", ["BadOrder", "ReadyError"]), ("BadLine", ["BadLine", "ReadyError"]), ("NoSetting", ["NoSetting", "ReadyError"]), ("TooGreat", ["TooGreat", "ReadyError"]), ("NoSaying", ["NoSaying", "ReadyError"]), ("Twice", ["Twice", "ReadyError"]), ("Full", ["Full", "ReadyError"]), ("BadAsked", ["BadAsked", "ReadyError"]), ("BadText", ["BadText", "ReadyError"]), ("BadWeb", ["BadWeb", "ReadyError"]), ("BadPaper", ["BadPaper", "ReadyError"])]
def subs : List (Str × List Str) := subs0
def gi0 : List (Str × Int) := [("LONGEST", 6), ("MOST_NAMES", 8)]
def gi : List (Str × Int) := gi0
def gs0 : List (Str × Str) := [("LETTERS", "abcdefghijklmnopqrstuvwxyz")]
def gs : List (Str × Str) := gs0
def cons0 : List (Str × PM.D) := []
def cons : List (Str × PM.D) := cons0
def tabs0 : List (Str × List (Str × PM.D)) := []
def tabs : List (Str × List (Str × PM.D)) := tabs0
def frees0 : List Str := ["ValueError", "all", "bool", "enumerate", "int", "isinstance", "len", "list", "range", "repr", "set", "str", "tuple"]
def frees : List Str := frees0
def T : LawT := ⟨defs, gi, gs, cons, tabs, cls, subs, frees⟩
theorem ok_is_whole : DefC T 60 60 d_is_whole where
  ok := ⟨⟨by kernel_rfl, by kernel_rfl, by kernel_rfl, by decide +kernel, by kernel_rfl, by decide +kernel, by decide +kernel⟩, rfl, rfl, by kernel_rfl⟩
  bind := fun _ _ _ _ _ _ us hl => match us, hl with | [_], _ => by kernel_rfl
theorem ok_is_name : DefC T 60 60 d_is_name where
  ok := ⟨⟨by kernel_rfl, by kernel_rfl, by kernel_rfl, by decide +kernel, by kernel_rfl, by decide +kernel, by decide +kernel⟩, rfl, rfl, by kernel_rfl⟩
  bind := fun _ _ _ _ _ _ us hl => match us, hl with | [_], _ => by kernel_rfl
theorem ok_is_names : DefC T 60 60 d_is_names where
  ok := ⟨⟨by kernel_rfl, by kernel_rfl, by kernel_rfl, by decide +kernel, by kernel_rfl, by decide +kernel, by decide +kernel⟩, rfl, rfl, by kernel_rfl⟩
  bind := fun _ _ _ _ _ _ us hl => match us, hl with | [_], _ => by kernel_rfl
theorem ok_need_names : DefC T 60 60 d_need_names where
  ok := ⟨⟨by kernel_rfl, by kernel_rfl, by kernel_rfl, by decide +kernel, by kernel_rfl, by decide +kernel, by decide +kernel⟩, rfl, rfl, by kernel_rfl⟩
  bind := fun _ _ _ _ _ _ us hl => match us, hl with | [_], _ => by kernel_rfl
theorem ok_is_setting : DefC T 60 60 d_is_setting where
  ok := ⟨⟨by kernel_rfl, by kernel_rfl, by kernel_rfl, by decide +kernel, by kernel_rfl, by decide +kernel, by decide +kernel⟩, rfl, rfl, by kernel_rfl⟩
  bind := fun _ _ _ _ _ _ us hl => match us, hl with | [_, _], _ => by kernel_rfl
theorem ok_need_setting : DefC T 60 60 d_need_setting where
  ok := ⟨⟨by kernel_rfl, by kernel_rfl, by kernel_rfl, by decide +kernel, by kernel_rfl, by decide +kernel, by decide +kernel⟩, rfl, rfl, by kernel_rfl⟩
  bind := fun _ _ _ _ _ _ us hl => match us, hl with | [_, _], _ => by kernel_rfl
theorem ok_many_settings : DefC T 60 60 d_many_settings where
  ok := ⟨⟨by kernel_rfl, by kernel_rfl, by kernel_rfl, by decide +kernel, by kernel_rfl, by decide +kernel, by decide +kernel⟩, rfl, rfl, by kernel_rfl⟩
  bind := fun _ _ _ _ _ _ us hl => match us, hl with | [_], _ => by kernel_rfl
theorem ok_setting_at : DefC T 60 60 d_setting_at where
  ok := ⟨⟨by kernel_rfl, by kernel_rfl, by kernel_rfl, by decide +kernel, by kernel_rfl, by decide +kernel, by decide +kernel⟩, rfl, rfl, by kernel_rfl⟩
  bind := fun _ _ _ _ _ _ us hl => match us, hl with | [_, _], _ => by kernel_rfl
theorem ok_number_of : DefC T 60 60 d_number_of where
  ok := ⟨⟨by kernel_rfl, by kernel_rfl, by kernel_rfl, by decide +kernel, by kernel_rfl, by decide +kernel, by decide +kernel⟩, rfl, rfl, by kernel_rfl⟩
  bind := fun _ _ _ _ _ _ us hl => match us, hl with | [_, _], _ => by kernel_rfl
theorem ok_all_settings : DefC T 60 60 d_all_settings where
  ok := ⟨⟨by kernel_rfl, by kernel_rfl, by kernel_rfl, by decide +kernel, by kernel_rfl, by decide +kernel, by decide +kernel⟩, rfl, rfl, by kernel_rfl⟩
  bind := fun _ _ _ _ _ _ us hl => match us, hl with | [_], _ => by kernel_rfl
theorem ok__law_mixed : DefC T 60 60 d__law_mixed where
  ok := ⟨⟨by kernel_rfl, by kernel_rfl, by kernel_rfl, by decide +kernel, by kernel_rfl, by decide +kernel, by decide +kernel⟩, rfl, rfl, by kernel_rfl⟩
  bind := fun _ _ _ _ _ _ us hl => match us, hl with | [_, _], _ => by kernel_rfl
theorem ok__law_stream : DefC T 60 60 d__law_stream where
  ok := ⟨⟨by kernel_rfl, by kernel_rfl, by kernel_rfl, by decide +kernel, by kernel_rfl, by decide +kernel, by decide +kernel⟩, rfl, rfl, by kernel_rfl⟩
  bind := fun _ _ _ _ _ _ us hl => match us, hl with | [_, _], _ => by kernel_rfl
theorem ok__law_take : DefC T 60 60 d__law_take where
  ok := ⟨⟨by kernel_rfl, by kernel_rfl, by kernel_rfl, by decide +kernel, by kernel_rfl, by decide +kernel, by decide +kernel⟩, rfl, rfl, by kernel_rfl⟩
  bind := fun _ _ _ _ _ _ us hl => match us, hl with | [_, _], _ => by kernel_rfl
theorem ok__law_names_by : DefC T 60 60 d__law_names_by where
  ok := ⟨⟨by kernel_rfl, by kernel_rfl, by kernel_rfl, by decide +kernel, by kernel_rfl, by decide +kernel, by decide +kernel⟩, rfl, rfl, by kernel_rfl⟩
  bind := fun _ _ _ _ _ _ us hl => match us, hl with | [_, _], _ => by kernel_rfl
theorem ok__law_word : DefC T 60 60 d__law_word where
  ok := ⟨⟨by kernel_rfl, by kernel_rfl, by kernel_rfl, by decide +kernel, by kernel_rfl, by decide +kernel, by decide +kernel⟩, rfl, rfl, by kernel_rfl⟩
  bind := fun _ _ _ _ _ _ us hl => match us, hl with | [_], _ => by kernel_rfl
theorem ok__law_said : DefC T 60 60 d__law_said where
  ok := ⟨⟨by kernel_rfl, by kernel_rfl, by kernel_rfl, by decide +kernel, by kernel_rfl, by decide +kernel, by decide +kernel⟩, rfl, rfl, by kernel_rfl⟩
  bind := fun _ _ _ _ _ _ us hl => match us, hl with | [_, _, _], _ => by kernel_rfl
theorem ok__law_setting : DefC T 60 60 d__law_setting where
  ok := ⟨⟨by kernel_rfl, by kernel_rfl, by kernel_rfl, by decide +kernel, by kernel_rfl, by decide +kernel, by decide +kernel⟩, rfl, rfl, by kernel_rfl⟩
  bind := fun _ _ _ _ _ _ us hl => match us, hl with | [_, _], _ => by kernel_rfl
theorem ok__law_odd_setting : DefC T 60 60 d__law_odd_setting where
  ok := ⟨⟨by kernel_rfl, by kernel_rfl, by kernel_rfl, by decide +kernel, by kernel_rfl, by decide +kernel, by decide +kernel⟩, rfl, rfl, by kernel_rfl⟩
  bind := fun _ _ _ _ _ _ us hl => match us, hl with | [_, _], _ => by kernel_rfl
theorem ok__law_odd_number : DefC T 60 60 d__law_odd_number where
  ok := ⟨⟨by kernel_rfl, by kernel_rfl, by kernel_rfl, by decide +kernel, by kernel_rfl, by decide +kernel, by decide +kernel⟩, rfl, rfl, by kernel_rfl⟩
  bind := fun _ _ _ _ _ _ us hl => match us, hl with | [_, _], _ => by kernel_rfl
theorem ok__law_odd_names : DefC T 60 60 d__law_odd_names where
  ok := ⟨⟨by kernel_rfl, by kernel_rfl, by kernel_rfl, by decide +kernel, by kernel_rfl, by decide +kernel, by decide +kernel⟩, rfl, rfl, by kernel_rfl⟩
  bind := fun _ _ _ _ _ _ us hl => match us, hl with | [_, _], _ => by kernel_rfl
theorem ok__law_truths_right : DefC T 60 60 d__law_truths_right where
  ok := ⟨⟨by kernel_rfl, by kernel_rfl, by kernel_rfl, by decide +kernel, by kernel_rfl, by decide +kernel, by decide +kernel⟩, rfl, rfl, by kernel_rfl⟩
  bind := fun _ _ _ _ _ _ us hl => match us, hl with | [], _ => by kernel_rfl
theorem ok_law : DefC T 60 60 d_law where
  ok := ⟨⟨by kernel_rfl, by kernel_rfl, by kernel_rfl, by decide +kernel, by kernel_rfl, by decide +kernel, by decide +kernel⟩, rfl, rfl, by kernel_rfl⟩
  bind := fun _ _ _ _ _ _ us hl => match us, hl with | [_], _ => by kernel_rfl
theorem ok_all : ∀ p ∈ T.defs, DefC T 60 60 p.2 := by
  intro p h
  simp only [T, defs, defs0, List.mem_append, List.mem_cons, List.not_mem_nil, or_false] at h
  rcases h with (rfl | rfl | rfl | rfl | rfl | rfl | rfl | rfl | rfl | rfl | rfl | rfl | rfl | rfl | rfl | rfl | rfl | rfl | rfl | rfl | rfl | rfl)
  all_goals first
    | exact ok_is_whole
    | exact ok_is_name
    | exact ok_is_names
    | exact ok_need_names
    | exact ok_is_setting
    | exact ok_need_setting
    | exact ok_many_settings
    | exact ok_setting_at
    | exact ok_number_of
    | exact ok_all_settings
    | exact ok__law_mixed
    | exact ok__law_stream
    | exact ok__law_take
    | exact ok__law_names_by
    | exact ok__law_word
    | exact ok__law_said
    | exact ok__law_setting
    | exact ok__law_odd_setting
    | exact ok__law_odd_number
    | exact ok__law_odd_names
    | exact ok__law_truths_right
    | exact ok_law
def names0 : List Str := ["ReadyError", "BadName", "BadNames", "BadSaying", "BadSetting", "BadNumber", "BadWeights", "BadOrder", "BadLine", "NoSetting", "TooGreat", "NoSaying", "Twice", "Full", "BadAsked", "BadText", "BadWeb", "BadPaper", "LETTERS", "LONGEST", "MOST_NAMES", "is_whole", "is_name", "is_names", "need_names", "is_setting", "need_setting", "many_settings", "setting_at", "number_of"]
def names1 : List Str := ["all_settings", "_law_mixed", "_law_stream", "_law_take", "_law_names_by", "_law_word", "_law_said", "_law_setting", "_law_odd_setting", "_law_odd_number", "_law_odd_names", "_law_truths_right"]
def names : List Str := names0 ++ names1
theorem at_is_whole : T.prog.funs[0]? = some PT.fd_is_whole := rfl
theorem at_is_name : T.prog.funs[1]? = some PT.fd_is_name := rfl
theorem at_is_names : T.prog.funs[2]? = some (PT.fd_is_names 1) := rfl
theorem at_need_names : T.prog.funs[3]? = some (PT.fd_need_names 2) := rfl
theorem at_is_setting : T.prog.funs[4]? = some PT.fd_is_setting := rfl
theorem at_need_setting : T.prog.funs[5]? = some (PT.fd_need_setting 3 4) := rfl
theorem at_many_settings : T.prog.funs[6]? = some PT.fd_many_settings := rfl
theorem at_setting_at : T.prog.funs[7]? = some (PT.fd_setting_at 3 0 6) := rfl
theorem at_number_of : T.prog.funs[8]? = some (PT.fd_number_of 5) := rfl
theorem at_all_settings : T.prog.funs[9]? = some (PT.fd_all_settings 3 7 6) := rfl
theorem at__law_mixed : T.prog.funs[10]? = some PT.fd__law_mixed := rfl
theorem at__law_stream : T.prog.funs[11]? = some (PT.fd__law_stream 10) := rfl
theorem at__law_take : T.prog.funs[12]? = some (PT.fd__law_take 10) := rfl
theorem at__law_names_by : T.prog.funs[13]? = some (PT.fd__law_names_by 12) := rfl
theorem at__law_word : T.prog.funs[14]? = some PT.fd__law_word := rfl
theorem at__law_said : T.prog.funs[15]? = some (PT.fd__law_said_f8a3 7 8 5 9 14) := rfl
theorem at__law_setting : T.prog.funs[16]? = some PT.fd__law_setting := rfl
theorem at__law_odd_setting : T.prog.funs[17]? = some (PT.fd__law_odd_setting 12) := rfl
theorem at__law_odd_number : T.prog.funs[18]? = some (PT.fd__law_odd_number 12) := rfl
theorem at__law_odd_names : T.prog.funs[19]? = some (PT.fd__law_odd_names 12) := rfl
theorem at__law_truths_right : T.prog.funs[20]? = some (PT.fd__law_truths_right 15) := rfl
theorem at_law : T.prog.funs[21]? = some (PT.fd_law_b4f9 20 11 13 12 16 15 9 17 18 19) := rfl
abbrev R : PySem.W.OpenRow := PySem.W.OpenLaw.row PySem.Challenge.rw_readyhall_k04_settings
abbrev hk : PySem.W.Hook := hookM 4 T.B T.fn T.ts
def ob (s : PySem.W.SharedT) : He.AlT := obsMG 4 T.B T.fn T.ts (HandSHeadRun.getT s)
theorem ob_eq (s : PySem.W.SharedT) : ob s = hk.obs s.abs := obsMG_eq (HandSHeadRun.getT_eq s)
theorem run (w : World) : HandSHeadRun.RunEq R (PySem.W.view R.prog [46]) hk ob 6000 names w := by
  intro os
  kernel_rfl
end Lk04
end

section
set_option Elab.async false
set_option linter.all false
set_option maxRecDepth 100000
set_option maxHeartbeats 4000000
namespace Lk04
open PySem PM PL
theorem sub_of (x : String) (h : subs.lookup (Str.ofString x) = some [Str.ofString x, Str.ofString "ReadyError"]) : SubW T.prog x := by
  refine ⟨fun c => ?_, rfl⟩
  show ((subs.lookup (Str.ofString x)).getD []).contains c = _
  rw [h]
  simp
theorem sub_n : SubW T.prog "BadNames" := sub_of _ (by decide +kernel)
theorem sub_s : SubW T.prog "BadSetting" := sub_of _ (by decide +kernel)
theorem sub_u : SubW T.prog "BadNumber" := sub_of _ (by decide +kernel)
theorem said (k w : Nat) (hw : w < 4) (x y : D) (hx : Good x) (hy : Good y) : callM T.prog (k + 6) 15 [Val.d (.int w), Val.d x, Val.d y] = .ok (Val.d (saidD w x y)) [Val.d (.int w), Val.d x, Val.d y] :=
  call_said04 at_is_name at_is_names at_need_names sub_n sub_s sub_u at_is_setting at_need_setting at_number_of at_is_whole at_many_settings at_setting_at at_all_settings at__law_word at__law_said k w hw x y hx hy
def bIn : List MS := [
      .ite (.cmp .NotEq (.bi .repr [(.call 15 [(.c (.int 0)), (.v 4), (.v 6)])]) (.bi .repr [(.tup [(.c (.str "told")), (.v 7)])])) [
        .ret (.c (.bool false))] [],
      .ite (.cmp .NotEq (.bi .repr [(.call 15 [(.c (.int 1)), (.v 4), (.v 7)])]) (.bi .repr [(.tup [(.c (.str "told")), (.v 6)])])) [
        .ret (.c (.bool false))] [],
      .ite (.cmp .NotEq (.call 15 [(.c (.int 2)), (.v 4), (.v 7)]) (.tup [(.c (.str "told")), (.c .none)])) [
        .ret (.c (.bool false))] []]
def bAll : List MS := [
        .set (.nm 9) (.call 9 [(.v 4)]),
        .ite (.cmp .NotEq (.bi .repr [(.v 9)]) (.bi .repr [(.lc (.call 16 [(.bi .len [(.v 4)]), (.v 10)]) (.nm 10) (.rng1 (.v 5)) [] [10])])) [
          .ret (.c (.bool false))] [],
        .expr (.mu .clear 9 [])]
section
variable (xs : List D) (v : Nat) (e0 e1 e2 e3 e8 e9 e11 e12 e13 : Option Val)
theorem in_ok (hN : isNames (.tuple xs) = true) (gN : Good (.tuple xs)) (hv : v < 2 ^ xs.length) (y : D) : loopF (cxP T.prog 59 [false]) (.nm 8) bIn y [e0, e1, e2, e3, some (Val.d (.tuple xs)), some (Val.d (.int ((2 ^ xs.length : Nat) : Int))), some (Val.d (.int v)), some (Val.d (bits xs.length v)), e8, e9, none, e11, e12, e13, none] =
    .ok .nx [e0, e1, e2, e3, some (Val.d (.tuple xs)), some (Val.d (.int ((2 ^ xs.length : Nat) : Int))), some (Val.d (.int v)), some (Val.d (bits xs.length v)), some (Val.d y), e9, none, e11, e12, e13, none] := by
  obtain ⟨_, q, hl⟩ := isNames_tuple hN
  cases q
  have mx := (most_at hl).2.2
  have hd : dbl xs 1 = ((2 ^ xs.length : Nat) : Int) := by rw [dbl_eq, Int.one_mul]; simp
  have bs := (bits_set xs.length v).resolve_right (by omega)
  have nb := numOf_bits ⟨xs.length, by omega⟩ ⟨v, by omega⟩ hv
  have R1 := reprV_ok (ok_bits (n := xs.length) v hl)
  have R2 := reprV_ok (ok_num (v := v) (by omega))
  have D0 : saidD 0 (.tuple xs) (.int v) = .tuple [.str "told", bits xs.length v] := by
    have : numOk (dbl xs 1) (.int v) = true := by
      rw [hd]
      show (decide (0 ≤ (v : Int)) && decide ((v : Int) < _)) = true
      rw [decide_eq_true (by omega), decide_eq_true (by omega)]
      rfl
    simp [saidD, hN, this, toldD, numD]
  have D1 : saidD 1 (.tuple xs) (bits xs.length v) = .tuple [.str "told", .int v] := by
    simp [saidD, hN, bs.1, toldD]
    exact nb
  have D2 : saidD 2 (.tuple xs) (bits xs.length v) = .tuple [.str "told", .none] := by simp [saidD, hN, bs.1, toldD]
  have S0 := said 53 0 (by omega) (.tuple xs) (.int v) gN (.int _)
  have S1 := said 53 1 (by omega) (.tuple xs) (bits xs.length v) gN bs.2
  have S2 := said 53 2 (by omega) (.tuple xs) (bits xs.length v) gN bs.2
  rw [D0] at S0
  rw [D1] at S1
  rw [D2] at S2
  have q : eqD (.tuple [.str "told", .none]) (.tuple [.str "told", .none]) = some true := by decide +kernel
  generalize ((2 ^ xs.length : Nat) : Int) = z
  generalize bits xs.length v = B at *
  generalize (PyData.tuple [.str "told", B]).shown = t1 at R1
  generalize (PyData.tuple [.str "told", .int (v : Int)]).shown = t2 at R2
  simp at S0 S1 S2
  rw [loopF_go]
  simp [bIn, S0, S1, S2, R1, R2, q, lN]
theorem all_ok (hN : isNames (.tuple xs) = true) (gN : Good (.tuple xs)) (e6 e7 : Option Val) (y : D) : loopF (cxP T.prog 59 [false]) (.nm 8) bAll y [e0, e1, e2, e3, some (Val.d (.tuple xs)), some (Val.d (.int ((2 ^ xs.length : Nat) : Int))), e6, e7, e8, e9, none, e11, e12, e13, none] =
    .ok .nx [e0, e1, e2, e3, some (Val.d (.tuple xs)), some (Val.d (.int ((2 ^ xs.length : Nat) : Int))), e6, e7, some (Val.d y), some (OL []), none, e11, e12, e13, none] := by
  obtain ⟨_, q, hl⟩ := isNames_tuple hN
  cases q
  have mx := (most_at hl).2
  have hd : dbl xs 1 = ((2 ^ xs.length : Nat) : Int) := by rw [dbl_eq, Int.one_mul]; simp
  have A := (call_all_settings at_is_name at_is_names at_need_names sub_n at_is_whole at_many_settings at_setting_at at_all_settings sub_u 54 (.tuple xs) gN).2 xs rfl hN
  rw [hd, Int.toNat_natCast] at A
  obtain ⟨Lst, hL⟩ : ∃ Lst, Lst = (rangeV 0 (2 ^ xs.length)).map fun v => bits xs.length (numD v) := ⟨_, rfl⟩
  have R := reprV_ok (PL.ok_all (n := xs.length) hl (vs := rangeV 0 (2 ^ xs.length)) (by rw [PL.rangeV_len]; exact mx.2))
  have L := doLc_mapD (c := cxP T.prog 59 [false]) (elt := .call 16 [.bi .len [.v 4], .v 10]) (t := .nm 10) (cs := []) (own := [10]) (e1 := [e0, e1, e2, e3, some (Val.d (.tuple xs)), some (Val.d (.int ((2 ^ xs.length : Nat) : Int))), e6, e7, some (Val.d y), some (OL Lst), none, e11, e12, e13, none]) (xs := rangeV 0 (2 ^ xs.length)) (fun v => bits xs.length (numD v)) (by simp) (by rw [lN, PL.rangeV_len]; omega) (fun y hy => by
    obtain ⟨j, rfl, _, hj⟩ := mem_rangeV (lo := 0) hy
    rw [Nat.zero_add] at hj
    have S := call_law_setting at__law_setting 58 xs.length (j : Int) hl
    rw [bits_hi' hl hj] at S
    rw [lcStep0]
    generalize ((2 ^ xs.length : Nat) : Int) = z
    simp at S
    simp [S, numD])
  rw [← hL] at A R L
  have z1 : -4611686018427387904 ≤ ((2 ^ xs.length : Nat) : Int) := by omega
  have z2 : ((2 ^ xs.length : Nat) : Int) < 4611686018427387904 := by omega
  have z3 : (((2 ^ xs.length : Nat) : Int)).toNat = 2 ^ xs.length := Int.toNat_natCast _
  generalize ((2 ^ xs.length : Nat) : Int) = z at *
  generalize (PyData.list Lst).shown = t1 at R
  rw [← z3] at L
  simp at A L
  rw [loopF_go]
  simp [bAll, A, R, z1, z2]
  rw [L]
  simp [← hL, R]
end
def lbody : List MS := [
    .set (.nm 3) (.call 11 [(.v 2), (.v 1)]),
    .set (.nm 4) (.bi .tuple [(.call 13 [(.v 3), (.call 12 [(.v 3), (.c (.int 9))])])]),
    .set (.nm 5) (.idx (.lst [(.c (.int 1)), (.c (.int 2)), (.c (.int 4)), (.c (.int 8)), (.c (.int 16)), (.c (.int 32)), (.c (.int 64)), (.c (.int 128)), (.c (.int 256))]) (.bi .len [(.v 4)])),
    .set (.nm 6) (.idx (.lst [(.c (.int 0)), (.bin .Sub (.v 5) (.c (.int 1))), (.call 12 [(.v 3), (.v 5)]), (.call 12 [(.v 3), (.v 5)])]) (.call 12 [(.v 3), (.c (.int 4))])),
    .set (.nm 7) (.call 16 [(.bi .len [(.v 4)]), (.v 6)]),
    .for_ (.nm 8) (.rng1 (.c (.int 2))) bIn,
    .ite (.or (.cmp .Lt (.v 5) (.c (.int 65))) (.cmp .Eq (.bin .Mod (.v 1) (.c (.int 8))) (.c (.int 0)))) [
      .for_ (.nm 8) (.rng1 (.c (.int 2))) bAll] [],
    .set (.nm 11) (.call 17 [(.v 3), (.v 7)]),
    .ite (.cmp .NotEq (.lst [(.call 15 [(.c (.int 1)), (.v 4), (.v 11)]), (.call 15 [(.c (.int 2)), (.v 4), (.v 11)])]) (.bin .Mult (.lst [(.tup [(.c (.str "refused")), (.c (.str "setting"))])]) (.c (.int 2)))) [
      .ret (.c (.bool false))] [],
    .ite (.cmp .NotEq (.call 15 [(.c (.int 0)), (.v 4), (.call 18 [(.v 3), (.v 5)])]) (.tup [(.c (.str "refused")), (.c (.str "number"))])) [
      .ret (.c (.bool false))] [],
    .set (.nm 12) (.call 19 [(.v 3), (.v 4)]),
    .set (.nm 13) (.idx (.lst [(.v 11), (.neg (.c (.int 1))), (.v 7)]) (.call 12 [(.v 3), (.c (.int 3))])),
    .ite (.cmp .NotEq (.lc (.call 15 [(.v 14), (.v 12), (.v 13)]) (.nm 14) (.rng1 (.c (.int 4))) [] [14]) (.bin .Mult (.lst [(.tup [(.c (.str "refused")), (.c (.str "names"))])]) (.c (.int 4)))) [
      .ret (.c (.bool false))] []]
theorem four_at {a b c d : D} {r : Nat} (h : (r : Int) < 4) : ∃ x, L2.atI [a, b, c, d] (r : Int) = some x ∧ (x = a ∨ x = b ∨ x = c ∨ x = d) := by
  have : r = 0 ∨ r = 1 ∨ r = 2 ∨ r = 3 := by omega
  rcases this with rfl | rfl | rfl | rfl
  · exact ⟨a, rfl, .inl rfl⟩
  · exact ⟨b, rfl, .inr (.inl rfl)⟩
  · exact ⟨c, rfl, .inr (.inr (.inl rfl))⟩
  · exact ⟨d, rfl, .inr (.inr (.inr rfl))⟩
theorem three_at {a b c : D} {r : Nat} (h : (r : Int) < 3) : ∃ x, L2.atI [a, b, c] (r : Int) = some x ∧ (x = a ∨ x = b ∨ x = c) := by
  have : r = 0 ∨ r = 1 ∨ r = 2 := by omega
  rcases this with rfl | rfl | rfl
  · exact ⟨a, rfl, .inl rfl⟩
  · exact ⟨b, rfl, .inr (.inl rfl)⟩
  · exact ⟨c, rfl, .inr (.inr rfl)⟩
theorem body_ok (i : Nat) (hi : i < 64) (j : Int) (e : PM.Env) (p : ∃ o0 o1 o2 o3 o4 o5 o6 o7 o8 o9 o11 o12 o13, e = [o0, o1, o2, o3, o4, o5, o6, o7, o8, o9, none, o11, o12, o13, none]) :
    ∃ e', loopF (cxP T.prog 59 [false]) (.tup [.nm 1, .nm 2]) lbody (.tuple [.int i, .int j]) e = .ok .nx e' ∧ ∃ o0 o1 o2 o3 o4 o5 o6 o7 o8 o9 o11 o12 o13, e' = [o0, o1, o2, o3, o4, o5, o6, o7, o8, o9, none, o11, o12, o13, none] := by
  obtain ⟨o0, o1, o2, o3, o4, o5, o6, o7, o8, o9, o11, o12, o13, rfl⟩ := p
  have tk := fun (b : Bool) (n c s w : Int) (h0 : 0 ≤ c) (h1 : c < 1000000) (hw : 0 < w) (hw2 : w < 1073741824) => call_take at__law_take at__law_mixed 57 b n c s w h0 (by omega) hw hw2
  obtain ⟨b, s, S⟩ := call_stream at__law_stream at__law_mixed 57 j i (by omega) (by omega)
  obtain ⟨n1, r1, q1, T1⟩ := tk b j 0 s 9 (by omega) (by omega) (by omega) (by omega)
  obtain ⟨n2, c2, ls, u1, u2, hll, hv, nd, N⟩ := call_names_by at__law_mixed at__law_take at__law_names_by 56 b n1 (0 + 1) s r1 (by omega) (by omega) (by omega)
  have hl8 : ls.length ≤ 8 := by omega
  obtain ⟨M, M1, M2⟩ := most_at hl8
  have hN := names_ok hv nd hl8
  have gN := good_names hv hl8
  have hxl : (ls.map nmD).length = ls.length := List.length_map _
  obtain ⟨n3, r3, q3, T3⟩ := tk b n2 c2 s ((2 ^ ls.length : Nat) : Int) (by omega) (by omega) (by omega) (by omega)
  obtain ⟨n4, r4, q4, T4⟩ := tk b n3 (c2 + 1) s ((2 ^ ls.length : Nat) : Int) (by omega) (by omega) (by omega) (by omega)
  obtain ⟨n5, r5, q5, T5⟩ := tk b n4 (c2 + 1 + 1) s 4 (by omega) (by omega) (by omega) (by omega)
  obtain ⟨nv, hnv, hnq⟩ := four_at (a := .int 0) (b := .int (((2 ^ ls.length : Nat) : Int) - 1)) (c := .int r3) (d := .int r4) q5
  obtain ⟨v, rfl, hvb⟩ : ∃ v : Nat, nv = .int v ∧ v < 2 ^ ls.length := by
    rcases hnq with rfl | rfl | rfl | rfl
    · exact ⟨0, rfl, by omega⟩
    · have e : (((2 ^ ls.length - 1 : Nat)) : Int) = ((2 ^ ls.length : Nat) : Int) - 1 := by omega
      exact ⟨2 ^ ls.length - 1, by rw [e], by omega⟩
    · exact ⟨r3, rfl, by omega⟩
    · exact ⟨r4, rfl, by omega⟩
  have SE := call_law_setting at__law_setting 58 ls.length (v : Int) hl8
  rw [bits_hi' hl8 hvb] at SE
  have bs := (bits_set ls.length v).resolve_right (by omega)
  have IN := fun e0 e1 e2 e3 e8 e9 e11 e12 e13 y => in_ok (ls.map nmD) v e0 e1 e2 e3 e8 e9 e11 e12 e13 hN gN (by rw [hxl]; exact hvb) y
  have AL := fun e0 e1 e2 e3 e8 e9 e11 e12 e13 e6 e7 y => all_ok (ls.map nmD) e0 e1 e2 e3 e8 e9 e11 e12 e13 hN gN e6 e7 y
  rw [hxl] at IN AL
  obtain ⟨n6, od, god, sod, OD⟩ := call_odd_setting at__law_mixed at__law_take at__law_odd_setting 56 b n5 (c2 + 1 + 1 + 1) s ((loB ls.length v).reverse.map .bool) bs.2 (by simp [loB_len]; omega) (by omega) (by omega)
  have hsl : ((loB ls.length (v : Int)).reverse.map PyData.bool).length = ls.length := by simp [loB_len]
  rw [hsl] at sod
  obtain ⟨n7, on, gon, son, ON⟩ := call_odd_number at__law_mixed at__law_take at__law_odd_number 56 b n6 (c2 + 1 + 1 + 1 + 1 + 1) s ((2 ^ ls.length : Nat) : Int) (by omega) (by omega) (by omega) (by omega)
  obtain ⟨n8, ob, gob, sob, OB⟩ := call_odd_names at__law_mixed at__law_take at__law_odd_names 56 b n7 (c2 + 1 + 1 + 1 + 1 + 1 + 1) s (ls.map nmD) gN (by rw [hxl]; exact hl8) (by omega) (by omega)
  obtain ⟨n9, r9, q9, T9⟩ := tk b n8 (c2 + 1 + 1 + 1 + 1 + 1 + 1 + 1) s 3 (by omega) (by omega) (by omega) (by omega)
  obtain ⟨sc, hsc, hscq⟩ := three_at (a := od) (b := .int (-1)) (c := bits ls.length v) q9
  have gsc : Good sc := by
    rcases hscq with rfl | rfl | rfl
    · exact god
    · exact .int _
    · exact bs.2
  have hd : dbl (ls.map nmD) 1 = ((2 ^ ls.length : Nat) : Int) := by rw [dbl_eq, Int.one_mul, hxl]; simp
  have A1 := said 53 1 (by omega) (.tuple (ls.map nmD)) od gN god
  have A2 := said 53 2 (by omega) (.tuple (ls.map nmD)) od gN god
  have A3 := said 53 0 (by omega) (.tuple (ls.map nmD)) on gN gon
  have D1 : saidD 1 (.tuple (ls.map nmD)) od = refD "setting" := by simp only [saidD, if_pos hN, hxl, sod]; rfl
  have D2 : saidD 2 (.tuple (ls.map nmD)) od = refD "setting" := by simp only [saidD, if_pos hN, hxl, sod]; rfl
  have D3 : saidD 0 (.tuple (ls.map nmD)) on = refD "number" := by simp only [saidD, if_pos hN, hd, son]; rfl
  rw [D1] at A1
  rw [D2] at A2
  rw [D3] at A3
  have B : ∀ w : Nat, w < 4 → callM T.prog 59 15 [Val.d (.int w), Val.d ob, Val.d sc] = .ok (Val.d (refD "names")) [Val.d (.int w), Val.d ob, Val.d sc] := fun w hw => by
    have := said 53 w hw ob sc gob gsc
    rw [this]
    have : saidD w ob sc = refD "names" := by
      cases ob with
      | tuple ys => simp only [saidD, sob]; rfl
      | _ => rfl
    rw [this]
  have p2 : ∀ x : D, repD [x] 2 = [x, x] := fun x => rfl
  have p4 : ∀ x : D, repD [x] 4 = [x, x, x, x] := fun x => rfl
  unfold refD at A1 A2 A3 B
  have E1 : eqD (.list [.tuple [.str "refused", .str "setting"], .tuple [.str "refused", .str "setting"]]) (.list [.tuple [.str "refused", .str "setting"], .tuple [.str "refused", .str "setting"]]) = some true := by decide +kernel
  have E2 : eqD (.tuple [.str "refused", .str "number"]) (.tuple [.str "refused", .str "number"]) = some true := by decide +kernel
  have E3 : eqD (.list [.tuple [.str "refused", .str "names"], .tuple [.str "refused", .str "names"], .tuple [.str "refused", .str "names"], .tuple [.str "refused", .str "names"]]) (.list [.tuple [.str "refused", .str "names"], .tuple [.str "refused", .str "names"], .tuple [.str "refused", .str "names"], .tuple [.str "refused", .str "names"]]) = some true := by decide +kernel
  have L14 : ∀ a0 a1 a2 a3 a4 a5 a6 a7 a8 a9 a10 a11, doLc (cxP T.prog 59 [false]) (.call 15 [.v 14, .v 12, .v 13]) (.nm 14) [] [14] (some (rangeV 0 4, [a0, a1, a2, a3, a4, a5, a6, a7, a8, a9, a10, a11, some (Val.d ob), some (Val.d sc), none])) = .ok (OL [.tuple [.str "refused", .str "names"], .tuple [.str "refused", .str "names"], .tuple [.str "refused", .str "names"], .tuple [.str "refused", .str "names"]]) [a0, a1, a2, a3, a4, a5, a6, a7, a8, a9, a10, a11, some (Val.d ob), some (Val.d sc), none] := fun a0 a1 a2 a3 a4 a5 a6 a7 a8 a9 a10 a11 => by
    rw [doLc_mapD (fun _ => .tuple [.str "refused", .str "names"]) (by simp) (by rw [lN, PL.rangeV_len]; omega) (fun y hy => by
      obtain ⟨w, rfl, _, hw⟩ := mem_rangeV (lo := 0) hy
      have := B w (by omega)
      rw [lcStep0]
      simp [this])]
    simp
    rfl
  have OD : callM T.prog 59 17 [st b n5 (c2 + 1 + 1 + 1) s, Val.d (bits ls.length v)] = .ok (Val.d od) [st b n6 (c2 + 1 + 1 + 1 + 1 + 1) s, Val.d (bits ls.length v)] := OD
  generalize bits ls.length v = Bt at *
  generalize ((2 ^ ls.length : Nat) : Int) = z at *
  have r2 : rangeV 0 2 = [.int 0, .int 1] := rfl
  have it8 : ∃ m : Int, (i : Int) % 8 = m := ⟨_, rfl⟩
  refine ⟨_, ?_, o0, some (Val.d (.int i)), some (Val.d (.int j)), some (st b n9 (c2 + 1 + 1 + 1 + 1 + 1 + 1 + 1 + 1) s), some (Val.d (.tuple (ls.map nmD))), some (Val.d (.int z)), some (Val.d (.int v)), some (Val.d Bt), some (Val.d (.int 1)), (if z < 65 ∨ (i : Int) % 8 = 0 then some (OL []) else o9), some (Val.d od), some (Val.d ob), some (Val.d sc), rfl⟩
  simp at S T1 N T3 T4 T5 SE OD ON OB T9 A1 A2 A3 M hnv hsc
  have h1 : 0 < z := by omega
  rw [loopF_go]
  simp [lbody, S, T1, N, M, T3, T4, T5, hnv, SE, lN, r2]
  rw [forL_nx (IN _ _ _ _ _ _ _ _ _ _), forL_nx (IN _ _ _ _ _ _ _ _ _ _)]
  by_cases c1 : z < 65
  · simp [c1, r2]
    rw [forL_nx (AL _ _ _ _ _ _ _ _ _ _ _ _), forL_nx (AL _ _ _ _ _ _ _ _ _ _ _ _)]
    simp [OD, A1, A2, A3, ON, OB, T9, hsc, lN, p2, p4, E1, E2, L14, E3]
  · by_cases c2 : (i : Int) % 8 = 0
    · simp [c1, c2, r2]
      rw [forL_nx (AL _ _ _ _ _ _ _ _ _ _ _ _), forL_nx (AL _ _ _ _ _ _ _ _ _ _ _ _)]
      simp [OD, A1, A2, A3, ON, OB, T9, hsc, lN, p2, p4, E1, E2, L14, E3]
    · simp [c1, c2, r2, OD, A1, A2, A3, ON, OB, T9, hsc, lN, p2, p4, E1, E2, L14, E3]
theorem pure_law (ns : List Int) (h : ns.length ≤ 63) : ∃ vs, callM T.prog 60 21 [.d (.list (ns.map .int))] = .ok (.d (.bool true)) vs := by
  rw [call_go at_law ⟨rfl, Nat.le_of_ble_eq_true rfl⟩]
  have TR := call_truths at__law_truths_right 58 (fun w x y hw hx hy => said 52 w hw x y hx hy)
  obtain ⟨e2, F2, g0, g1, g2, g3, g4, g5, g6, g7, g8, g9, g11, g12, g13, rfl⟩ := forL_inv (fun e => ∃ o0 o1 o2 o3 o4 o5 o6 o7 o8 o9 o11 o12 o13, e = [o0, o1, o2, o3, o4, o5, o6, o7, o8, o9, none, o11, o12, o13, none]) (xs := scrD ns) (f := loopF (cxP T.prog 59 [false]) (.tup [.nm 1, .nm 2]) lbody) (fun x hx e p => by
    obtain ⟨i, j, rfl, hi⟩ := scrD_ok h hx
    exact body_ok i hi j e p) [some (Val.d (.list (ns.map .int))), none, none, none, none, none, none, none, none, none, none, none, none, none, none] ⟨_, _, _, _, _, _, _, _, _, _, _, _, _, rfl⟩
  have hnl : ns.length + 1 ≤ 16777216 := by omega
  refine ⟨[.d (.list (ns.map .int))], ?_⟩
  unfold lbody bIn bAll scrD at F2
  simp [PT.fd_law_b4f9, PT.mb_law_b4f9, TR, lN, hnl]
  rw [F2]
  simp
end Lk04
end

section
set_option Elab.async false
set_option linter.all false
set_option maxRecDepth 100000
set_option maxHeartbeats 0
open PySem PySem.W PySem.Calls PyProof.Rows
theorem PySem.Challenge.cw_readyhall_k04_settings_holds : PySem.Challenge.rw_readyhall_k04_settings.Holds := by
  w_on; o_law
  refine HandSHeadRun.head_any (r := PySem.W.OpenLaw.row PySem.Challenge.rw_readyhall_k04_settings) (q := PySem.W.view (PySem.W.OpenLaw.row PySem.Challenge.rw_readyhall_k04_settings).prog [46]) (H := Lk04.hk) (ob := Lk04.ob) (M := 6000) (loose := Lk04.names) (d := HandSHeadRun.topDef (PySem.W.OpenLaw.row PySem.Challenge.rw_readyhall_k04_settings).prog 46) (kwd := []) Lk04.ob_eq
    (by kernel_rfl) (fun s => by kernel_rfl) Lk04.run (by kernel_rfl) (by kernel_rfl) (by kernel_rfl) (by rfl) (by first | assumption | decide +kernel) (by decide +kernel) ⟨rfl, rfl, rfl, rfl, rfl, by decide +kernel⟩ ?hw ?hc
  case hw => w_witness2
  case hc =>
    refine PM.law_end (l := PySem.Challenge.rw_readyhall_k04_settings) (T := Lk04.T) (fe := 60) (fs := 60) (n := 63) (k := 60) (li := 21) (x := "_law_script") (lx := "law") (lt := Lk04.d_law) (fun w h Y => Y) (by kernel_rfl) Lk04.ok_all (by kernel_rfl) rfl rfl (by decide) (by kernel_rfl) ⟨rfl, by decide, by decide⟩ Lk04.pure_law
end
