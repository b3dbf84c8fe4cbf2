import PyProof.Rows.All
import Wide.All
import OpenK.AllK
import Wide.FinOn
import HandS.ForMost
import HandS.Exc
import HandS.ExcOwn
import HandS.TupAny
import HandS.TupMul
import HandS.Style
import HandS.Text
import PyProof.StrBlock2
import HandS.CallSlots
import HandS.Zip
import HandS.Comp
import HandS.Iter
import HandS.Strs
import HandS.IsInst
import HandS.ExcIs
import HandS.SortInts
import HandS.Small
import HandS.ExcValue
import HandS.Defaults
import KE.KStateDown
import HandS.Ends
import HandS.Head0
import HandS.Head1
import HandS.Head2
import HandS.HeadEnd
import HandS.HeadHook1
import HandS.HeadHook2
import PySem.Challenge.RW_readyhall_k01_names
section
set_option Elab.async false
set_option linter.all false
set_option maxRecDepth 100000
set_option maxHeartbeats 1000000
/-! PMSem: a small pure machine. Data are PyData trees; lists and dicts that a slot owns are changed in place; all else is frozen. -/
namespace PM
open PySem

abbrev D := PyData
abbrev Key := L2.Key

inductive Val where
  | d (x : D)
  | ol (vs : List Val)
  | od (kvs : List (Key × Val))
  | ex (c : Str) (fs : List (Str × D))
  | pk (i : Nat)

structure Ex where
  c : Str
  fs : List (Str × D)

abbrev Env := List (Option Val)

inductive Res (α : Type) where
  | ok (a : α) (e : Env)
  | ex (x : Ex) (e : Env)
  | no

def Res.bind {α β : Type} (r : Res α) (f : α → Env → Res β) : Res β := match r with
  | .ok a e => f a e
  | .ex x e => .ex x e
  | .no => .no

inductive CRes where
  | ok (v : Val) (as : List Val)
  | ex (x : Ex) (as : List Val)
  | no

/-! ### looking -/
def isD : Val → Option D
  | .d x => some x
  | _ => none
def allD : List Val → Option (List D)
  | [] => some []
  | v :: vs => match isD v, allD vs with
    | some x, some xs => some (x :: xs)
    | _, _ => none
def keyD : Key → D
  | .inl i => .int i
  | .inr x => .str x
def dKey : D → Option Key
  | .int i => some (.inl i)
  | .str x => some (.inr x)
  | _ => none
def allKD : List (Key × Val) → Option (List (D × D))
  | [] => some []
  | (k, v) :: r => match isD v, allKD r with
    | some x, some xs => some ((keyD k, x) :: xs)
    | _, _ => none
/-- data, if all within is frozen -/
def frD : Val → Option D
  | .d x => some x
  | .ol vs => (allD vs).map .list
  | .od kvs => (allKD kvs).map .dict
  | _ => none
def getK (kvs : List (D × D)) (k : Key) : Option D := (kvs.find? fun p => decide (dKey p.1 = some k)).map (·.2)
def getS (e : Env) (i : Nat) : Option Val := (e[i]?).join
def see (e : Env) : Val → Option D
  | .pk i => (getS e i).bind frD
  | v => frD v
def owned : Val → Bool
  | .ol _ => true
  | .od _ => true
  | _ => false
/-- the value frozen: what a slot owns is owned no more -/
def take (e : Env) : Val → Option (D × Env)
  | .pk i => (getS e i).bind fun v => (frD v).map fun x => (x, e.set i (some (.d x)))
  | v => (frD v).map fun x => (x, e)
def takes (e : Env) : List Val → Option (List D × Env)
  | [] => some ([], e)
  | v :: vs => (take e v).bind fun p => (takes p.2 vs).map fun q => (p.1 :: q.1, q.2)

/-! ### operators -/
def lineN : Nat := sizeLine
def okMul (i j : Int) : Bool := (decide (-(2 ^ 64) < i) && decide (i < 2 ^ 64)) || (decide (-(2 ^ 64) < j) && decide (j < 2 ^ 64))
def repD {α : Type} (xs : List α) (k : Int) : List α := (List.replicate k.toNat xs).flatten
def binD (op : Operator) (a b : D) : Option Val := match op, a, b with
  | .Add, .int i, .int j => some (.d (.int (i + j)))
  | .Add, .str x, .str y => if x.length + y.length ≤ lineN then some (.d (.str (x ++ y))) else none
  | .Add, .tuple xs, .tuple ys => if xs.length + ys.length ≤ lineN then some (.d (.tuple (xs ++ ys))) else none
  | .Add, .list xs, .list ys => if xs.length + ys.length ≤ lineN then some (.ol ((xs ++ ys).map .d)) else none
  | .Sub, .int i, .int j => some (.d (.int (i - j)))
  | .Mult, .int i, .int j => if okMul i j then some (.d (.int (i * j))) else none
  | .Mult, .list xs, .int k => if -(2 ^ 63) ≤ k ∧ k < 2 ^ 63 ∧ xs.length * k.toNat ≤ lineN then some (.ol ((repD xs k).map .d)) else none
  | .Mult, .tuple xs, .int k => if xs ≠ [] ∧ 2 ≤ k ∧ k < 2 ^ 62 ∧ xs.length * k.toNat ≤ lineN then some (.d (.tuple (repD xs k))) else none
  | .Mult, .str x, .int k => if 0 ≤ k ∧ k < 2 ^ 62 ∧ x.length * k.toNat ≤ lineN then some (.d (.str ⟨(repD x.cps.toList k).toArray⟩)) else none
  | .FloorDiv, .int i, .int j => if 0 < j ∧ j < 1073741824 then some (.d (.int (i / j))) else none
  | .Mod, .int i, .int j => if 0 < j then some (.d (.int (i % j))) else none
  | .Pow, .int i, .int j => if 0 ≤ j ∧ j ≤ 1000000 ∧ i.natAbs < 2 ^ 64 then some (.d (.int (i ^ j.toNat))) else none
  | _, _, _ => none
def okEq (a b : D) : Bool := a.canLay0 && b.canLay0 && decide (min a.depth b.depth ≤ 64)
def scalD : D → D → Bool
  | .none, .none => true
  | .int _, .int _ => true
  | .bool _, .bool _ => true
  | .str _, .str _ => true
  | _, _ => false
def eqD (a b : D) : Option Bool := if scalD a b || okEq a b then some (PyData.eqv a b) else none
def inD (a b : D) : Option Bool := match b with
  | .list ys => if okEq a b then some (ys.any fun y => PyData.eqv y a) else none
  | .tuple ys => if okEq a b then some (ys.any fun y => PyData.eqv y a) else none
  | .dict kvs => match dKey a with
    | some k => some (getK kvs k).isSome
    | none => none
  | .str z => match a with
    | .str c => match c.cps.toList with
      | [n] => some (decide (n ∈ z.cps.toList))
      | _ => none
    | _ => none
  | _ => none
def ltS (x y : Str) : Bool := decide (x.cps.toList < y.cps.toList)
def cmpD (op : CmpOp) (a b : D) : Option Bool := match op with
  | .Eq => eqD a b
  | .NotEq => (eqD a b).map (!·)
  | .In => inD a b
  | .NotIn => (inD a b).map (!·)
  | .Lt => match a, b with
    | .int i, .int j => some (decide (i < j))
    | .str x, .str y => some (ltS x y)
    | _, _ => none
  | .LtE => match a, b with
    | .int i, .int j => some (decide (i ≤ j))
    | .str x, .str y => some (!ltS y x)
    | _, _ => none
  | .Gt => match a, b with
    | .int i, .int j => some (decide (j < i))
    | .str x, .str y => some (ltS y x)
    | _, _ => none
  | .GtE => match a, b with
    | .int i, .int j => some (decide (j ≤ i))
    | .str x, .str y => some (!ltS x y)
    | _, _ => none
  | _ => none
/-- is it None -/
def nonV (e : Env) : Val → Option Bool
  | .d .none => some true
  | .pk i => match getS e i with
    | some (.ol _) => some false
    | some (.od _) => some false
    | _ => none
  | _ => some false
/-- is it that truth -/
def truV : Val → Option Bool
  | .d (.bool x) => some x
  | _ => none
def truD : D → Option Bool
  | .none => some false
  | .bool b => some b
  | .int i => some (i != 0)
  | .str x => if x.length ≤ lineN then some ((x.length : Int) != 0) else none
  | .list xs => some (!xs.isEmpty)
  | .tuple xs => some (!xs.isEmpty)
  | .dict _ => none

/-! ### subscripts -/
def idxD (a i : D) : Option D := match a, i with
  | .list xs, .int k => L2.atI xs k
  | .tuple xs, .int k => L2.atI xs k
  | .str z, .int k => if z.length ≤ lineN then (L2.atI z.cps.toList k).map fun c => .str ⟨#[c]⟩ else none
  | .dict kvs, k => match dKey k with
    | some k => getK kvs k
    | none => none
  | _, _ => none
def cut {α : Type} (xs : List α) (lo hi : Option Int) : List α := (xs.drop (HT.sIx xs.length 0 lo)).take (HT.sIx xs.length xs.length hi - HT.sIx xs.length 0 lo)
def sliD (a : D) (lo hi : Option Int) : Option Val := match a with
  | .list xs => some (.ol ((cut xs lo hi).map .d))
  | .tuple xs => some (.d (.tuple (cut xs lo hi)))
  | .str z => if z.length ≤ lineN then some (.d (.str ⟨(cut z.cps.toList lo hi).toArray⟩)) else none
  | _ => none
def partD : D → Option Int
  | .int i => some i
  | _ => none

/-! ### built-in functions and methods, by data -/
inductive Bi where
  | len | all | any | sum | max | min | sorted | list | tuple | int | str | dict | repr | lenset | sortset | abs
  deriving DecidableEq, Repr
def intsD : List D → Option (List Int)
  | [] => some []
  | .int i :: r => (intsD r).map (i :: ·)
  | _ => none
def strsD : List D → Option (List Str)
  | [] => some []
  | .str i :: r => (strsD r).map (i :: ·)
  | _ => none
def boolsD : List D → Option (List Bool)
  | [] => some []
  | .bool i :: r => (boolsD r).map (i :: ·)
  | _ => none
def items : D → Option (List D)
  | .list xs => some xs
  | .tuple xs => some xs
  | _ => none
def insI (x : Int) : List Int → List Int
  | [] => [x]
  | y :: r => if x ≤ y then x :: y :: r else y :: insI x r
def sortI (xs : List Int) : List Int := xs.foldr insI []
def leS (x y : Str) : Bool := !ltS y x
def insS (x : Str) : List Str → List Str
  | [] => [x]
  | y :: r => if leS x y then x :: y :: r else y :: insS x r
def sortS (xs : List Str) : List Str := xs.foldr insS []
def maxL : List Int → Option Int
  | [] => none
  | x :: r => some (r.foldl (fun a b => if a < b then b else a) x)
def minL : List Int → Option Int
  | [] => none
  | x :: r => some (r.foldl (fun a b => if b < a then b else a) x)
def addS (acc : List Str) (x : Str) : List Str := if x ∈ acc then acc else acc ++ [x]
/-- each text once -/
def dedS (xs : List Str) : List Str := xs.foldl addS []
def olI (xs : List Int) : Val := .ol (xs.map fun i => .d (.int i))
def olS (xs : List Str) : Val := .ol (xs.map fun i => .d (.str i))
def pairK : D → Option (Key × D)
  | .tuple [k, v] => (dKey k).map fun k => (k, v)
  | _ => none
def pairsK : List D → Option (List (Key × D))
  | [] => some []
  | x :: r => (pairK x).bind fun p => (pairsK r).map (p :: ·)
def putK {α : Type} (kvs : List (Key × α)) (k : Key) (v : α) : List (Key × α) :=
  if (kvs.any fun kv => decide (kv.1 = k)) = true then kvs.map (fun kv => if kv.1 = k then (kv.1, v) else kv) else kvs ++ [(k, v)]
/-- key, value, key, value, .. -/
def twosK : List D → Option (List (Key × D))
  | [] => some []
  | [_] => none
  | k :: v :: r => (dKey k).bind fun k => (twosK r).map ((k, v) :: ·)
def mergeD (kvs more : List (Key × D)) : List (Key × D) := more.foldl (fun acc kv => putK acc kv.1 kv.2) kvs
def liftK (kvs : List (Key × D)) : List (Key × Val) := kvs.map fun p => (p.1, .d p.2)
def biD (b : Bi) (as : List D) : Option Val := match b, as with
  | .len, [.str z] => if z.length ≤ lineN then some (.d (.int z.length)) else none
  | .len, [.dict kvs] => some (.d (.int kvs.length))
  | .len, [a] => (items a).map fun xs => .d (.int xs.length)
  | .all, [.list xs] => (boolsD xs).map fun bs => .d (.bool (bs.all id))
  | .any, [.list xs] => (boolsD xs).map fun bs => .d (.bool (bs.any id))
  | .sum, [.list xs] => (intsD xs).map fun ns => .d (.int ns.sum)
  | .max, [.list xs] => (intsD xs).bind fun ns => (maxL ns).map fun m => .d (.int m)
  | .min, [.list xs] => (intsD xs).bind fun ns => (minL ns).map fun m => .d (.int m)
  | .max, [.int i, .int j] => some (.d (.int (if j > i then j else i)))
  | .min, [.int i, .int j] => some (.d (.int (if j < i then j else i)))
  | .sorted, [.list xs] => match intsD xs with
    | some ns => some (olI (sortI ns))
    | none => match strsD xs with
      | some ss => if ss.length < 64 then some (olS (sortS ss)) else none
      | none => none
  | .list, [a] => (items a).map fun xs => .ol (xs.map .d)
  | .tuple, [a] => (items a).map fun xs => .d (.tuple xs)
  | .int, [.int i] => some (.d (.int i))
  | .int, [.bool i] => some (.d (.int (if i then 1 else 0)))
  | .str, [.int i] => if i.natAbs.log2 < 1920 then some (.d (.str (toString i : String))) else none
  | .lenset, [a] => (items a).bind fun xs => (strsD xs).bind fun ss => if ss.length < 1000 then some (.d (.int (dedS ss).length)) else none
  | .sortset, [.list xs] => (strsD xs).bind fun ss => if ss.length < 64 then some (olS (sortS (dedS ss))) else none
  | .abs, [.int i] => some (.d (.int (if i < 0 then -i else i)))
  | _, _ => none
inductive Mt where
  | join | upper | count | index | get | get2
  deriving DecidableEq, Repr
def mtD (m : Mt) (o : D) (as : List D) : Option Val := match m, o, as with
  | .join, .str a, [x] => (items x).bind fun xs => (strsD xs).bind fun ss => if (ss.map (·.length)).sum + ss.length * a.length ≤ 16777216 then some (.d (.str (Txt.join a ss))) else none
  | .upper, .str a, [] => if a.length ≤ 5592405 then some (.d (.str (Txt.upper a))) else none
  | .get, .dict kvs, [k] => (dKey k).map fun k => .d ((getK kvs k).getD .none)
  | .get2, .dict kvs, [k, z] => (dKey k).map fun k => .d ((getK kvs k).getD z)
  | _, _, _ => none
/-- methods that change what their receiver's slot owns -/
inductive Mu where
  | append | extend | pop | clear | update
  deriving DecidableEq, Repr
def mergeV (kvs : List (Key × Val)) : List (Key × D) → List (Key × Val)
  | [] => kvs
  | (k, v) :: r => mergeV (putK kvs k (.d v)) r
def muV (m : Mu) (o : Val) (as : List D) : Option (Val × Val) := match m, o, as with
  | .append, .ol vs, [x] => if vs.length < lineN then some (.d .none, .ol (vs ++ [.d x])) else none
  | .extend, .ol vs, [.list xs] => if vs.length + xs.length ≤ lineN then some (.d .none, .ol (vs ++ xs.map .d)) else none
  | .pop, .ol vs, [] => (allD vs).bind fun ds => match ds.getLast? with
    | some x => some (.d x, .ol (ds.dropLast.map .d))
    | none => none
  | .clear, .ol vs, [] => (allD vs).map fun _ => (.d .none, .ol [])
  | _, _, _ => none

/-! ### the text -/
inductive Ty where
  | bt (n : String)
  | cl (c : Str)
  deriving DecidableEq, Repr
inductive Tgt where
  | nm (i : Nat)
  | tup (ts : List Tgt)
mutual
inductive ME where
  | c (x : D)
  | v (i : Nat)
  | bin (op : Operator) (a b : ME)
  | neg (a : ME)
  | cmp (op : CmpOp) (a b : ME)
  | isN (neg : Bool) (a : ME)
  | isB (neg : Bool) (a : ME) (k : Bool)
  | chain (op op' : CmpOp) (a b c : ME)
  | and (a b : ME)
  | or (a b : ME)
  | not (a : ME)
  | ite (c a b : ME)
  | tup (es : List ME)
  | lst (es : List ME)
  | dic (es : List ME)
  | idx (a i : ME)
  | sli (a : ME) (lo hi : Option ME)
  | call (f : Nat) (es : List ME)
  | bi (b : Bi) (es : List ME)
  | mt (m : Mt) (o : ME) (es : List ME)
  | mu (m : Mu) (i : Nat) (es : List ME)
  | isi (a : ME) (ts : List Ty)
  | fld (a : ME) (f : Str)
  | lc (elt : ME) (t : Tgt) (it : MI) (cs : List ME) (own : List Nat)
inductive MI where
  | seq (a : ME)
  | rng1 (a : ME)
  | rng2 (a b : ME)
  | enum (a : ME)
  | zip (a b : ME)
end
inductive MS where
  | expr (a : ME)
  | ret (a : ME)
  | retN
  | set (t : Tgt) (a : ME)
  | par (is : List Nat) (es : List ME)
  | aug (i : Nat) (op : Operator) (a : ME)
  | setix (i : Nat) (k a : ME)
  | ite (c : ME) (a b : List MS)
  | for_ (t : Tgt) (it : MI) (body : List MS)
  | while (c : ME) (body : List MS)
  | raise (c : Str) (es : List ME)
  | tryset (body : List MS) (c : Str) (n y : Nat)
  | pass
  | brk
  | cont

/-! ### running -/
structure Ctx where
  call : Nat → List Val → CRes
  sub : Str → Str → Bool
  flds : Str → List Str
  /-- slots that hold what is lent: they are not rebound -/
  pr : List Bool

def setSl (c : Ctx) (e : Env) (i : Nat) (v : Val) : Option Env := if c.pr[i]? = some true ∨ e.length ≤ i then none else some (e.set i (some v))
/-- a value that is stored: what another slot owns is frozen -/
def stow (e : Env) : Val → Option (Val × Env)
  | .pk i => (take e (.pk i)).map fun p => (.d p.1, p.2)
  | v => some (v, e)
mutual
def asg (c : Ctx) : Tgt → Val → Env → Option Env
  | .nm i, v, e => setSl c e i v
  | .tup ts, .d (.tuple ds), e => asgs c ts ds e
  | _, _, _ => none
def asgs (c : Ctx) : List Tgt → List D → Env → Option Env
  | [], [], e => some e
  | t :: ts, x :: xs, e => (asg c t (.d x) e).bind fun e1 => asgs c ts xs e1
  | _, _, _ => none
end
def isiD : D → String → Bool
  | .none, t => t == "NoneType" || t == "object"
  | .bool _, t => t == "bool" || t == "int" || t == "object"
  | .int _, t => t == "int" || t == "object"
  | .str _, t => t == "str" || t == "object"
  | .list _, t => t == "list" || t == "object"
  | .tuple _, t => t == "tuple" || t == "object"
  | .dict _, t => t == "dict" || t == "object"
def tyD : Ty → D → Bool
  | .bt n, x => isiD x n
  | .cl _, _ => false
def excBases : List String := ["ValueError", "Exception", "BaseException", "object"]
def tyE (sub : Str → Str → Bool) (x : Str) : Ty → Bool
  | .bt n => excBases.contains n
  | .cl c => sub x c
def isiV (c : Ctx) (e : Env) (v : Val) (ts : List Ty) : Option Bool := match v with
  | .ex x [] => some (ts.any fun t => tyE c.sub x t)
  | .ex _ _ => none
  | v => (see e v).map fun x => ts.any fun t => tyD t x
def pks : List Val → List Nat
  | [] => []
  | .pk i :: r => i :: pks r
  | _ :: r => pks r
def lend (e : Env) : List Val → Option (List Val)
  | [] => some []
  | .pk i :: r => (getS e i).bind fun v => (lend e r).map (v :: ·)
  | v :: r => (lend e r).map (v :: ·)
def back (e : Env) : List Val → List Val → Env
  | .pk i :: r, a :: as => back (e.set i (some a)) r as
  | _ :: r, _ :: as => back e r as
  | _, _ => e
def runCall (c : Ctx) (f : Nat) (vs : List Val) (e : Env) : Res Val := if (pks vs).Nodup then match lend e vs with
    | some as => match c.call f as with
      | .ok v as' => .ok v (back e vs as')
      | .ex x as' => .ex x (back e vs as')
      | .no => .no
    | none => .no
  else .no
def opt {α : Type} (o : Option α) (e : Env) : Res α := match o with
  | some a => .ok a e
  | none => .no
def sees (e : Env) : List Val → Option (List D)
  | [] => some []
  | v :: vs => match see e v, sees e vs with
    | some x, some xs => some (x :: xs)
    | _, _ => none
def wipeE (e : Env) : List Nat → Env
  | [] => e
  | i :: r => (wipeE e r).set i none
def backE (e0 e : Env) : List Nat → Env
  | [] => e
  | i :: r => (backE e0 e r).set i ((e0[i]?).join)
def lcLoop (f : D → Env → Res (Option D)) : List D → List D → Env → Res (List D)
  | [], acc, e => .ok acc e
  | x :: xs, acc, e => (f x e).bind fun o e1 => match o with
    | some y => if acc.length < lineN then lcLoop f xs (acc ++ [y]) e1 else .no
    | none => lcLoop f xs acc e1
/-- a block's own names: nothing that is owned is hidden -/
def lcFree (c : Ctx) (e : Env) (i : Nat) : Bool := !decide (c.pr[i]? = some true) && match getS e i with
  | some v => !owned v
  | none => true
def isOl : Option Val → Bool
  | some (.ol _) => true
  | _ => false
def noEx {α : Type} : Res α → Res α
  | .ok a e => .ok a e
  | _ => .no
def enumV (k : Nat) : List D → List D
  | [] => []
  | x :: r => .tuple [.int k, x] :: enumV (k + 1) r
def zipV : List D → List D → List D
  | x :: xs, y :: ys => .tuple [x, y] :: zipV xs ys
  | _, _ => []
def rangeV (lo : Int) : Nat → List D
  | 0 => []
  | n + 1 => .int lo :: rangeV (lo + 1) n
def signsD (z : Str) : List D := z.cps.toList.map fun c => .str ⟨#[c]⟩
/-- what is walked; a slot's own list is frozen for good -/
def walkV (e : Env) (v : Val) : Option (List D × Env) := (take e v).bind fun p => match p.1 with
  | .list xs => some (xs, p.2)
  | .tuple xs => some (xs, p.2)
  | .str z => if z.length ≤ lineN then some (signsD z, p.2) else none
  | _ => none
def walkL (e : Env) (v : Val) : Option (List D × Env) := (take e v).bind fun p => match p.1 with
  | .list xs => some (xs, p.2)
  | _ => none
def excOf (c : Ctx) (x : Str) (ds : List D) : Ex := ⟨x, (c.flds x).zip ds⟩
mutual
def ev (c : Ctx) : ME → Env → Res Val
  | .c x, e => .ok (.d x) e
  | .v i, e => match getS e i with
    | some (.ol _) => .ok (.pk i) e
    | some (.od _) => .ok (.pk i) e
    | some (.pk _) => .no
    | some v => .ok v e
    | none => .no
  | .bin op a b, e => (ev c a e).bind fun va e1 => (ev c b e1).bind fun vb e2 => match see e2 va, see e2 vb with
    | some x, some y => opt (binD op x y) e2
    | _, _ => .no
  | .neg a, e => (ev c a e).bind fun va e1 => match va with
    | .d (.int i) => .ok (.d (.int (-i))) e1
    | _ => .no
  | .cmp op a b, e => (ev c a e).bind fun va e1 => (ev c b e1).bind fun vb e2 => match see e2 va, see e2 vb with
    | some x, some y => opt ((cmpD op x y).map fun k => .d (.bool k)) e2
    | _, _ => .no
  | .isN neg a, e => (ev c a e).bind fun va e1 => opt ((nonV e1 va).map fun k => .d (.bool (if neg then !k else k))) e1
  | .isB neg a k, e => (ev c a e).bind fun va e1 => opt ((truV va).map fun x => .d (.bool (if neg then !decide (x = k) else decide (x = k)))) e1
  | .chain op op' a b d, e => (ev c a e).bind fun va e1 => (ev c b e1).bind fun vb e2 => match see e2 va, see e2 vb with
    | some x, some y => match cmpD op x y with
      | some true => (ev c d e2).bind fun vd e3 => match see e3 vb, see e3 vd with
        | some y', some z => opt ((cmpD op' y' z).map fun k => .d (.bool k)) e3
        | _, _ => .no
      | some false => .ok (.d (.bool false)) e2
      | none => .no
    | _, _ => .no
  | .and a b, e => (ev c a e).bind fun va e1 => match va with
    | .d (.bool true) => ev c b e1
    | .d (.bool false) => .ok (.d (.bool false)) e1
    | _ => .no
  | .or a b, e => (ev c a e).bind fun va e1 => match va with
    | .d (.bool false) => ev c b e1
    | .d (.bool true) => .ok (.d (.bool true)) e1
    | _ => .no
  | .not a, e => (ev c a e).bind fun va e1 => match va with
    | .d (.bool k) => .ok (.d (.bool (!k))) e1
    | _ => .no
  | .ite t a b, e => (ev c t e).bind fun vt e1 => match (see e1 vt).bind truD with
    | some true => ev c a e1
    | some false => ev c b e1
    | none => .no
  | .tup es, e => (evs c es e).bind fun vs e1 => match takes e1 vs with
    | some (ds, e2) => if ds.length ≤ lineN then .ok (.d (.tuple ds)) e2 else .no
    | none => .no
  | .lst es, e => (evs c es e).bind fun vs e1 => match takes e1 vs with
    | some (ds, e2) => if ds.length ≤ lineN then .ok (.ol (ds.map .d)) e2 else .no
    | none => .no
  | .dic es, e => (evs c es e).bind fun vs e1 => match takes e1 vs with
    | some (ds, e2) => match twosK ds with
      | some kvs => if kvs.length ≤ 15 then .ok (.od (liftK (mergeD [] kvs))) e2 else .no
      | none => .no
    | none => .no
  | .idx a i, e => (ev c a e).bind fun va e1 => (ev c i e1).bind fun vi e2 => match see e2 va, see e2 vi with
    | some x, some k => opt ((idxD x k).map .d) e2
    | _, _ => .no
  | .sli a lo hi, e => (ev c a e).bind fun va e1 => (evo c lo e1).bind fun l e2 => (evo c hi e2).bind fun h e3 => match see e3 va with
    | some x => opt (sliD x l h) e3
    | none => .no
  | .call f es, e => (evs c es e).bind fun vs e1 => runCall c f vs e1
  | .bi b es, e => (evs c es e).bind fun vs e1 => match sees e1 vs with
    | some ds => opt (biD b ds) e1
    | none => .no
  | .mt m o es, e => (ev c o e).bind fun vo e1 => match vo with
    | .d (.str t) => (evs c es e1).bind fun vs e2 => match sees e2 vs with
      | some ds => opt (mtD m (.str t) ds) e2
      | none => .no
    | _ => .no
  | .mu m i es, e => if isOl (getS e i) = true then (evs c es e).bind fun vs e1 => match takes e1 vs with
    | some (ds, e2) => match getS e2 i with
      | some o => match muV m o ds with
        | some (r, o') => .ok r (e2.set i (some o'))
        | none => .no
      | none => .no
    | none => .no
    else .no
  | .isi a ts, e => (ev c a e).bind fun va e1 => opt ((isiV c e1 va ts).map fun k => .d (.bool k)) e1
  | .fld a f, e => (ev c a e).bind fun va e1 => match va with
    | .ex _ fs => opt ((fs.lookup f).map .d) e1
    | _ => .no
  | .lc elt t it cs own, e => (evi c it e).bind fun xs e1 => if own.all (lcFree c e1) = true then
      (noEx (lcLoop (fun x e2 => match asg c t (.d x) e2 with
        | some e3 => (evt c cs e3).bind fun k e4 => if k = true then (ev c elt e4).bind fun v e5 => match take e5 v with
            | some (y, e6) => .ok (some y) (wipeE e6 own)
            | none => .no
          else .ok none (wipeE e4 own)
        | none => .no) xs [] (wipeE e1 own))).bind fun ys e2 => .ok (.ol (ys.map .d)) (backE e1 e2 own)
    else .no
def evs (c : Ctx) : List ME → Env → Res (List Val)
  | [], e => .ok [] e
  | a :: r, e => (ev c a e).bind fun v e1 => (evs c r e1).bind fun vs e2 => .ok (v :: vs) e2
def evo (c : Ctx) : Option ME → Env → Res (Option Int)
  | none, e => .ok none e
  | some a, e => (ev c a e).bind fun v e1 => match v with
    | .d (.int i) => .ok (some i) e1
    | _ => .no
/-- the tests of a comprehension -/
def evt (c : Ctx) : List ME → Env → Res Bool
  | [], e => .ok true e
  | a :: r, e => (ev c a e).bind fun v e1 => match (see e1 v).bind truD with
    | some true => evt c r e1
    | some false => .ok false e1
    | none => .no
def evi (c : Ctx) : MI → Env → Res (List D)
  | .seq a, e => (ev c a e).bind fun v e1 => match walkV e1 v with
    | some (xs, e2) => .ok xs e2
    | none => .no
  | .rng1 a, e => (ev c a e).bind fun v e1 => match v with
    | .d (.int j) => if -(2 ^ 62) ≤ j ∧ j < 2 ^ 62 then .ok (rangeV 0 j.toNat) e1 else .no
    | _ => .no
  | .rng2 a b, e => (ev c a e).bind fun v e1 => (ev c b e1).bind fun u e2 => match v, u with
    | .d (.int i), .d (.int j) => if -(2 ^ 62) ≤ i ∧ i < 2 ^ 62 ∧ -(2 ^ 62) ≤ j ∧ j < 2 ^ 62 then .ok (rangeV i (j - i).toNat) e2 else .no
    | _, _ => .no
  | .enum a, e => (ev c a e).bind fun v e1 => match walkL e1 v with
    | some (xs, e2) => .ok (enumV 0 xs) e2
    | none => .no
  | .zip a b, e => (ev c a e).bind fun v e1 => (ev c b e1).bind fun u e2 => match takes e2 [v, u] with
    | some ([.list xs, .list ys], e3) => .ok (zipV xs ys) e3
    | some ([.tuple xs, .tuple ys], e3) => .ok (zipV xs ys) e3
    | _ => .no
end

inductive Flow where
  | nx | bk | ct
  | ret (v : Val)
def forL (f : D → Env → Res Flow) : List D → Env → Res Flow
  | [], e => .ok .nx e
  | x :: xs, e => (f x e).bind fun fl e1 => match fl with
    | .nx => forL f xs e1
    | .ct => forL f xs e1
    | .bk => .ok .nx e1
    | .ret v => .ok (.ret v) e1
def whileL (t : Env → Res Bool) (f : Env → Res Flow) : Nat → Env → Res Flow
  | 0, _ => .no
  | n + 1, e => (t e).bind fun k e1 => if k then (f e1).bind fun fl e2 => match fl with
      | .nx => whileL t f n e2
      | .ct => whileL t f n e2
      | .bk => .ok .nx e2
      | .ret v => .ok (.ret v) e2
    else .ok .nx e1
def whileFuel : Nat := 2 ^ 40
/-- what is handed back: a slot's own list goes with it, but what is lent is frozen -/
def handOut (c : Ctx) (e : Env) : Val → Option (Val × Env)
  | .pk i => if c.pr[i]? = some true then stow e (.pk i) else (getS e i).map fun v => (v, e.set i none)
  | v => some (v, e)
def setAll (c : Ctx) : List Nat → List Val → Env → Option Env
  | [], [], e => some e
  | i :: is, v :: vs, e => (setSl c e i v).bind fun e1 => setAll c is vs e1
  | _, _, _ => none
def stowAll (e : Env) : List Val → Option (List Val × Env)
  | [] => some ([], e)
  | v :: vs => (stow e v).bind fun p => (stowAll p.2 vs).map fun q => (p.1 :: q.1, q.2)
def setIx (o : Val) (k : D) (x : D) : Option Val := match o with
  | .ol vs => (allD vs).bind fun ds => match k with
    | .int i => (L2.ixN ds.length i).map fun j => .ol ((ds.set j x).map .d)
    | _ => none
  | _ => none
def augD (op : Operator) (x y : D) : Option D := match op, x, y with
  | .Add, .int i, .int j => some (.int (i + j))
  | .Sub, .int i, .int j => some (.int (i - j))
  | _, _, _ => none
mutual
def ex (c : Ctx) : MS → Env → Res Flow
  | .expr a, e => (ev c a e).bind fun _ e1 => .ok .nx e1
  | .ret a, e => (ev c a e).bind fun v e1 => match handOut c e1 v with
    | some (v', e2) => .ok (.ret v') e2
    | none => .no
  | .retN, e => .ok (.ret (.d .none)) e
  | .set t a, e => (ev c a e).bind fun v e1 => match stow e1 v with
    | some (v', e2) => match asg c t v' e2 with
      | some e3 => .ok .nx e3
      | none => .no
    | none => .no
  | .par is es, e => (evs c es e).bind fun vs e1 => match stowAll e1 vs with
    | some (vs', e2) => match setAll c is vs' e2 with
      | some e3 => .ok .nx e3
      | none => .no
    | none => .no
  | .aug i op a, e => match getS e i with
    | some (.d x) => (ev c a e).bind fun v e1 => match see e1 v with
      | some y => match augD op x y with
        | some z => match setSl c e1 i (.d z) with
          | some e2 => .ok .nx e2
          | none => .no
        | none => .no
      | none => .no
    | _ => .no
  | .setix i k a, e => (ev c a e).bind fun v e1 => match take e1 v with
    | some (x, e2) => if isOl (getS e2 i) = true then (ev c k e2).bind fun vk e3 => match see e3 vk, getS e3 i with
      | some kd, some o => match setIx o kd x with
        | some o' => .ok .nx (e3.set i (some o'))
        | none => .no
      | _, _ => .no
      else .no
    | none => .no
  | .ite t a b, e => (ev c t e).bind fun v e1 => match (see e1 v).bind truD with
    | some true => exs c a e1
    | some false => exs c b e1
    | none => .no
  | .for_ t it body, e => (evi c it e).bind fun xs e1 => forL (fun x e2 => match asg c t (.d x) e2 with
    | some e3 => exs c body e3
    | none => .no) xs e1
  | .while t body, e => whileL (fun e1 => (ev c t e1).bind fun v e2 => opt ((see e2 v).bind truD) e2) (fun e1 => exs c body e1) whileFuel e
  | .raise x es, e => (evs c es e).bind fun vs e1 => match takes e1 vs with
    | some (ds, e2) => if ds.length ≤ lineN then .ex (excOf c x ds) e2 else .no
    | none => .no
  | .tryset body x n y, e => match exs c body e with
    | .ex z e1 => if c.sub z.c x then match setSl c e1 y (.ex z.c z.fs) with
        | some e2 => match setSl c e2 n (.ex z.c z.fs) with
          | some e3 => .ok .nx (e3.set n none)
          | none => .no
        | none => .no
      else .ex z e1
    | r => r
  | .pass, e => .ok .nx e
  | .brk, e => .ok .bk e
  | .cont, e => .ok .ct e
def exs (c : Ctx) : List MS → Env → Res Flow
  | [], e => .ok .nx e
  | a :: r, e => (ex c a e).bind fun fl e1 => match fl with
    | .nx => exs c r e1
    | fl => .ok fl e1
end

structure FD where
  name : Str
  np : Nat
  n : Nat
  mb : List MS
structure Prog where
  funs : List FD
  sub : Str → Str → Bool
  flds : Str → List Str
/-- what the lent slots came to -/
def parts (e : Env) : Nat → List Val → Option (List Val)
  | _, [] => some []
  | i, a :: r => if owned a = true then (getS e i).bind fun v => (parts e (i + 1) r).map (v :: ·) else (parts e (i + 1) r).map (a :: ·)
def endM (as : List Val) : Res Flow → CRes
  | .ok .nx e => match parts e 0 as with
    | some ps => .ok (.d .none) ps
    | none => .no
  | .ok (.ret v) e => match parts e 0 as with
    | some ps => .ok v ps
    | none => .no
  | .ex x e => match parts e 0 as with
    | some ps => .ex x ps
    | none => .no
  | _ => .no
def callM (G : Prog) : Nat → Nat → List Val → CRes
  | 0, _, _ => .no
  | k + 1, f, as => match G.funs[f]? with
    | some fd => if as.length = fd.np ∧ fd.np ≤ fd.n then
        endM as (exs ⟨callM G k, G.sub, G.flds, as.map owned⟩ fd.mb (as.map some ++ List.replicate (fd.n - fd.np) none))
      else .no
    | none => .no
end PM
end

section
set_option Elab.async false
set_option linter.all false
set_option maxRecDepth 100000
set_option maxHeartbeats 1000000
/-! PMRel: how the pure machine's values stand in HandS' abstract heap. -/
namespace PM
open PySem PySem.Spec PyProof.Rows L2

abbrev Fs := Addr → Prop

/-- a list that is never changed any more -/
def FzL (H : Hp) (F : Fs) (a : Addr) (us : List V) : Prop :=
  (H a = some (.lst us) ∧ F a) ∨ (∃ o, H a = some (.frz o (.lst us)))
def FzD (H : Hp) (F : Fs) (a : Addr) (ks : List (Key × V)) : Prop :=
  (H a = some (.dK ks) ∧ F a) ∨ (∃ o, H a = some (.frz o (.dK ks)))
mutual
inductive Den (K : PySem.W.Frag) (H : Hp) (F : Fs) : V → D → Prop
  | non : Den K H F .non .none
  | bl (b : Bool) : Den K H F (.bl b) (.bool b)
  | int (i : Int) : Den K H F (.int i) (.int i)
  | str (x : Str) : Den K H F (.str x) (.str x)
  | lst {a : Addr} {us : List V} {ds : List D} : FzL H F a us → Dens K H F us ds → Den K H F (.ref a) (.list ds)
  | tup {a : Addr} {us : List V} {ds : List D} : SqT K H a us → Dens K H F us ds → Den K H F (.ref a) (.tuple ds)
  | dic {a : Addr} {ks : List (Key × V)} {kvs : List (D × D)} : FzD H F a ks → DenKs K H F ks kvs → Den K H F (.ref a) (.dict kvs)
inductive Dens (K : PySem.W.Frag) (H : Hp) (F : Fs) : List V → List D → Prop
  | nil : Dens K H F [] []
  | cons {v : V} {vs : List V} {x : D} {xs : List D} : Den K H F v x → Dens K H F vs xs → Dens K H F (v :: vs) (x :: xs)
inductive DenKs (K : PySem.W.Frag) (H : Hp) (F : Fs) : List (Key × V) → List (D × D) → Prop
  | nil : DenKs K H F [] []
  | cons {k : Key} {v : V} {vs : List (Key × V)} {x : D} {xs : List (D × D)} : Den K H F v x → DenKs K H F vs xs → DenKs K H F ((k, v) :: vs) ((keyD k, x) :: xs)
end

/-- a caught exception's object -/
def exO (cls : Value) (d : Option Addr) (a : Addr) : HO := .ext fun h => ∃ (oe : Obj) (vs : Array Value), h.get? a = some oe ∧ Zc cls d oe ∧ oe.data = .fields vs
def XdR (K : PySem.W.Frag) (H : Hp) (F : Fs) (d : Option Addr) (fs : List (Str × D)) : Prop :=
  (fs = [] ∧ d = none) ∨ fs ≠ [] ∧ ∃ dx vs, d = some dx ∧ H dx = some (.xd vs) ∧ ∀ f x, fs.lookup f = some x → ∃ v, vs.lookup f = some v ∧ Den K H F v x
mutual
inductive VR (K : PySem.W.Frag) (ca : Str → Option Addr) (H : Hp) (F : Fs) : V → Val → List Addr → Prop
  | d {v : V} {x : D} : Den K H F v x → VR K ca H F v (.d x) []
  | ol {a : Addr} {us : List V} {vs : List Val} {fp : List Addr} : H a = some (.lst us) → VRs K ca H F us vs fp → VR K ca H F (.ref a) (.ol vs) (a :: fp)
  | od {a : Addr} {us : List (Key × V)} {vs : List (Key × Val)} {fp : List Addr} : H a = some (.dK us) → VRk K ca H F us vs fp → VR K ca H F (.ref a) (.od vs) (a :: fp)
  | ex {a C : Addr} {c : Str} {fs : List (Str × D)} {d : Option Addr} : ca c = some C → H a = some (exO (.ref C) d a) → XdR K H F d fs → VR K ca H F (.ref a) (.ex c fs) []
inductive VRs (K : PySem.W.Frag) (ca : Str → Option Addr) (H : Hp) (F : Fs) : List V → List Val → List Addr → Prop
  | nil : VRs K ca H F [] [] []
  | cons {u : V} {us : List V} {v : Val} {vs : List Val} {fp gp : List Addr} : VR K ca H F u v fp → VRs K ca H F us vs gp → VRs K ca H F (u :: us) (v :: vs) (fp ++ gp)
inductive VRk (K : PySem.W.Frag) (ca : Str → Option Addr) (H : Hp) (F : Fs) : List (Key × V) → List (Key × Val) → List Addr → Prop
  | nil : VRk K ca H F [] [] []
  | cons {k : Key} {u : V} {us : List (Key × V)} {v : Val} {vs : List (Key × Val)} {fp gp : List Addr} : VR K ca H F u v fp → VRk K ca H F us vs gp → VRk K ca H F ((k, u) :: us) ((k, v) :: vs) (fp ++ gp)
end

/-- what is owned may be written -/
def Mb (H : Hp) (a : Addr) : Prop := (∃ us, H a = some (.lst us)) ∨ ∃ ks, H a = some (.dK ks)
def Wok (H : Hp) (F W : Fs) : Prop := ∀ a, W a → ¬ F a ∧ Mb H a
structure Ext (H : Hp) (F W : Fs) (H' : Hp) (F' W' : Fs) : Prop where
  keep : ∀ a o, H a = some o → ¬ W a → H' a = some o
  live : ∀ a, H' a = none → H a = none
  own : ∀ a, W' a → W a ∨ H a = none
  fr : ∀ a, F a → F' a
  fr' : ∀ a, F' a → F a ∨ W a ∨ H a = none
theorem Ext.refl {H : Hp} {F W : Fs} : Ext H F W H F W := ⟨fun _ _ h _ => h, fun _ h => h, fun _ h => .inl h, fun _ h => h, fun _ h => .inl h⟩
theorem Ext.trans {H H1 H2 : Hp} {F F1 F2 W W1 W2 : Fs} (a : Ext H F W H1 F1 W1) (b : Ext H1 F1 W1 H2 F2 W2) : Ext H F W H2 F2 W2 where
  keep := fun x o h w => b.keep x o (a.keep x o h w) fun w1 => (a.own x w1).elim w fun n => by rw [n] at h; cases h
  live := fun x h => a.live x (b.live x h)
  own := fun x w => (b.own x w).elim (a.own x) fun n => .inr (a.live x n)
  fr := fun x h => b.fr x (a.fr x h)
  fr' := fun x h => (b.fr' x h).elim (a.fr' x) fun h => h.elim (fun w => (a.own x w).elim (fun w => .inr (.inl w)) fun n => .inr (.inr n)) fun n => .inr (.inr (a.live x n))

section
variable {K : PySem.W.Frag} {ca : Str → Option Addr} {H H' : Hp} {F F' W W' : Fs}
theorem SqT.ext (E : Ext H F W H' F' W') (w : Wok H F W) {a : Addr} {us : List V} (h : SqT K H a us) : SqT K H' a us := by
  rcases h with (h | ⟨o, h⟩) | h
  · refine .inl (.inl (E.keep _ _ h fun z => ?_))
    rcases (w a z).2 with ⟨_, q⟩ | ⟨_, q⟩ <;> (rw [h] at q; cases q)
  · refine .inl (.inr ⟨o, E.keep _ _ h fun z => ?_⟩)
    rcases (w a z).2 with ⟨_, q⟩ | ⟨_, q⟩ <;> (rw [h] at q; cases q)
  · exact .inr h
theorem FzL.ext (E : Ext H F W H' F' W') (w : Wok H F W) {a : Addr} {us : List V} (h : FzL H F a us) : FzL H' F' a us := by
  rcases h with ⟨h, f⟩ | ⟨o, h⟩
  · exact .inl ⟨E.keep _ _ h fun z => (w a z).1 f, E.fr _ f⟩
  · refine .inr ⟨o, E.keep _ _ h fun z => ?_⟩
    rcases (w a z).2 with ⟨_, q⟩ | ⟨_, q⟩ <;> (rw [h] at q; cases q)
theorem FzD.ext (E : Ext H F W H' F' W') (w : Wok H F W) {a : Addr} {us : List (Key × V)} (h : FzD H F a us) : FzD H' F' a us := by
  rcases h with ⟨h, f⟩ | ⟨o, h⟩
  · exact .inl ⟨E.keep _ _ h fun z => (w a z).1 f, E.fr _ f⟩
  · refine .inr ⟨o, E.keep _ _ h fun z => ?_⟩
    rcases (w a z).2 with ⟨_, q⟩ | ⟨_, q⟩ <;> (rw [h] at q; cases q)
mutual
theorem Den.ext (E : Ext H F W H' F' W') (w : Wok H F W) {v : V} {x : D} : Den K H F v x → Den K H' F' v x
  | .non => .non
  | .bl b => .bl b
  | .int i => .int i
  | .str z => .str z
  | .lst h r => .lst (FzL.ext E w h) (Dens.ext E w r)
  | .tup h r => .tup (SqT.ext E w h) (Dens.ext E w r)
  | .dic h r => .dic (FzD.ext E w h) (DenKs.ext E w r)
theorem Dens.ext (E : Ext H F W H' F' W') (w : Wok H F W) {vs : List V} {xs : List D} : Dens K H F vs xs → Dens K H' F' vs xs
  | .nil => .nil
  | .cons h r => .cons (Den.ext E w h) (Dens.ext E w r)
theorem DenKs.ext (E : Ext H F W H' F' W') (w : Wok H F W) {vs : List (Key × V)} {xs : List (D × D)} : DenKs K H F vs xs → DenKs K H' F' vs xs
  | .nil => .nil
  | .cons h r => .cons (Den.ext E w h) (DenKs.ext E w r)
end
theorem XdR.ext (E : Ext H F W H' F' W') (w : Wok H F W) {d : Option Addr} {fs : List (Str × D)} (h : XdR K H F d fs) : XdR K H' F' d fs := by
  rcases h with h | ⟨ne, dx, vs, e, h, r⟩
  · exact .inl h
  · refine .inr ⟨ne, dx, vs, e, E.keep _ _ h fun z => ?_, fun f x l => ?_⟩
    · rcases (w dx z).2 with ⟨_, q⟩ | ⟨_, q⟩ <;> (rw [h] at q; cases q)
    · obtain ⟨v, l', q⟩ := r f x l
      exact ⟨v, l', q.ext E w⟩
mutual
theorem VR.ext (E : Ext H F W H' F' W') (w : Wok H F W) {u : V} {v : Val} {fp : List Addr} : VR K ca H F u v fp → (∀ a ∈ fp, ¬ W a) → VR K ca H' F' u v fp
  | .d h, _ => .d (h.ext E w)
  | .ol h r, n => .ol (E.keep _ _ h (n _ List.mem_cons_self)) (VRs.ext E w r fun a m => n a (List.mem_cons_of_mem _ m))
  | .od h r, n => .od (E.keep _ _ h (n _ List.mem_cons_self)) (VRk.ext E w r fun a m => n a (List.mem_cons_of_mem _ m))
  | .ex c h r, _ => .ex c (E.keep _ _ h fun z => by rcases (w _ z).2 with ⟨_, q⟩ | ⟨_, q⟩ <;> (rw [h] at q; cases q)) (r.ext E w)
theorem VRs.ext (E : Ext H F W H' F' W') (w : Wok H F W) {us : List V} {vs : List Val} {fp : List Addr} : VRs K ca H F us vs fp → (∀ a ∈ fp, ¬ W a) → VRs K ca H' F' us vs fp
  | .nil, _ => .nil
  | .cons h r, n => .cons (VR.ext E w h fun a m => n a (List.mem_append_left _ m)) (VRs.ext E w r fun a m => n a (List.mem_append_right _ m))
theorem VRk.ext (E : Ext H F W H' F' W') (w : Wok H F W) {us : List (Key × V)} {vs : List (Key × Val)} {fp : List Addr} : VRk K ca H F us vs fp → (∀ a ∈ fp, ¬ W a) → VRk K ca H' F' us vs fp
  | .nil, _ => .nil
  | .cons h r, n => .cons (VR.ext E w h fun a m => n a (List.mem_append_left _ m)) (VRk.ext E w r fun a m => n a (List.mem_append_right _ m))
end
mutual
theorem VR.mb {u : V} {v : Val} {fp : List Addr} : VR K ca H F u v fp → ∀ a ∈ fp, Mb H a
  | .d _, a, m => by cases m
  | .ol h r, a, m => by
    rcases List.mem_cons.mp m with e | m
    · subst e; exact .inl ⟨_, h⟩
    · exact VRs.mb r a m
  | .od h r, a, m => by
    rcases List.mem_cons.mp m with e | m
    · subst e; exact .inr ⟨_, h⟩
    · exact VRk.mb r a m
  | .ex _ _ _, a, m => by cases m
theorem VRs.mb {us : List V} {vs : List Val} {fp : List Addr} : VRs K ca H F us vs fp → ∀ a ∈ fp, Mb H a
  | .nil, a, m => by cases m
  | .cons h r, a, m => (List.mem_append.mp m).elim (VR.mb h a) (VRs.mb r a)
theorem VRk.mb {us : List (Key × V)} {vs : List (Key × Val)} {fp : List Addr} : VRk K ca H F us vs fp → ∀ a ∈ fp, Mb H a
  | .nil, a, m => by cases m
  | .cons h r, a, m => (List.mem_append.mp m).elim (VR.mb h a) (VRk.mb r a)
end
theorem Mb.some {a : Addr} (h : Mb H a) : H a ≠ none := by
  rcases h with ⟨_, h⟩ | ⟨_, h⟩ <;> (rw [h]; exact fun z => nomatch z)

/-- a frame's slots -/
structure Rel (K : PySem.W.Frag) (ca : Str → Option Addr) (σ : L2.St) (H : Hp) (e : Env) (F : Fs) (own : Nat → List Addr) : Prop where
  len : e.length = σ.length
  slot : ∀ i v, getS e i = some v → ∃ u, σ[i]? = some (some u) ∧ VR K ca H F u v (own i)
  non : ∀ i, getS e i = none → own i = []
  nd : ∀ i, (own i).Nodup
  dj : ∀ i j a, a ∈ own i → a ∈ own j → i = j
  nf : ∀ i a, a ∈ own i → ¬ F a
  al : ∀ a, F a → H a ≠ none
def Ow (own : Nat → List Addr) : Fs := fun a => ∃ i, a ∈ own i
theorem Rel.wok {σ : L2.St} {e : Env} {own : Nat → List Addr} (R : Rel K ca σ H e F own) : Wok H F (Ow own) := fun a ⟨i, m⟩ => by
  refine ⟨R.nf i a m, ?_⟩
  cases h : getS e i with
  | none => rw [R.non i h] at m; cases m
  | some v =>
    obtain ⟨u, _, r⟩ := R.slot i v h
    exact r.mb a m
/-- an expression's value: what a slot owns, or a value of its own -/
inductive RV (K : PySem.W.Frag) (ca : Str → Option Addr) (σ : L2.St) (H : Hp) (F W : Fs) : V → Val → List Addr → Prop
  | pk {i : Nat} {u : V} : σ[i]? = some (some u) → RV K ca σ H F W u (.pk i) []
  | val {u : V} {v : Val} {fp : List Addr} : VR K ca H F u v fp → fp.Nodup → (∀ a ∈ fp, ¬ F a ∧ ¬ W a) → RV K ca σ H F W u v fp
inductive RVs (K : PySem.W.Frag) (ca : Str → Option Addr) (σ : L2.St) (H : Hp) (F W : Fs) : List V → List Val → List Addr → Prop
  | nil : RVs K ca σ H F W [] [] []
  | cons {u : V} {us : List V} {v : Val} {vs : List Val} {fp gp : List Addr} : RV K ca σ H F W u v fp → RVs K ca σ H F W us vs gp → (∀ a ∈ fp, a ∉ gp) → RVs K ca σ H F W (u :: us) (v :: vs) (fp ++ gp)
theorem VR.fresh (E : Ext H F W H' F' W') {u : V} {v : Val} {fp : List Addr} (h : VR K ca H F u v fp) (n : ∀ a ∈ fp, ¬ F a ∧ ¬ W a) : ∀ a ∈ fp, ¬ F' a ∧ ¬ W' a := fun a m => by
  have s := (h.mb a m).some
  refine ⟨fun f => ?_, fun w => ?_⟩
  · rcases E.fr' a f with f | w | z
    · exact (n a m).1 f
    · exact (n a m).2 w
    · exact s z
  · rcases E.own a w with w | z
    · exact (n a m).2 w
    · exact s z
theorem RV.ext {σ : L2.St} (E : Ext H F W H' F' W') (w : Wok H F W) {u : V} {v : Val} {fp : List Addr} : RV K ca σ H F W u v fp → RV K ca σ H' F' W' u v fp
  | .pk h => .pk h
  | .val h n f => .val (h.ext E w fun a m => (f a m).2) n (h.fresh E f)
theorem RVs.ext {σ : L2.St} (E : Ext H F W H' F' W') (w : Wok H F W) {us : List V} {vs : List Val} {fp : List Addr} : RVs K ca σ H F W us vs fp → RVs K ca σ H' F' W' us vs fp
  | .nil => .nil
  | .cons h r d => .cons (h.ext E w) (RVs.ext E w r) d
theorem RV.mb {σ : L2.St} {u : V} {v : Val} {fp : List Addr} : RV K ca σ H F W u v fp → ∀ a ∈ fp, Mb H a ∧ ¬ W a
  | .pk h, a, m => by cases m
  | .val h _ f, a, m => ⟨h.mb a m, (f a m).2⟩
theorem RVs.mb {σ : L2.St} {us : List V} {vs : List Val} {fp : List Addr} : RVs K ca σ H F W us vs fp → ∀ a ∈ fp, Mb H a ∧ ¬ W a
  | .nil, a, m => by cases m
  | .cons h r d, a, m => (List.mem_append.mp m).elim (h.mb a) (RVs.mb r a)

/-! ### what a run is to reach -/
def PR {α : Type} (r : Res α) (k : α → Env → Prop) (kx : Ex → Env → Prop) : Prop := match r with
  | .ok a e => k a e
  | .ex x e => kx x e
  | .no => False
theorem PR.bind {α β : Type} {r : Res α} {f : α → Env → Res β} {k : β → Env → Prop} {kx : Ex → Env → Prop} (h : PR (r.bind f) k kx) : PR r (fun a e => PR (f a e) k kx) kx := by
  cases r <;> exact h
theorem PR.mono {α : Type} {r : Res α} {k k' : α → Env → Prop} {kx kx' : Ex → Env → Prop} (h : PR r k kx) (a : ∀ x e, k x e → k' x e) (b : ∀ x e, kx x e → kx' x e) : PR r k' kx' := by
  cases r with
  | ok x e => exact a x e h
  | ex x e => exact b x e h
  | no => exact h
theorem PR.opt {α : Type} {o : Option α} {e : Env} {k : α → Env → Prop} {kx : Ex → Env → Prop} (h : PR (PM.opt o e) k kx) : ∃ a, o = some a ∧ k a e := by
  cases o with
  | none => exact h.elim
  | some a => exact ⟨a, rfl, h⟩

/-- an exception as it leaves -/
def ExR (K : PySem.W.Frag) (ca : Str → Option Addr) (H : Hp) (F : Fs) (x : Ex) (cls : Value) (d : Option Addr) : Prop :=
  ∃ C, ca x.c = some C ∧ cls = .ref C ∧ XdR K H F d x.fs
abbrev Wish := Value → Option Addr → L2.St → Hp → Prop
def QX (K : PySem.W.Frag) (ca : Str → Option Addr) (Wx : Wish) (σ : L2.St) (H : Hp) (F W : Fs) : Ex → Env → Prop := fun x e => ∀ cls d H' F' own, Rel K ca σ H' e F' own → ExR K ca H' F' x cls d → Ext H F W H' F' (Ow own) → Wx cls d σ H'
def QV (K : PySem.W.Frag) (ca : Str → Option Addr) (σ : L2.St) (H : Hp) (F W : Fs) (Q : VK) : Val → Env → Prop := fun v e => ∀ u H' F' own fp, Rel K ca σ H' e F' own → RV K ca σ H' F' (Ow own) u v fp → (∀ a ∈ fp, W a ∨ H a = none) → Ext H F W H' F' (Ow own) → Q u H'
def QVs (K : PySem.W.Frag) (ca : Str → Option Addr) (σ : L2.St) (H : Hp) (F W : Fs) (Q : List V → Hp → Prop) : List Val → Env → Prop := fun v e => ∀ u H' F' own fp, Rel K ca σ H' e F' own → RVs K ca σ H' F' (Ow own) u v fp → (∀ a ∈ fp, W a ∨ H a = none) → Ext H F W H' F' (Ow own) → Q u H'
theorem fp_shift {H1 : Hp} {F1 W1 : Fs} (E : Ext H F W H1 F1 W1) {fp : List Addr} (n : ∀ a ∈ fp, W1 a ∨ H1 a = none) : ∀ a ∈ fp, W a ∨ H a = none := fun a m => (n a m).elim (E.own a) fun z => .inr (E.live a z)
theorem QX.shift {Wx : Wish} {σ : L2.St} {H1 : Hp} {F1 W1 : Fs} {x : Ex} {e : Env} (E : Ext H F W H1 F1 W1) (q : QX K ca Wx σ H F W x e) : QX K ca Wx σ H1 F1 W1 x e :=
  fun cls d H' F' own R r E' => q cls d H' F' own R r (E.trans E')
theorem QV.shift {σ : L2.St} {H1 : Hp} {F1 W1 : Fs} {Q : VK} {v : Val} {e : Env} (E : Ext H F W H1 F1 W1) (q : QV K ca σ H F W Q v e) : QV K ca σ H1 F1 W1 Q v e :=
  fun u H' F' own fp R r n E' => q u H' F' own fp R r (fp_shift E n) (E.trans E')
theorem QVs.shift {σ : L2.St} {H1 : Hp} {F1 W1 : Fs} {Q : List V → Hp → Prop} {v : List Val} {e : Env} (E : Ext H F W H1 F1 W1) (q : QVs K ca σ H F W Q v e) : QVs K ca σ H1 F1 W1 Q v e :=
  fun u H' F' own fp R r n E' => q u H' F' own fp R r (fp_shift E n) (E.trans E')
/-- the readings of the machine's expressions -/
def tI (K : PySem.W.Frag) (ca : Str → Option Addr) (Wx : Wish) (c : Ctx) (m : ME) : TE := fun σ H Q => ∃ e F own, Rel K ca σ H e F own ∧ PR (ev c m e) (QV K ca σ H F (Ow own) Q) (QX K ca Wx σ H F (Ow own))
def tIs (K : PySem.W.Frag) (ca : Str → Option Addr) (Wx : Wish) (c : Ctx) (ms : List ME) : TA := fun σ H Q => ∃ e F own, Rel K ca σ H e F own ∧ PR (evs c ms e) (QVs K ca σ H F (Ow own) Q) (QX K ca Wx σ H F (Ow own))

/-! ### seeing -/
abbrev See (K : PySem.W.Frag) (H : Hp) : V → D → Prop := Den K H fun _ => True
abbrev Sees (K : PySem.W.Frag) (H : Hp) : List V → List D → Prop := Dens K H fun _ => True
mutual
theorem Den.more {F F' : Fs} (h : ∀ a, F a → F' a) {v : V} {x : D} : Den K H F v x → Den K H F' v x
  | .non => .non
  | .bl b => .bl b
  | .int i => .int i
  | .str z => .str z
  | .lst z r => .lst (z.elim (fun z => .inl ⟨z.1, h _ z.2⟩) .inr) (Dens.more h r)
  | .tup z r => .tup z (Dens.more h r)
  | .dic z r => .dic (z.elim (fun z => .inl ⟨z.1, h _ z.2⟩) .inr) (DenKs.more h r)
theorem Dens.more {F F' : Fs} (h : ∀ a, F a → F' a) {v : List V} {x : List D} : Dens K H F v x → Dens K H F' v x
  | .nil => .nil
  | .cons a r => .cons (Den.more h a) (Dens.more h r)
theorem DenKs.more {F F' : Fs} (h : ∀ a, F a → F' a) {v : List (Key × V)} {x : List (D × D)} : DenKs K H F v x → DenKs K H F' v x
  | .nil => .nil
  | .cons a r => .cons (Den.more h a) (DenKs.more h r)
end
theorem Den.see {v : V} {x : D} (h : Den K H F v x) : See K H v x := h.more fun _ _ => trivial
/-- frozen items of an owned list -/
theorem VRs.dens : ∀ {vs : List Val} {us : List V} {ds : List D} {fp : List Addr}, VRs K ca H F us vs fp → allD vs = some ds → Dens K H F us ds ∧ fp = []
  | [], us, ds, fp, h, e => by
    cases h
    cases e
    exact ⟨.nil, rfl⟩
  | v :: vs, us, ds, fp, h, e => by
    cases h with
    | cons h r =>
      unfold allD at e
      cases h1 : isD v with
      | none => rw [h1] at e; cases e
      | some x =>
        cases h2 : allD vs with
        | none => rw [h1, h2] at e; cases e
        | some xs =>
          rw [h1, h2] at e
          cases e
          obtain ⟨q, rfl⟩ := VRs.dens r h2
          cases v with
          | d y =>
            cases h1
            cases h with
            | d h => exact ⟨.cons h q, rfl⟩
          | _ => cases h1
theorem VRk.dens : ∀ {vs : List (Key × Val)} {us : List (Key × V)} {ds : List (D × D)} {fp : List Addr}, VRk K ca H F us vs fp → allKD vs = some ds → DenKs K H F us ds ∧ fp = []
  | [], us, ds, fp, h, e => by
    cases h
    cases e
    exact ⟨.nil, rfl⟩
  | (k, v) :: vs, us, ds, fp, h, e => by
    cases h with
    | cons h r =>
      unfold allKD at e
      cases h1 : isD v with
      | none => rw [h1] at e; cases e
      | some x =>
        cases h2 : allKD vs with
        | none => rw [h1, h2] at e; cases e
        | some xs =>
          rw [h1, h2] at e
          cases e
          obtain ⟨q, rfl⟩ := VRk.dens r h2
          cases v with
          | d y =>
            cases h1
            cases h with
            | d h => exact ⟨.cons h q, rfl⟩
          | _ => cases h1
theorem VR.see {u : V} {v : Val} {fp : List Addr} {x : D} (h : VR K ca H F u v fp) (e : frD v = some x) : See K H u x := by
  cases h with
  | d h => cases e; exact h.see
  | @ol a us vs fp hl r =>
    change Option.map PyData.list (allD vs) = some x at e
    cases h2 : allD vs with
    | none => rw [h2] at e; cases e
    | some ds =>
      rw [h2] at e
      cases e
      exact .lst (.inl ⟨hl, trivial⟩) ((r.dens h2).1.more fun _ _ => trivial)
  | @od a us vs fp hl r =>
    change Option.map PyData.dict (allKD vs) = some x at e
    cases h2 : allKD vs with
    | none => rw [h2] at e; cases e
    | some ds =>
      rw [h2] at e
      cases e
      exact .dic (.inl ⟨hl, trivial⟩) ((r.dens h2).1.more fun _ _ => trivial)
  | ex _ _ _ => cases e
theorem RV.see {σ : L2.St} {e : Env} {own : Nat → List Addr} {u : V} {v : Val} {fp : List Addr} {x : D} (R : Rel K ca σ H e F own) (h : RV K ca σ H F W u v fp) (s : see e v = some x) : See K H u x := by
  cases h with
  | @pk i u hs =>
    have s : (getS e i).bind frD = some x := s
    cases h1 : getS e i with
    | none => rw [h1] at s; cases s
    | some w =>
      rw [h1] at s
      obtain ⟨u', hs', r⟩ := R.slot i w h1
      rw [hs] at hs'
      cases hs'
      exact r.see s
  | val h _ _ =>
    cases h with
    | d h => cases s; exact h.see
    | ol h r => exact (VR.ol h r).see s
    | od h r => exact (VR.od h r).see s
    | ex a b c => cases s
theorem RVs.sees {σ : L2.St} {e : Env} {own : Nat → List Addr} (R : Rel K ca σ H e F own) : ∀ {vs : List Val} {us : List V} {fp : List Addr} {xs : List D}, RVs K ca σ H F W us vs fp → sees e vs = some xs → Sees K H us xs
  | [], us, fp, xs, h, s => by
    cases h
    cases s
    exact .nil
  | v :: vs, us, fp, xs, h, s => by
    cases h with
    | cons h r d =>
      unfold PM.sees at s
      cases h1 : see e v with
      | none => rw [h1] at s; cases s
      | some x =>
        cases h2 : PM.sees e vs with
        | none => rw [h1, h2] at s; cases s
        | some ys =>
          rw [h1, h2] at s
          cases s
          exact .cons (h.see R h1) (RVs.sees R r h2)
end
end PM
end

section
set_option Elab.async false
set_option linter.all false
set_option maxRecDepth 100000
set_option maxHeartbeats 1000000
/-! PMStep: steps of the relation: a slot stored, a value frozen, a new object, a list changed. -/
namespace PM
open PySem PySem.Spec PyProof.Rows L2
section
variable {K : PySem.W.Frag} {ca : Str → Option Addr} {σ : L2.St} {e : Env} {H H' : Hp} {F F' W W' U U' : Fs} {own : Nat → List Addr}

theorem Ext.widen (E : Ext H F W H' F' W') (h : ∀ a, W a → U a) (h' : ∀ a, U' a → U a ∨ H a = none) : Ext H F U H' F' U' :=
  ⟨fun a o q n => E.keep a o q fun w => n (h a w), E.live, h', E.fr, fun a f => (E.fr' a f).elim .inl fun z => .inr (z.imp (h a) id)⟩
theorem Ext.addT {H0 : Hp} {F0 W0 : Fs} {fp : List Addr} (E : Ext H0 F0 W0 H F W) (n : ∀ a ∈ fp, W0 a ∨ H0 a = none) : Ext H0 F0 W0 H F (fun a => W a ∨ a ∈ fp) :=
  ⟨E.keep, E.live, fun a w => w.elim (E.own a) (n a), E.fr, E.fr'⟩
/-- a new object -/
theorem Ext.alloc {p : Addr} {o : HO} (hp : H p = none) : Ext H F W (upd H p o) F W where
  keep := fun a u h _ => by rw [upd_ne (ne_of_none h hp)]; exact h
  live := fun a h => by
    by_cases q : a = p
    · subst q; exact hp
    · rw [upd_ne q] at h; exact h
  own := fun _ w => .inl w
  fr := fun _ h => h
  fr' := fun _ h => .inl h
/-- an owned object changed -/
theorem Ext.upd {p : Addr} {o : HO} (hp : W p) : Ext H F W (upd H p o) F W where
  keep := fun a u h n => by rw [upd_ne (fun z => n (by rw [z]; exact hp))]; exact h
  live := fun a h => by
    by_cases q : a = p
    · subst q; rw [upd_same] at h; cases h
    · rw [upd_ne q] at h; exact h
  own := fun _ w => .inl w
  fr := fun _ h => h
  fr' := fun _ h => .inl h
/-- what is given up is frozen -/
theorem Ext.freeze {T : Fs} (h : ∀ a, T a → W a) (h' : ∀ a, W' a → W a) : Ext H F W H (fun a => F a ∨ T a) W' :=
  ⟨fun _ _ q _ => q, fun _ q => q, fun a w => .inl (h' a w), fun _ f => .inl f, fun a f => f.elim .inl fun t => .inr (.inl (h a t))⟩
theorem Ext.same (h' : ∀ a, W' a → W a ∨ H a = none) : Ext H F W H F W' := ⟨fun _ _ q _ => q, fun _ q => q, h', fun _ f => f, fun a f => .inl f⟩

theorem getS_set {e : Env} {i j : Nat} {o : Option Val} : getS (e.set i o) j = if i = j ∧ i < e.length then o else getS e j := by
  unfold getS
  rw [List.getElem?_set]
  by_cases h : i = j
  · subst h
    by_cases q : i < e.length
    · simp [q]
    · simp [q, List.getElem?_eq_none (Nat.le_of_not_lt q)]
  · simp [h]
theorem getS_lt {e : Env} {i : Nat} {v : Val} (h : getS e i = some v) : i < e.length := by
  unfold getS at h
  cases q : e[i]? with
  | none => rw [q] at h; cases h
  | some o => exact (List.getElem?_eq_some_iff.mp q).1

/-- all slots stay -/
theorem Rel.ext (R : Rel K ca σ H e F own) (E : Ext H F W H' F' W') (hw : Wok H F W) (hW : ∀ j a, a ∈ own j → ¬ W a) (al : ∀ a, F' a → H' a ≠ none) : Rel K ca σ H' e F' own where
  len := R.len
  slot := fun i v h => by
    obtain ⟨u, hu, r⟩ := R.slot i v h
    exact ⟨u, hu, r.ext E hw (hW i)⟩
  non := R.non
  nd := R.nd
  dj := R.dj
  nf := fun i a m f => by
    have s := (R.wok a ⟨i, m⟩).2.some
    rcases E.fr' a f with f | w | z
    · exact R.nf i a m f
    · exact hW i a m w
    · exact s z
  al := al
/-- slot i is stored -/
theorem Rel.put {i : Nat} {u : V} {v : Val} {fp : List Addr} (R : Rel K ca σ H e F own) (hi : i < σ.length) (E : Ext H F W H' F' W') (hw : Wok H F W) (hW : ∀ j a, j ≠ i → a ∈ own j → ¬ W a)
    (r : VR K ca H' F' u v fp) (nd : fp.Nodup) (hfp : ∀ a ∈ fp, ¬ F' a ∧ (W a ∨ H a = none)) (al : ∀ a, F' a → H' a ≠ none) :
    Rel K ca (σ.set i (some u)) H' (e.set i (some v)) F' (fun j => if j = i then fp else own j) where
  len := by rw [List.length_set, List.length_set]; exact R.len
  slot := fun j w h => by
    rw [getS_set] at h
    by_cases q : i = j
    · subst q
      rw [if_pos ⟨rfl, by rw [R.len]; exact hi⟩] at h
      cases h
      refine ⟨u, by rw [List.getElem?_set_self hi], ?_⟩
      rw [if_pos rfl]
      exact r
    · rw [if_neg (fun z => q z.1)] at h
      obtain ⟨u', hu, r'⟩ := R.slot j w h
      refine ⟨u', by rw [List.getElem?_set_ne q]; exact hu, ?_⟩
      rw [if_neg (Ne.symm q)]
      exact r'.ext E hw (hW j · (Ne.symm q))
  non := fun j h => by
    rw [getS_set] at h
    by_cases q : i = j
    · subst q
      rw [if_pos ⟨rfl, by rw [R.len]; exact hi⟩] at h
      cases h
    · rw [if_neg (fun z => q z.1)] at h
      show (if j = i then fp else own j) = []
      rw [if_neg (Ne.symm q)]
      exact R.non j h
  nd := fun j => by
    by_cases q : j = i
    · show (if j = i then fp else own j).Nodup
      rw [if_pos q]; exact nd
    · show (if j = i then fp else own j).Nodup
      rw [if_neg q]; exact R.nd j
  dj := fun j k a h1 h2 => by
    have h1 : a ∈ (if j = i then fp else own j) := h1
    have h2 : a ∈ (if k = i then fp else own k) := h2
    by_cases q : j = i
    · by_cases q' : k = i
      · rw [q, q']
      · rw [if_pos q] at h1; rw [if_neg q'] at h2
        exact ((hfp a h1).2.elim (fun w => hW k a q' h2 w) fun z => (R.wok a ⟨k, h2⟩).2.some z).elim
    · by_cases q' : k = i
      · rw [if_neg q] at h1; rw [if_pos q'] at h2
        exact ((hfp a h2).2.elim (fun w => hW j a q h1 w) fun z => (R.wok a ⟨j, h1⟩).2.some z).elim
      · rw [if_neg q] at h1; rw [if_neg q'] at h2
        exact R.dj j k a h1 h2
  nf := fun j a m f => by
    have m : a ∈ (if j = i then fp else own j) := m
    by_cases q : j = i
    · rw [if_pos q] at m; exact (hfp a m).1 f
    · rw [if_neg q] at m
      rcases E.fr' a f with f | w | z
      · exact R.nf j a m f
      · exact hW j a q m w
      · exact (R.wok a ⟨j, m⟩).2.some z
  al := al
/-- slot i forgotten -/
theorem Rel.unset {i : Nat} {o : Option V} (R : Rel K ca σ H e F own) : Rel K ca (σ.set i o) H (e.set i none) F (fun j => if j = i then [] else own j) where
  len := by rw [List.length_set, List.length_set]; exact R.len
  slot := fun j w h => by
    rw [getS_set] at h
    by_cases q : i = j
    · subst q
      by_cases l : i < e.length
      · rw [if_pos ⟨rfl, l⟩] at h; cases h
      · rw [if_neg (fun z => l z.2)] at h
        exact absurd (getS_lt h) l
    · rw [if_neg (fun z => q z.1)] at h
      obtain ⟨u', hu, r'⟩ := R.slot j w h
      refine ⟨u', by rw [List.getElem?_set_ne q]; exact hu, ?_⟩
      rw [if_neg (Ne.symm q)]
      exact r'
  non := fun j h => by
    show (if j = i then [] else own j) = []
    by_cases q : j = i
    · rw [if_pos q]
    · rw [if_neg q]
      rw [getS_set, if_neg (fun z => q z.1.symm)] at h
      exact R.non j h
  nd := fun j => by
    show (if j = i then [] else own j).Nodup
    by_cases q : j = i
    · rw [if_pos q]; exact .nil
    · rw [if_neg q]; exact R.nd j
  dj := fun j k a h1 h2 => by
    have h1 : a ∈ (if j = i then [] else own j) := h1
    have h2 : a ∈ (if k = i then [] else own k) := h2
    by_cases q : j = i
    · rw [if_pos q] at h1; cases h1
    · by_cases q' : k = i
      · rw [if_pos q'] at h2; cases h2
      · rw [if_neg q] at h1; rw [if_neg q'] at h2
        exact R.dj j k a h1 h2
  nf := fun j a m f => by
    have m : a ∈ (if j = i then [] else own j) := m
    by_cases q : j = i
    · rw [if_pos q] at m; cases m
    · rw [if_neg q] at m; exact R.nf j a m f
  al := R.al

/-- what a value owns, frozen -/
theorem VR.freeze {u : V} {v : Val} {fp : List Addr} {x : D} (h : VR K ca H F u v fp) (e : frD v = some x) : Den K H (fun a => F a ∨ a ∈ fp) u x := by
  cases h with
  | d h => cases e; exact h.more fun _ z => .inl z
  | @ol a us vs fp hl r =>
    change Option.map PyData.list (allD vs) = some x at e
    cases h2 : allD vs with
    | none => rw [h2] at e; cases e
    | some ds =>
      rw [h2] at e
      cases e
      exact .lst (.inl ⟨hl, .inr List.mem_cons_self⟩) ((r.dens h2).1.more fun _ z => .inl z)
  | @od a us vs fp hl r =>
    change Option.map PyData.dict (allKD vs) = some x at e
    cases h2 : allKD vs with
    | none => rw [h2] at e; cases e
    | some ds =>
      rw [h2] at e
      cases e
      exact .dic (.inl ⟨hl, .inr List.mem_cons_self⟩) ((r.dens h2).1.more fun _ z => .inl z)
  | ex _ _ _ => cases e
theorem σset_self {i : Nat} {u : Option V} (h : σ[i]? = some u) : σ.set i u = σ := by
  apply List.ext_getElem?
  intro j
  rw [List.getElem?_set]
  by_cases q : i = j
  · subst q
    have l := (List.getElem?_eq_some_iff.mp h).1
    rw [if_pos rfl, if_pos l, h]
  · rw [if_neg q]
/-- a value taken: frozen -/
theorem RV.take {u : V} {v : Val} {fp : List Addr} {x : D} {e' : Env} (R : Rel K ca σ H e F own) (h : RV K ca σ H F (Ow own) u v fp) (t : PM.take e v = some (x, e')) :
    ∃ F' own', Rel K ca σ H e' F' own' ∧ Den K H F' u x ∧ Ext H F (fun a => Ow own a ∨ a ∈ fp) H F' (Ow own') := by
  have val : ∀ {u : V} {v : Val} {fp : List Addr}, VR K ca H F u v fp → (∀ a ∈ fp, ¬ F a ∧ ¬ Ow own a) → (frD v).map (fun y => (y, e)) = some (x, e') → ∃ F' own', Rel K ca σ H e' F' own' ∧ Den K H F' u x ∧ Ext H F (fun a => Ow own a ∨ a ∈ fp) H F' (Ow own') := fun {u v fp} r f t => by
    cases q : frD v with
    | none => rw [q] at t; cases t
    | some y =>
      rw [q] at t
      cases t
      have E : Ext H F (fun a => a ∈ fp) H (fun a => F a ∨ a ∈ fp) (fun _ => False) := Ext.freeze (fun _ z => z) fun _ z => z.elim
      refine ⟨_, own, R.ext E (fun a m => ⟨(f a m).1, r.mb a m⟩) (fun j a m z => (f a z).2 ⟨j, m⟩) ?_, r.freeze q, Ext.freeze (fun _ z => .inr z) fun _ z => .inl z⟩
      intro a z
      exact z.elim (R.al a) fun m => (r.mb a m).some
  cases h with
  | @pk i u hs =>
    have t : (getS e i).bind (fun v => (frD v).map fun x => (x, e.set i (some (.d x)))) = some (x, e') := t
    cases h1 : getS e i with
    | none => rw [h1] at t; cases t
    | some w =>
      rw [h1] at t
      have t : (frD w).map (fun x => (x, e.set i (some (.d x)))) = some (x, e') := t
      cases q : frD w with
      | none => rw [q] at t; cases t
      | some y =>
        rw [q] at t
        cases t
        obtain ⟨u', hs', r⟩ := R.slot i w h1
        rw [hs] at hs'
        cases hs'
        have fr := r.freeze q
        have E : Ext H F (fun a => a ∈ own i) H (fun a => F a ∨ a ∈ own i) (fun _ => False) := Ext.freeze (fun _ z => z) fun _ z => z.elim
        have al : ∀ a, (F a ∨ a ∈ own i) → H a ≠ none := fun a z => z.elim (R.al a) fun m => (r.mb a m).some
        have R' := R.put (i := i) (u := u) (v := .d x) (fp := []) (List.getElem?_eq_some_iff.mp hs).1 E (fun a m => ⟨R.nf i a m, r.mb a m⟩) (fun j a ne m z => ne (R.dj j i a m z)) (.d fr) .nil (fun a m => by cases m) al
        rw [σset_self hs] at R'
        refine ⟨_, _, R', fr, Ext.freeze (fun a z => .inl ⟨i, z⟩) fun a z => .inl ?_⟩
        obtain ⟨j, m⟩ := z
        have m : a ∈ (if j = i then [] else own j) := m
        by_cases ji : j = i
        · rw [if_pos ji] at m; cases m
        · rw [if_neg ji] at m; exact ⟨j, m⟩
  | val r n f =>
    have t' : (frD v).map (fun y => (y, e)) = some (x, e') := by
      cases r <;> exact t
    exact val r f t'
theorem RV.widen {u : V} {v : Val} {fp gp : List Addr} (h : RV K ca σ H F W u v fp) (d : ∀ a ∈ fp, a ∉ gp) : RV K ca σ H F (fun a => W a ∨ a ∈ gp) u v fp := by
  cases h with
  | pk h => exact .pk h
  | val r n f => exact .val r n fun a m => ⟨(f a m).1, fun z => z.elim (f a m).2 (d a m)⟩
theorem RVs.widen {us : List V} {vs : List Val} {fp gp : List Addr} (h : RVs K ca σ H F W us vs fp) : (∀ a ∈ fp, a ∉ gp) → RVs K ca σ H F (fun a => W a ∨ a ∈ gp) us vs fp := by
  induction h with
  | nil => intro _; exact .nil
  | cons h r d ih => exact fun n => .cons (h.widen fun a m => n a (List.mem_append_left _ m)) (ih fun a m => n a (List.mem_append_right _ m)) d
theorem Wok.addT {fp : List Addr} {u : V} {v : Val} (w : Wok H F W) (h : RV K ca σ H F W u v fp) : Wok H F (fun a => W a ∨ a ∈ fp) := fun a z => z.elim (w a) fun m => by
  cases h with
  | pk h => cases m
  | val r n f => exact ⟨(f a m).1, r.mb a m⟩
theorem Wok.addTs {fp : List Addr} {us : List V} {vs : List Val} (w : Wok H F W) (h : RVs K ca σ H F W us vs fp) : Wok H F (fun a => W a ∨ a ∈ fp) := by
  induction h with
  | nil => exact fun a z => z.elim (w a) fun m => by cases m
  | cons h r d ih => exact fun a z => z.elim (w a) fun m => (List.mem_append.mp m).elim (fun m => w.addT h a (.inr m)) fun m => ih a (.inr m)
theorem RVs.takes : ∀ {vs : List Val} {us : List V} {fp : List Addr} {xs : List D} {e e' : Env} {F : Fs} {own : Nat → List Addr}, Rel K ca σ H e F own → RVs K ca σ H F (Ow own) us vs fp → PM.takes e vs = some (xs, e') →
    ∃ F' own', Rel K ca σ H e' F' own' ∧ Dens K H F' us xs ∧ Ext H F (fun a => Ow own a ∨ a ∈ fp) H F' (Ow own')
  | [], us, fp, xs, e, e', F, own, R, h, t => by
    cases h
    cases t
    exact ⟨F, own, R, .nil, Ext.same fun a z => .inl (.inl z)⟩
  | v :: vs, us, fp, xs, e, e', F, own, R, h, t => by
    cases h with
    | @cons u us v vs fp gp h r d =>
      have t : (take e v).bind (fun p => (PM.takes p.2 vs).map fun q => (p.1 :: q.1, q.2)) = some (xs, e') := t
      cases h1 : take e v with
      | none => rw [h1] at t; cases t
      | some p =>
        obtain ⟨x, e1⟩ := p
        rw [h1] at t
        have t : (PM.takes e1 vs).map (fun q => (x :: q.1, q.2)) = some (xs, e') := t
        cases h2 : PM.takes e1 vs with
        | none => rw [h2] at t; cases t
        | some q =>
          obtain ⟨ys, e2⟩ := q
          rw [h2] at t
          cases t
          obtain ⟨F1, own1, R1, D1, E1⟩ := h.take R h1
          have w1 := R.wok.addT h
          have r1 : RVs K ca σ H F1 (Ow own1) us vs gp := (r.widen (gp := fp) fun a m z => d a z m).ext E1 w1
          obtain ⟨F2, own2, R2, D2, E2⟩ := RVs.takes R1 r1 h2
          have w2 := R1.wok.addTs r1
          have E3 := E2.widen (U := fun a => Ow own1 a ∨ a ∈ gp) (U' := Ow own2) (fun _ z => z) (fun a z => E2.own a z)
          -- put the two together over the whole footprint
          have E1' : Ext H F (fun a => Ow own a ∨ a ∈ fp ++ gp) H F1 (fun a => Ow own1 a ∨ a ∈ gp) := by
            refine E1.widen (fun a z => z.elim .inl fun m => .inr (List.mem_append_left _ m)) fun a z => z.elim (fun z => ?_) fun m => .inl (.inr (List.mem_append_right _ m))
            exact (E1.own a z).imp (fun z => z.elim .inl fun m => .inr (List.mem_append_left _ m)) id
          exact ⟨F2, own2, R2, .cons (D1.ext (E2.widen (U := fun a => Ow own1 a ∨ a ∈ gp) (fun _ z => z) E2.own) w2) D2, E1'.trans E2⟩
end
end PM
end

section
set_option Elab.async false
set_option linter.all false
set_option maxRecDepth 100000
set_option maxHeartbeats 1000000
/-! PMFin: how a reading ends: a value, a new object; two parts in a row. -/
namespace PM
open PySem PySem.Spec PyProof.Rows L2
section
variable {K : PySem.W.Frag} {ca : Str → Option Addr} {Wx : Wish} {c : Ctx} {σ : L2.St} {e e' : Env} {H H' H2 : Hp} {F F' F2 W W' : Fs} {own own2 : Nat → List Addr} {Q : VK}

theorem Dens.vrs : ∀ {us : List V} {ds : List D}, Dens K H F us ds → VRs K ca H F us (ds.map .d) []
  | _, _, .nil => .nil
  | _, _, .cons h r => VRs.cons (fp := []) (gp := []) (.d h) (Dens.vrs r)
theorem QV.scal {u : V} {x : D} (q : QV K ca σ H F W Q (.d x) e) (R : Rel K ca σ H2 e F2 own2) (E : Ext H F W H2 F2 (Ow own2)) (d : Den K H2 F2 u x) : Q u H2 :=
  q u H2 F2 own2 [] R (.val (.d d) .nil fun a m => by cases m) (fun a m => by cases m) E
theorem Rel.alloc {p : Addr} {o : HO} (R : Rel K ca σ H e F own) (hp : H p = none) : Rel K ca σ (upd H p o) e F own :=
  R.ext (W := fun _ => False) (W' := fun _ => False) (Ext.alloc hp) (fun _ z => z.elim) (fun _ _ _ z => z) fun a f => by
    by_cases q : a = p
    · subst q; rw [upd_same]; exact fun z => nomatch z
    · rw [upd_ne q]; exact R.al a f
theorem Rel.free {p : Addr} (R : Rel K ca σ H e F own) (hp : H p = none) : ¬ F p ∧ ¬ Ow own p := ⟨fun f => R.al p f hp, fun w => (R.wok p w).2.some hp⟩
theorem Dens.alloc {p : Addr} {o : HO} {us : List V} {ds : List D} (R : Rel K ca σ H e F own) (d : Dens K H F us ds) (hp : H p = none) : Dens K (upd H p o) F us ds :=
  d.ext (W := fun _ => False) (W' := fun _ => False) (Ext.alloc hp) fun _ z => z.elim
theorem Den.alloc {p : Addr} {o : HO} {us : V} {ds : D} (d : Den K H F us ds) (hp : H p = none) : Den K (upd H p o) F us ds :=
  d.ext (W := fun _ => False) (W' := fun _ => False) (Ext.alloc hp) fun _ z => z.elim
/-- a new list -/
theorem QV.newl {us : List V} {ds : List D} (q : QV K ca σ H F W Q (.ol (ds.map .d)) e) (R : Rel K ca σ H2 e F2 own2) (E : Ext H F W H2 F2 (Ow own2)) (d : Dens K H2 F2 us ds) : ∀ p, H2 p = none → Q (.ref p) (upd H2 p (.lst us)) := fun p hp => by
  refine q (.ref p) _ F2 own2 [p] (R.alloc hp) (.val (.ol upd_same (d.alloc R hp).vrs) (by simp) fun a m => ?_) (fun a m => ?_) (E.trans (Ext.alloc hp))
  · rw [List.mem_singleton.mp m]; exact R.free hp
  · rw [List.mem_singleton.mp m]; exact .inr (E.live p hp)
/-- a new tuple -/
theorem QV.newt {us : List V} {ds : List D} (q : QV K ca σ H F W Q (.d (.tuple ds)) e) (R : Rel K ca σ H2 e F2 own2) (E : Ext H F W H2 F2 (Ow own2)) (d : Dens K H2 F2 us ds) : ∀ p, H2 p = none → Q (.ref p) (upd H2 p (.tup us)) := fun p hp =>
  q.scal (R.alloc hp) (E.trans (Ext.alloc hp)) (.tup (.inl (.inl upd_same)) (d.alloc R hp))
theorem QV.newd {us : List (Key × V)} {ds : List (Key × Val)} (q : QV K ca σ H F W Q (.od ds) e) (R : Rel K ca σ H2 e F2 own2) (E : Ext H F W H2 F2 (Ow own2)) {p : Addr} (hp : H2 p = none) (d : VRk K ca (upd H2 p (.dK us)) F2 us ds []) : Q (.ref p) (upd H2 p (.dK us)) := by
  refine q (.ref p) _ F2 own2 [p] (R.alloc hp) (.val (.od upd_same d) (by simp) fun a m => ?_) (fun a m => ?_) (E.trans (Ext.alloc hp))
  · rw [List.mem_singleton.mp m]; exact R.free hp
  · rw [List.mem_singleton.mp m]; exact .inr (E.live p hp)

/-- one part -/
theorem rd_one {a : ME} {f : Val → Env → Res Val} (R : Rel K ca σ H e F own) (h : PR ((ev c a e).bind f) (QV K ca σ H F (Ow own) Q) (QX K ca Wx σ H F (Ow own))) {r : V → Hp → Prop}
    (fin : ∀ va e2 u H2 F2 own2 fp, Rel K ca σ H2 e2 F2 own2 → RV K ca σ H2 F2 (Ow own2) u va fp → (∀ a ∈ fp, Ow own a ∨ H a = none) → Ext H F (Ow own) H2 F2 (Ow own2) →
      PR (f va e2) (QV K ca σ H F (Ow own) Q) (QX K ca Wx σ H F (Ow own)) → r u H2) : tI K ca Wx c a σ H r :=
  ⟨e, F, own, R, h.bind.mono (fun va e2 P u H2 F2 own2 fp R2 V2 N2 E2 => fin va e2 u H2 F2 own2 fp R2 V2 N2 E2 P) fun _ _ q => q⟩
/-- going on behind a part -/
theorem rd_next {a : ME} {f : Val → Env → Res Val} {e1 : Env} {H1 : Hp} {F1 : Fs} {own1 : Nat → List Addr} (E1 : Ext H F W H1 F1 (Ow own1)) (R : Rel K ca σ H1 e1 F1 own1) (h : PR ((ev c a e1).bind f) (QV K ca σ H F W Q) (QX K ca Wx σ H F W)) {r : V → Hp → Prop}
    (fin : ∀ va e2 u H2 F2 own2 fp, Rel K ca σ H2 e2 F2 own2 → RV K ca σ H2 F2 (Ow own2) u va fp → (∀ a ∈ fp, Ow own1 a ∨ H1 a = none) → Ext H1 F1 (Ow own1) H2 F2 (Ow own2) → Ext H F W H2 F2 (Ow own2) →
      PR (f va e2) (QV K ca σ H F W Q) (QX K ca Wx σ H F W) → r u H2) : tI K ca Wx c a σ H1 r :=
  ⟨e1, F1, own1, R, h.bind.mono (fun va e2 P u H2 F2 own2 fp R2 V2 N2 E2 => fin va e2 u H2 F2 own2 fp R2 V2 N2 E2 (E1.trans E2) P) fun _ _ q => q.shift E1⟩
/-- the last part -/
theorem rd_last {a : ME} {e1 : Env} {H1 : Hp} {F1 : Fs} {own1 : Nat → List Addr} (E1 : Ext H F W H1 F1 (Ow own1)) (R : Rel K ca σ H1 e1 F1 own1) (h : PR (ev c a e1) (QV K ca σ H F W Q) (QX K ca Wx σ H F W)) : tI K ca Wx c a σ H1 Q :=
  ⟨e1, F1, own1, R, h.mono (fun _ _ q => q.shift E1) fun _ _ q => q.shift E1⟩
/-- two parts in a row -/
theorem rd_two {a b : ME} {f : Val → Val → Env → Res Val} (R : Rel K ca σ H e F own) (h : PR ((ev c a e).bind fun va e1 => (ev c b e1).bind fun vb e2 => f va vb e2) (QV K ca σ H F (Ow own) Q) (QX K ca Wx σ H F (Ow own))) {r : V → V → Hp → Prop}
    (fin : ∀ va vb e2 u1 u2 H2 F2 own2 fp1 fp2, Rel K ca σ H2 e2 F2 own2 → RV K ca σ H2 F2 (Ow own2) u1 va fp1 → RV K ca σ H2 F2 (Ow own2) u2 vb fp2 → (∀ a ∈ fp1, a ∉ fp2) → (∀ a ∈ fp1, Ow own a ∨ H a = none) → (∀ a ∈ fp2, Ow own a ∨ H a = none) → Ext H F (Ow own) H2 F2 (Ow own2) →
      PR (f va vb e2) (QV K ca σ H F (Ow own) Q) (QX K ca Wx σ H F (Ow own)) → r u1 u2 H2) : tI K ca Wx c a σ H (fun x H1 => tI K ca Wx c b σ H1 fun y H2 => r x y H2) := by
  refine rd_one R h fun va e1 u1 H1 F1 own1 fp1 R1 V1 N1 E1 P1 => ?_
  refine rd_next E1 R1 P1 fun vb e2 u2 H2 F2 own2 fp2 R2 V2 N2 E2 E12 P2 => ?_
  refine fin va vb e2 u1 u2 H2 F2 own2 fp1 fp2 R2 (V1.ext E2 R1.wok) V2 (fun a m z => ?_) N1 (fp_shift E1 N2) E12 P2
  obtain ⟨mb, nw⟩ := V1.mb a m
  exact (N2 a z).elim nw mb.some
/-- an argument list -/
theorem rd_list {es : List ME} {f : List Val → Env → Res Val} {e1 : Env} {H1 : Hp} {F1 : Fs} {own1 : Nat → List Addr} (E1 : Ext H F W H1 F1 (Ow own1)) (R : Rel K ca σ H1 e1 F1 own1) (h : PR ((evs c es e1).bind f) (QV K ca σ H F W Q) (QX K ca Wx σ H F W)) {r : List V → Hp → Prop}
    (fin : ∀ va e2 u H2 F2 own2 fp, Rel K ca σ H2 e2 F2 own2 → RVs K ca σ H2 F2 (Ow own2) u va fp → (∀ a ∈ fp, Ow own1 a ∨ H1 a = none) → Ext H1 F1 (Ow own1) H2 F2 (Ow own2) → Ext H F W H2 F2 (Ow own2) →
      PR (f va e2) (QV K ca σ H F W Q) (QX K ca Wx σ H F W) → r u H2) : tIs K ca Wx c es σ H1 r :=
  ⟨e1, F1, own1, R, h.bind.mono (fun va e2 P u H2 F2 own2 fp R2 V2 N2 E2 => fin va e2 u H2 F2 own2 fp R2 V2 N2 E2 (E1.trans E2) P) fun _ _ q => q.shift E1⟩
end

/-! ### names, constants, argument lists -/
theorem _root_.L2.PE.weak {X : Cx} {x : Expr} {t t' : TE} (h : PE X x t) (w : ∀ σ H Q, t' σ H Q → t σ H Q) : PE X x t' := ⟨fun pins s σ H Q I q => h.run pins s σ H Q I (w σ H Q q)⟩
theorem _root_.L2.PT.weak {X : Cx} {x : Expr} {t t' : TT} (h : PT X x t) (w : ∀ σ H Q, t' σ H Q → t σ H Q) : PT X x t' := ⟨fun pins s σ H Q I q => h.run pins s σ H Q I (w σ H Q q)⟩
theorem _root_.L2.PW.weak {X : Cx} {x : Expr} {t t' : TT} (h : PW X x t) (w : ∀ σ H Q, t' σ H Q → t σ H Q) : PW X x t' := ⟨fun wh pins s σ H Q I q => h.run wh pins s σ H Q I (w σ H Q q)⟩
theorem _root_.L2.PA.weak {X : Cx} {x : List Expr} {t t' : TA} (h : PA X x t) (w : ∀ σ H Q, t' σ H Q → t σ H Q) : PA X x t' := ⟨fun pos pins s σ H Q I q => h.run pos pins s σ H Q I (w σ H Q q)⟩
theorem _root_.L2.PS.weak {X : Cx} {x : Stmt} {t t' : TS} (h : PS X x t) (w : ∀ D σ H, t' D σ H → t D σ H) : PS X x t' := ⟨fun pins s σ H D I q => h.run pins s σ H D I (w D σ H q)⟩
theorem _root_.L2.PSs.weak {X : Cx} {x : List Stmt} {t t' : TS} (h : PSs X x t) (w : ∀ D σ H, t' D σ H → t D σ H) : PSs X x t' := ⟨fun pins s σ H D I q => h.run pins s σ H D I (w D σ H q)⟩
section
variable {X : Cx} {ca : Str → Option Addr} {Wx : Wish} {c : Ctx}
/-- what stands for a value whatever the heap -/
def Cst (K : PySem.W.Frag) (v : V) (x : D) : Prop := ∀ H F, Den K H F v x
theorem pm_c {x : Expr} {v : V} {d : D} (h : PE X x (tC v)) (hd : Cst X.K v d) : PE X x (tI X.K ca Wx c (.c d)) := h.weak fun σ H Q ⟨e, F, own, R, P⟩ => QV.scal (show QV X.K ca σ H F (Ow own) Q (.d d) e from P) R Ext.refl (hd _ _)
theorem pm_v {i : Nat} {x : Expr} (h : PE X x (tVar i)) : PE X x (tI X.K ca Wx c (.v i)) := h.weak fun σ H Q ⟨e, F, own, R, P⟩ => by
  have P : PR (match getS e i with
    | some (.ol _) => .ok (.pk i) e
    | some (.od _) => .ok (.pk i) e
    | some (.pk _) => .no
    | some v => .ok v e
    | none => .no : Res Val) _ _ := P
  cases h1 : getS e i with
  | none => rw [h1] at P; exact P.elim
  | some w =>
    rw [h1] at P
    obtain ⟨u, hu, r⟩ := R.slot i w h1
    refine ⟨u, hu, ?_⟩
    have own0 : ∀ {fp : List Addr}, VR X.K ca H F u w fp → (∀ x, w ≠ .ol x) → (∀ x, w ≠ .od x) → VR X.K ca H F u w [] := fun r n1 n2 => by
      cases r with
      | d h => exact .d h
      | ol _ _ => exact absurd rfl (n1 _)
      | od _ _ => exact absurd rfl (n2 _)
      | ex a b d => exact .ex a b d
    cases w with
    | ol x => exact P u H F own [] R (.pk hu) (fun a m => by cases m) Ext.refl
    | od x => exact P u H F own [] R (.pk hu) (fun a m => by cases m) Ext.refl
    | pk i => exact P.elim
    | d x => exact P u H F own [] R (.val (own0 r (fun _ z => nomatch z) fun _ z => nomatch z) .nil fun a m => by cases m) (fun a m => by cases m) Ext.refl
    | ex x y => exact P u H F own [] R (.val (own0 r (fun _ z => nomatch z) fun _ z => nomatch z) .nil fun a m => by cases m) (fun a m => by cases m) Ext.refl
theorem pm_nil : PA X [] (tIs X.K ca Wx c []) := pa_nil.weak fun σ H Q ⟨e, F, own, R, P⟩ => (show QVs X.K ca σ H F (Ow own) Q [] e from P) [] H F own [] R .nil (fun a m => by cases m) Ext.refl
theorem cons_w {K : PySem.W.Frag} {a : ME} {es : List ME} {σ : L2.St} {H : Hp} {Q : List V → Hp → Prop} (h : tIs K ca Wx c (a :: es) σ H Q) : tI K ca Wx c a σ H fun x H1 => tIs K ca Wx c es σ H1 fun xs H2 => Q (x :: xs) H2 := by
    obtain ⟨e, F, own, R, P⟩ := h
    have P : PR ((ev c a e).bind fun v e1 => (evs c es e1).bind fun vs e2 => .ok (v :: vs) e2) (QVs K ca σ H F (Ow own) Q) (QX K ca Wx σ H F (Ow own)) := P
    refine ⟨e, F, own, R, P.bind.mono (fun va e1 P1 u1 H1 F1 own1 fp1 R1 V1 N1 E1 => ?_) fun _ _ q => q⟩
    refine ⟨e1, F1, own1, R1, P1.bind.mono (fun vs e2 P2 us H2 F2 own2 fps R2 V2 N2 E2 => ?_) fun _ _ q => q.shift E1⟩
    have d : ∀ a ∈ fp1, a ∉ fps := fun a m z => by
      obtain ⟨mb, nw⟩ := V1.mb a m
      exact (N2 a z).elim nw mb.some
    exact (show QVs K ca σ H F (Ow own) Q (va :: vs) e2 from P2) (u1 :: us) H2 F2 own2 (fp1 ++ fps) R2 (.cons (V1.ext E2 R1.wok) V2 d) (fun a m => (List.mem_append.mp m).elim (N1 a) (fp_shift E1 N2 a)) (E1.trans E2)
theorem pm_cons {x : Expr} {xs : List Expr} {a : ME} {es : List ME} (h1 : PE X x (tI X.K ca Wx c a)) (h2 : PA X xs (tIs X.K ca Wx c es)) (hs : starEach (x :: xs) X.env = (false, eval x X.env) :: starEach xs X.env) : PA X (x :: xs) (tIs X.K ca Wx c (a :: es)) :=
  (pa_cons h1 h2 hs).weak fun σ H Q h => cons_w h
end
end PM
end

section
set_option Elab.async false
set_option linter.all false
set_option maxRecDepth 100000
set_option maxHeartbeats 2000000
/-! PMOps: operators and comparisons by data. -/
namespace PM
open PySem PySem.Spec PyProof.Rows L2
section
variable {K : PySem.W.Frag} {ca : Str → Option Addr} {H H' : Hp} {F F' W W' : Fs}
/-- as Den, but the outermost list or dict may still be changed -/
inductive SeeF (K : PySem.W.Frag) (H : Hp) (F : Fs) : V → D → Prop
  | den {u : V} {x : D} : Den K H F u x → SeeF K H F u x
  | lst {a : Addr} {us : List V} {ds : List D} : H a = some (.lst us) → Dens K H F us ds → SeeF K H F (.ref a) (.list ds)
  | dic {a : Addr} {us : List (Key × V)} {ds : List (D × D)} : H a = some (.dK us) → DenKs K H F us ds → SeeF K H F (.ref a) (.dict ds)
theorem VR.seeF {u : V} {v : Val} {fp : List Addr} {x : D} (h : VR K ca H F u v fp) (e : frD v = some x) : SeeF K H F u x := by
  cases h with
  | d h => cases e; exact .den h
  | @ol a us vs fp hl r =>
    change Option.map PyData.list (allD vs) = some x at e
    cases h2 : allD vs with
    | none => rw [h2] at e; cases e
    | some ds => rw [h2] at e; cases e; exact .lst hl (r.dens h2).1
  | @od a us vs fp hl r =>
    change Option.map PyData.dict (allKD vs) = some x at e
    cases h2 : allKD vs with
    | none => rw [h2] at e; cases e
    | some ds => rw [h2] at e; cases e; exact .dic hl (r.dens h2).1
  | ex _ _ _ => cases e
theorem RV.seeF {σ : L2.St} {e : Env} {own : Nat → List Addr} {u : V} {v : Val} {fp : List Addr} {x : D} (R : Rel K ca σ H e F own) (h : RV K ca σ H F W u v fp) (s : PM.see e v = some x) : SeeF K H F u x := by
  cases h with
  | @pk i u hs =>
    have s : (getS e i).bind frD = some x := s
    cases h1 : getS e i with
    | none => rw [h1] at s; cases s
    | some w =>
      rw [h1] at s
      obtain ⟨u', hs', r⟩ := R.slot i w h1
      rw [hs] at hs'
      cases hs'
      exact r.seeF s
  | val h _ _ =>
    cases h with
    | d h => cases s; exact .den h
    | ol h r => exact (VR.ol h r).seeF s
    | od h r => exact (VR.od h r).seeF s
    | ex a b c => cases s
theorem SeeF.see {u : V} {x : D} (h : SeeF K H F u x) : See K H u x := by
  cases h with
  | den h => exact h.see
  | lst h r => exact .lst (.inl ⟨h, trivial⟩) (r.more fun _ _ => trivial)
  | dic h r => exact .dic (.inl ⟨h, trivial⟩) (r.more fun _ _ => trivial)
theorem FzL.rd {a : Addr} {us : List V} (h : FzL H F a us) : Rd H a (.lst us) := by
  rcases h with ⟨h, _⟩ | ⟨o, h⟩
  · exact .inl h
  · exact .inr ⟨o, h⟩
theorem FzL.sq {a : Addr} {us : List V} (h : FzL H F a us) : SqL K H a us := .inl h.rd
theorem SeeF.non {u : V} (h : SeeF K H F u .none) : u = .non := by cases h with | den h => cases h; rfl
theorem SeeF.int {u : V} {i : Int} (h : SeeF K H F u (.int i)) : u = .int i := by cases h with | den h => cases h; rfl
theorem SeeF.bl {u : V} {i : Bool} (h : SeeF K H F u (.bool i)) : u = .bl i := by cases h with | den h => cases h; rfl
theorem SeeF.str {u : V} {i : Str} (h : SeeF K H F u (.str i)) : u = .str i := by cases h with | den h => cases h; rfl
theorem SeeF.list {u : V} {ds : List D} (h : SeeF K H F u (.list ds)) : ∃ a us, u = .ref a ∧ Rd H a (.lst us) ∧ Dens K H F us ds := by
  cases h with
  | den h => cases h with | lst z r => exact ⟨_, _, rfl, z.rd, r⟩
  | lst z r => exact ⟨_, _, rfl, .inl z, r⟩
theorem SeeF.tuple {u : V} {ds : List D} (h : SeeF K H F u (.tuple ds)) : ∃ a us, u = .ref a ∧ SqT K H a us ∧ Dens K H F us ds := by
  cases h with
  | den h => cases h with | tup z r => exact ⟨_, _, rfl, z, r⟩
theorem SeeF.dict {u : V} {ds : List (D × D)} (h : SeeF K H F u (.dict ds)) : ∃ a us, u = .ref a ∧ Rd H a (.dK us) ∧ DenKs K H F us ds := by
  cases h with
  | den h => cases h with | dic z r => exact ⟨_, _, rfl, z.elim (fun z => .inl z.1) .inr, r⟩
  | dic z r => exact ⟨_, _, rfl, .inl z, r⟩
theorem Dens.len : ∀ {us : List V} {ds : List D}, Dens K H F us ds → us.length = ds.length
  | _, _, .nil => rfl
  | _, _, .cons _ r => by rw [List.length_cons, List.length_cons, Dens.len r]
theorem Dens.app : ∀ {us vs : List V} {ds es : List D}, Dens K H F us ds → Dens K H F vs es → Dens K H F (us ++ vs) (ds ++ es)
  | _, _, _, _, .nil, s => s
  | _, _, _, _, .cons h r, s => .cons h (Dens.app r s)
theorem Dens.get : ∀ {us : List V} {ds : List D} {i : Nat} {x : D}, Dens K H F us ds → ds[i]? = some x → ∃ u, us[i]? = some u ∧ Den K H F u x
  | _, _, _, _, .nil, e => by simp at e
  | _, _, 0, _, .cons h _, e => by simp at e; subst e; exact ⟨_, rfl, h⟩
  | _, _, i + 1, x, .cons _ r, e => by
    obtain ⟨u, a, b⟩ := Dens.get (i := i) (x := x) r (by simpa using e)
    exact ⟨u, by simpa using a, b⟩
theorem Dens.take : ∀ {us : List V} {ds : List D} (n : Nat), Dens K H F us ds → Dens K H F (us.take n) (ds.take n)
  | _, _, 0, _ => by simp; exact .nil
  | _, _, _ + 1, .nil => by simp; exact .nil
  | _, _, n + 1, .cons h r => by simp only [List.take_succ_cons]; exact .cons h (Dens.take n r)
theorem Dens.drop : ∀ {us : List V} {ds : List D} (n : Nat), Dens K H F us ds → Dens K H F (us.drop n) (ds.drop n)
  | _, _, 0, r => r
  | _, _, _ + 1, .nil => .nil
  | _, _, n + 1, .cons _ r => by simp only [List.drop_succ_cons]; exact Dens.drop n r
theorem Dens.rep {us : List V} {ds : List D} (h : Dens K H F us ds) : ∀ k : Nat, Dens K H F (List.replicate k us).flatten (List.replicate k ds).flatten
  | 0 => .nil
  | k + 1 => by simp only [List.replicate_succ, List.flatten_cons]; exact h.app (Dens.rep h k)
theorem Dens.ints : ∀ {us : List V} {ds : List D} {ns : List Int}, Dens K H F us ds → intsD ds = some ns → us = ns.map V.int
  | _, _, _, .nil, e => by cases e; rfl
  | _, x :: xs, ns, .cons h r, e => by
    cases x with
    | int i =>
      have e : (intsD xs).map (i :: ·) = some ns := e
      cases q : intsD xs with
      | none => rw [q] at e; cases e
      | some ms =>
        rw [q] at e
        cases e
        cases h
        rw [Dens.ints r q]
        rfl
    | _ => cases e
theorem Dens.strs : ∀ {us : List V} {ds : List D} {ns : List Str}, Dens K H F us ds → strsD ds = some ns → us = ns.map V.str
  | _, _, _, .nil, e => by cases e; rfl
  | _, x :: xs, ns, .cons h r, e => by
    cases x with
    | str i =>
      have e : (strsD xs).map (i :: ·) = some ns := e
      cases q : strsD xs with
      | none => rw [q] at e; cases e
      | some ms =>
        rw [q] at e
        cases e
        cases h
        rw [Dens.strs r q]
        rfl
    | _ => cases e
theorem Dens.bools : ∀ {us : List V} {ds : List D} {ns : List Bool}, Dens K H F us ds → boolsD ds = some ns → us = ns.map V.bl
  | _, _, _, .nil, e => by cases e; rfl
  | _, x :: xs, ns, .cons h r, e => by
    cases x with
    | bool i =>
      have e : (boolsD xs).map (i :: ·) = some ns := e
      cases q : boolsD xs with
      | none => rw [q] at e; cases e
      | some ms =>
        rw [q] at e
        cases e
        cases h
        rw [Dens.bools r q]
        rfl
    | _ => cases e
theorem Dens.ofInts : ∀ (ns : List Int), Dens K H F (ns.map V.int) (ns.map .int)
  | [] => .nil
  | i :: r => .cons (.int i) (Dens.ofInts r)
theorem Dens.ofStrs : ∀ (ns : List Str), Dens K H F (ns.map V.str) (ns.map .str)
  | [] => .nil
  | i :: r => .cons (.str i) (Dens.ofStrs r)
mutual
theorem Den.dp : ∀ {u : V} {x : D}, See K H u x → x.canLay0 = true → Dp K H u x
  | _, _, .non, _ => .non
  | _, _, .bl b, _ => .bl b
  | _, _, .int i, _ => .int i
  | _, _, .str z, _ => .str z
  | _, _, .lst z r, c => .lst z.sq (Dens.dp r (by simpa [PyData.canLay0] using c))
  | _, _, .tup z r, c => .tup z (Dens.dp r (by simpa [PyData.canLay0] using c))
  | _, _, .dic z r, c => by simp [PyData.canLay0] at c
theorem Dens.dp : ∀ {u : List V} {x : List D}, Sees K H u x → PyData.canLayAll0 x = true → DpAll K H u x
  | _, _, .nil, _ => .nil
  | _, _, .cons h r, c => by
    have c := (Bool.and_eq_true_iff.mp (by simpa only [PyData.canLayAll0] using c))
    exact .cons (Den.dp h c.1) (Dens.dp r c.2)
end

/-- what an operation hands back -/
inductive Made (K : PySem.W.Frag) (H : Hp) (F : Fs) : Val → V → Hp → Prop
  | here {x : D} {u : V} : Den K H F u x → Made K H F (.d x) u H
  | tup {ds : List D} {us : List V} {p : Addr} : H p = none → Dens K H F us ds → Made K H F (.d (.tuple ds)) (.ref p) (upd H p (.tup us))
  | lst {ds : List D} {us : List V} {p : Addr} : H p = none → Dens K H F us ds → Made K H F (.ol (ds.map .d)) (.ref p) (upd H p (.lst us))
theorem QV.made {σ : L2.St} {e : Env} {H2 : Hp} {F2 : Fs} {own2 : Nat → List Addr} {Q : VK} {v : Val} (q : QV K ca σ H F W Q v e) (R : Rel K ca σ H2 e F2 own2) (E : Ext H F W H2 F2 (Ow own2)) : ∀ u H', Made K H2 F2 v u H' → Q u H' := fun u H' m => by
  cases m with
  | here d => exact q.scal R E d
  | tup hp d => exact q.newt R E d _ hp
  | lst hp d => exact q.newl R E d _ hp
end

section
variable {X : Cx}
abbrev rD (K : PySem.W.Frag) (f : D → D → Option Val) : R2 := fun u1 u2 H Q => ∃ F x y v, SeeF K H F u1 x ∧ SeeF K H F u2 y ∧ f x y = some v ∧ ∀ u H', Made K H F v u H' → Q u H'
theorem op_catL {pins : List (Addr × Obj)} {s : Shared} {σ : L2.St} {H : Hp} {l b : Addr} {xs zs : List V} {Q : VK} (I : Inv X pins σ H s) (hH : Rd H l (.lst xs)) (hB : Rd H b (.lst zs)) (hz : xs.length + zs.length ≤ sizeLine)
    (q : ∀ p, H p = none → Q (.ref p) (upd H p (.lst (xs ++ zs)))) : wpAny (model X.prog X.w) X.A (binaryOp .Add (.ref l) (.ref b)) (EP X pins σ Q) X.xe s := by
  obtain ⟨z, its, n, r, e⟩ := hH.ok I.hok
  obtain ⟨z2, its2, n2, r2, e2⟩ := hB.ok I.hok
  refine PySem.P.add_list e e2 ?_ (by rw [List.size_toArray, List.size_toArray, ← r.length, ← r2.length]; omega)
  have ea : its.toArray ++ its2.toArray = (its ++ its2).toArray := by simp
  rw [ea]
  exact ⟨.ref _, _, I.lnew (t' := s.toks) (r.append r2) (by rw [List.length_append]; omega), rfl, q _ I.fresh⟩
theorem opD_add : OpR X (binaryOp .Add) (rD X.K (binD .Add)) := by
  intro pins s σ H x y v u Q I rx ry ⟨F, a, b, w, ha, hb, e, q⟩
  cases a with
  | int i =>
    cases b with
    | int j =>
      cases e
      obtain rfl := ha.int
      obtain rfl := hb.int
      exact op_add pins s σ H _ _ v u Q I rx ry ⟨i, j, rfl, rfl, q _ _ (.here (.int _))⟩
    | _ => cases e
  | str i =>
    cases b with
    | str j =>
      have e : (if i.length + j.length ≤ lineN then some (Val.d (.str (i ++ j))) else none) = some w := e
      split at e
      · rename_i hl
        cases e
        obtain rfl := ha.str
        obtain rfl := hb.str
        exact op_add_str pins s σ H _ _ v u Q I rx ry ⟨i, j, rfl, rfl, hl, q _ _ (.here (.str _))⟩
      · cases e
    | _ => cases e
  | tuple xs =>
    cases b with
    | tuple ys =>
      have e : (if xs.length + ys.length ≤ lineN then some (Val.d (.tuple (xs ++ ys))) else none) = some w := e
      split at e
      · rename_i hl
        cases e
        obtain ⟨p, us, rfl, hp, dx⟩ := ha.tuple
        obtain ⟨p', us', rfl, hp', dy⟩ := hb.tuple
        refine op_catA pins s σ H _ _ v u Q I rx ry ⟨p, p', us, us', rfl, rfl, hp, hp', by rw [dx.len, dy.len]; exact hl, fun z => ?_, fun z1 z2 => ?_, fun z1 z2 p hp => ?_⟩
        · subst z
          cases dx
          exact q _ _ (.here (.tup hp' dy))
        · subst z2
          cases dy
          rw [List.append_nil] at q
          exact q _ _ (.here (.tup hp dx))
        · exact q _ _ (.tup hp (dx.app dy))
      · cases e
    | _ => cases e
  | list xs =>
    cases b with
    | list ys =>
      have e : (if xs.length + ys.length ≤ lineN then some (Val.ol ((xs ++ ys).map .d)) else none) = some w := e
      split at e
      · rename_i hl
        cases e
        obtain ⟨p, us, rfl, hp, dx⟩ := ha.list
        obtain ⟨p', us', rfl, hp', dy⟩ := hb.list
        cases rx
        cases ry
        exact op_catL I hp hp' (by rw [dx.len, dy.len]; exact hl) fun p hp => q _ _ (.lst hp (dx.app dy))
      · cases e
    | _ => cases e
  | _ => cases b <;> cases e
theorem opD_sub : OpR X (binaryOp .Sub) (rD X.K (binD .Sub)) := by
  intro pins s σ H x y v u Q I rx ry ⟨F, a, b, w, ha, hb, e, q⟩
  cases a with
  | int i =>
    cases b with
    | int j =>
      cases e
      obtain rfl := ha.int
      obtain rfl := hb.int
      exact op_sub pins s σ H _ _ v u Q I rx ry ⟨i, j, rfl, rfl, q _ _ (.here (.int _))⟩
    | _ => cases e
  | _ => cases b <;> cases e
theorem opD_fdiv : OpR X (binaryOp .FloorDiv) (rD X.K (binD .FloorDiv)) := by
  intro pins s σ H x y v u Q I rx ry ⟨F, a, b, w, ha, hb, e, q⟩
  cases a with
  | int i =>
    cases b with
    | int j =>
      have e : (if 0 < j ∧ j < 1073741824 then some (Val.d (.int (i / j))) else none) = some w := e
      split at e
      · rename_i hl
        cases e
        obtain rfl := ha.int
        obtain rfl := hb.int
        exact op_fdiv pins s σ H _ _ v u Q I rx ry ⟨i, j, rfl, rfl, hl, q _ _ (.here (.int _))⟩
      · cases e
    | _ => cases e
  | _ => cases b <;> cases e
theorem opD_mod : OpR X (binaryOp .Mod) (rD X.K (binD .Mod)) := by
  intro pins s σ H x y v u Q I rx ry ⟨F, a, b, w, ha, hb, e, q⟩
  cases a with
  | int i =>
    cases b with
    | int j =>
      have e : (if 0 < j then some (Val.d (.int (i % j))) else none) = some w := e
      split at e
      · rename_i hl
        cases e
        obtain rfl := ha.int
        obtain rfl := hb.int
        exact op_mod pins s σ H _ _ v u Q I rx ry ⟨i, j, rfl, rfl, hl, q _ _ (.here (.int _))⟩
      · cases e
    | _ => cases e
  | _ => cases b <;> cases e
theorem opD_pow : OpR X (binaryOp .Pow) (rD X.K (binD .Pow)) := by
  intro pins s σ H x y v u Q I rx ry ⟨F, a, b, w, ha, hb, e, q⟩
  cases a with
  | int i =>
    cases b with
    | int j =>
      have e : (if 0 ≤ j ∧ j ≤ 1000000 ∧ i.natAbs < 2 ^ 64 then some (Val.d (.int (i ^ j.toNat))) else none) = some w := e
      split at e
      · rename_i hl
        cases e
        obtain rfl := ha.int
        obtain rfl := hb.int
        exact op_pow pins s σ H _ _ v u Q I rx ry ⟨i, j, rfl, rfl, hl, q _ _ (.here (.int _))⟩
      · cases e
    | _ => cases e
  | _ => cases b <;> cases e
theorem op_repLF {pins : List (Addr × Obj)} {s : Shared} {σ : L2.St} {H : Hp} {l : Addr} {k : Int} {t : Tok} {xs : List V} {Q : VK} (I : Inv X pins σ H s) (hH : Rd H l (.lst xs)) (h1 : -(2 ^ 63) ≤ k) (h2 : k < 2 ^ 63) (hz : xs.length * k.toNat ≤ sizeLine)
    (q : ∀ p, H p = none → Q (.ref p) (upd H p (.lst (List.replicate k.toNat xs).flatten))) : wpAny (model X.prog X.w) X.A (binaryOp .Mult (.ref l) (.int k t)) (EP X pins σ Q) X.xe s := by
  obtain ⟨z, its, n, r, e⟩ := hH.ok I.hok
  have hl := r.length
  have hlen : its.toArray.size * k.toNat ≤ sizeLine := by rw [List.size_toArray, ← hl]; exact hz
  have hcap : ¬ its.toArray.size * k.toNat > (2 ^ 63 - 1) / 8 := by
    have : (sizeLine : Nat) ≤ (2 ^ 63 - 1) / 8 := by decide
    omega
  have hfit : ¬ (!Builtin.List.listFitsIndex k) = true := by
    rw [fitsIndex_both h1 h2]
    exact Bool.false_ne_true
  have hlong : ¬ Builtin.List.listTooLong (its.toArray.size * k.toNat) = true := by
    rw [notLongL hlen]
    exact Bool.false_ne_true
  have hnew : List.foldl (fun x1 x2 => x1 ++ x2) #[] (List.replicate (if its.toArray.isEmpty = true then 0 else k.toNat) its.toArray) = (List.replicate k.toNat its).flatten.toArray := by
    have f0 : ∀ m : Nat, List.foldl (fun x1 x2 => x1 ++ x2) #[] (List.replicate m its.toArray) = (List.replicate m its).flatten.toArray := fun m => by
      have := foldl_rep its m []
      rw [List.nil_append] at this
      exact this
    rw [f0]
    cases its with
    | nil => simp
    | cons a r' => rw [if_neg (by simp)]
  refine wpAny_binaryOp_repeat_ref (T := "list") (U := "int") (by decide) ⟨_, e, rfl⟩ (fun s' => typeIs_int s' k t) noFill_list_mul F.fills_int_mul F.slot_int_rmul repeat_list F.slot_int_index.lookup
    (call_meets F.slot_int_rmul (typeIs_int s k t) F.entry_int_rmul (F.args_int_rmul_2 _ _) (int___rmul___int_list k t l its.toArray n)
      ⟨e, rfl, ⟨_, e, rfl⟩, call_meets F.slot_list_mul ⟨_, e, rfl⟩ F.entry_list_mul (F.args_list_mul_2 _ _) (AutoListH.list___mul___list_int_3 l its.toArray n k t hfit hcap hlong) ⟨e, ?_⟩⟩)
  rw [hnew]
  exact ⟨.ref _, _, I.lnew (t' := s.toks) (r.rep k.toNat) (by rw [PyProof.Rows.lm_len_rep_flat, Nat.mul_comm]; exact hz), rfl, q _ I.fresh⟩
end
end PM
end

section
set_option Elab.async false
set_option linter.all false
set_option maxRecDepth 100000
set_option maxHeartbeats 2000000
/-! PMOps2: products, comparisons, memberships by data. -/
namespace PM
open PySem PySem.Spec PyProof.Rows L2
section
variable {K : PySem.W.Frag} {ca : Str → Option Addr} {H H' : Hp} {F F' W W' : Fs}
theorem kV_of {a : D} {k : Key} {u : V} (h : SeeF K H F u a) (e : dKey a = some k) : u = kV k := by
  cases a with
  | int i => cases e; exact h.int
  | str i => cases e; exact h.str
  | _ => cases e
theorem dKey_keyD (k : Key) : dKey (keyD k) = some k := by cases k <;> rfl
theorem getK_cons (k k' : Key) (x : D) (xs : List (D × D)) : getK ((keyD k', x) :: xs) k = if k' = k then some x else getK xs k := by
  unfold getK
  rw [List.find?_cons, dKey_keyD]
  by_cases q : k' = k
  · subst q; simp
  · rw [if_neg q]
    have : decide (some k' = some k) = false := decide_eq_false fun z => q (Option.some.inj z)
    rw [this]
theorem valV_cons' (k k' : Key) (v : V) (vs : List (Key × V)) : valV ((k', v) :: vs) k = if k' = k then some v else valV vs k := by
  unfold valV
  rw [List.find?_cons]
  by_cases q : k' = k
  · subst q; simp
  · rw [if_neg q]
    have : decide ((k', v).1 = k) = false := decide_eq_false q
    rw [this]
theorem DenKs.find (k : Key) : ∀ {us : List (Key × V)} {kvs : List (D × D)}, DenKs K H F us kvs →
    (∀ x, getK kvs k = some x → ∃ v, valV us k = some v ∧ Den K H F v x) ∧ (getK kvs k = none → valV us k = none)
  | _, _, .nil => ⟨fun x e => (by cases e), fun _ => rfl⟩
  | _, _, .cons (k := k') (v := v) (vs := vs) (x := x) (xs := xs) h r => by
    obtain ⟨i1, i2⟩ := DenKs.find k r
    rw [getK_cons, valV_cons']
    by_cases q : k' = k
    · rw [if_pos q, if_pos q]
      exact ⟨fun y e => ⟨v, rfl, Option.some.inj e ▸ h⟩, fun e => by cases e⟩
    · rw [if_neg q, if_neg q]
      exact ⟨i1, i2⟩
theorem DenKs.has (k : Key) {us : List (Key × V)} {kvs : List (D × D)} (h : DenKs K H F us kvs) : (getK kvs k).isSome = (valV us k).isSome := by
  obtain ⟨i1, i2⟩ := h.find k
  cases q : getK kvs k with
  | none => rw [i2 q]; rfl
  | some x => obtain ⟨v, e, _⟩ := i1 x q; rw [e]; rfl
theorem DenKs.len : ∀ {us : List (Key × V)} {ds : List (D × D)}, DenKs K H F us ds → us.length = ds.length
  | _, _, .nil => rfl
  | _, _, .cons _ r => by rw [List.length_cons, List.length_cons, DenKs.len r]
end
section
variable {X : Cx}
theorem op_repTF {pins : List (Addr × Obj)} {s : Shared} {σ : L2.St} {H : Hp} {l : Addr} {k : Int} {t : Tok} {xs : List V} {Q : VK} (I : Inv X pins σ H s) (hT : SqT X.K H l xs) (hne : xs ≠ []) (h1 : 2 ≤ k) (h2 : k < 2 ^ 62) (hz : xs.length * k.toNat ≤ sizeLine)
    (q : ∀ p, H p = none → Q (.ref p) (upd H p (.tup (List.replicate k.toNat xs).flatten))) : wpAny (model X.prog X.w) X.A (binaryOp .Mult (.ref l) (.int k t)) (EP X pins σ Q) X.xe s := by
  obtain ⟨its, r, ⟨⟨cls, dd, data, sl⟩, ho, hc, n, hd⟩, hs⟩ := I.tuple hT
  simp only at hc hd
  subst hc hd
  have hle : its.length = xs.length := r.length.symm
  have hn : its ≠ [] := fun e => hne (by
    rw [e] at hle
    exact List.eq_nil_of_length_eq_zero hle.symm)
  have hi : its.toArray.isEmpty = false := by
    cases its with
    | nil => exact absurd rfl hn
    | cons a b => rfl
  have hsz0 : its.toArray.size = xs.length := by rw [List.size_toArray, hle]
  have hsl := sizeLine_eq
  have hm : ((its.toArray.size : Nat) : Int) * k ≤ sizeLine := by
    rw [hsz0]
    have e1 : k = ((k.toNat : Nat) : Int) := by omega
    rw [e1, ← Int.natCast_mul]
    exact Int.ofNat_le.mpr hz
  have flen : (List.replicate k.toNat its).flatten.length ≤ sizeLine := by
    rw [PyProof.Rows.lm_len_rep_flat, hle, Nat.mul_comm]; exact hz
  have c0 : (decide (k < -(2 ^ 63)) || decide (k ≥ 2 ^ 63)) = false := by
    rw [decide_eq_false (by omega), decide_eq_false (by omega)] <;> rfl
  have c1 : (its.toArray.isEmpty || k == 1) = false := by
    rw [hi, Bool.false_or]
    exact beq_eq_false_iff_ne.mpr (by omega)
  have c2 : (decide (k ≤ 0) || its.toArray.isEmpty) = false := by
    rw [hi, Bool.or_false]
    exact decide_eq_false (by omega)
  have c4 : Builtin.Tuple.tupleTooMany (((its.toArray.size : Nat) : Int) * k) = false := by
    unfold Builtin.Tuple.tupleTooMany
    exact decide_eq_false (by omega)
  refine wpAny_binaryOp_repeat_ref (T := "tuple") (U := "int") (by decide) ⟨_, ho, rfl⟩ (fun s' => typeIs_int s' k t) noFill_tuple_mul F.fills_int_mul F.slot_int_rmul repeat_tuple F.slot_int_index.lookup
    (call_meets F.slot_int_rmul (typeIs_int s k t) F.entry_int_rmul (F.args_int_rmul_2 _ _) (int_rmul_tuple k t l its.toArray n dd sl)
      ⟨ho, rfl, ⟨_, ho, rfl⟩, call_meets F.slot_tuple_mul ⟨_, ho, rfl⟩ F.entry_tuple_mul (F.args_tuple_mul_2 _ _) (tuple_mulW l its.toArray n dd sl k t c0 c1 c2 (by rw [hsl] at hm; omega) c4 (by rw [size_rep, List.size_toArray]; exact flen)) ⟨ho, ?_⟩⟩)
  rw [size_rep]
  refine ⟨.ref s.heap.objs.size, _, I.laid (t' := s.toks) (o := .tup (List.replicate k.toNat xs).flatten) (fun b ob q => Heap.get?_push_of_some _ q) (Nat.le_refl _) ?_, rfl, q _ (I.hok.fresh (Nat.le_refl _))⟩
  exact ⟨by rw [PyProof.Rows.lm_len_rep_flat, Nat.mul_comm]; exact hz, _, r.rep k.toNat, IsTup.new _ _⟩
theorem txt_mul (x : Str) (n : Int) (h : 0 ≤ n) : Txt.mul x n = ⟨(repD x.cps.toList n).toArray⟩ := by
  have f0 : ∀ (m : Nat) (acc : Array Nat), List.foldl (· ++ ·) acc (List.replicate m x.cps) = acc ++ ((List.replicate m x.cps.toList).flatten).toArray := fun m => by
    induction m with
    | zero => intro acc; simp
    | succ m ih =>
      intro acc
      rw [List.replicate_succ, List.foldl_cons, ih, List.replicate_succ, List.flatten_cons]
      apply Array.toList_inj.mp
      simp
  unfold Txt.mul repD
  by_cases h1 : n < 1
  · rw [if_pos h1]
    have : n = 0 := by omega
    subst this
    rfl
  · rw [if_neg h1]
    split
    · rename_i h2
      rw [Bool.or_eq_true] at h2
      rcases h2 with h2 | h2
      · have : n = 1 := by simpa using h2
        subst this
        simp
      · have : x.cps.size = 0 := by simpa [Str.length] using h2
        have e : x.cps = #[] := Array.eq_empty_of_size_eq_zero this
        have e2 : ∀ m : Nat, (List.replicate m ([] : List Nat)).flatten = [] := fun m => by
          induction m with
          | zero => rfl
          | succ m ih => rw [List.replicate_succ, List.flatten_cons, ih]; rfl
        apply Str.ext'
        rw [e]
        simp [e2]
    · rw [f0]
      simp
theorem opD_mul : OpR X (binaryOp .Mult) (rD X.K (binD .Mult)) := by
  intro pins s σ H x y v u Q I rx ry ⟨F, a, b, w, ha, hb, e, q⟩
  cases a with
  | int i =>
    cases b with
    | int j =>
      have e : (if okMul i j = true then some (Val.d (.int (i * j))) else none) = some w := e
      split at e
      · rename_i hl
        cases e
        obtain rfl := ha.int
        obtain rfl := hb.int
        have c : CMul i j := by
          unfold okMul at hl
          simp only [Bool.or_eq_true, Bool.and_eq_true, decide_eq_true_eq] at hl
          exact hl
        exact op_mul pins s σ H _ _ v u Q I rx ry ⟨i, j, rfl, rfl, c, q _ _ (.here (.int _))⟩
      · cases e
    | _ => cases e
  | list xs =>
    cases b with
    | int k =>
      have e : (if -(2 ^ 63) ≤ k ∧ k < 2 ^ 63 ∧ xs.length * k.toNat ≤ lineN then some (Val.ol ((repD xs k).map .d)) else none) = some w := e
      split at e
      · rename_i hl
        cases e
        obtain ⟨p, us, rfl, hp, dx⟩ := ha.list
        obtain rfl := hb.int
        cases rx
        obtain ⟨t, rfl⟩ := ry
        exact op_repLF I hp hl.1 hl.2.1 (by rw [dx.len]; exact hl.2.2) fun p hp => q _ _ (.lst hp (dx.rep _))
      · cases e
    | _ => cases e
  | tuple xs =>
    cases b with
    | int k =>
      have e : (if xs ≠ [] ∧ 2 ≤ k ∧ k < 2 ^ 62 ∧ xs.length * k.toNat ≤ lineN then some (Val.d (.tuple (repD xs k))) else none) = some w := e
      split at e
      · rename_i hl
        cases e
        obtain ⟨p, us, rfl, hp, dx⟩ := ha.tuple
        obtain rfl := hb.int
        cases rx
        obtain ⟨t, rfl⟩ := ry
        exact op_repTF I hp (fun z => hl.1 (by subst z; cases dx; rfl)) hl.2.1 hl.2.2.1 (by rw [dx.len]; exact hl.2.2.2) fun p hp => q _ _ (.tup hp (dx.rep _))
      · cases e
    | _ => cases e
  | str z =>
    cases b with
    | int k =>
      have e : (if 0 ≤ k ∧ k < 2 ^ 62 ∧ z.length * k.toNat ≤ lineN then some (Val.d (.str ⟨(repD z.cps.toList k).toArray⟩)) else none) = some w := e
      split at e
      · rename_i hl
        cases e
        obtain rfl := ha.str
        obtain rfl := hb.int
        obtain ⟨t, rfl⟩ := rx
        obtain ⟨t', rfl⟩ := ry
        have hsl : (lineN : Nat) = 16777216 := sizeLine_eq
        have big : ∀ n : Nat, n ≤ lineN → Builtin.Str.tooLong n = false := fun n hn => by
          unfold Builtin.Str.tooLong
          simp only [decide_eq_false_iff_not]
          have : n ≤ sizeLine := hn
          omega
        refine SB.mul ⟨?_, fun h1 h2 => ?_, fun h1 h2 => big _ hl.2.2⟩ fun t' kk => ?_
        · rw [decide_eq_false (by omega), decide_eq_false (by omega)]; rfl
        · have hk : 0 < k := by omega
          have a1 : (z.length : Int) * k ≤ 16777216 := by
            have e1 : k = ((k.toNat : Nat) : Int) := by omega
            rw [e1, ← Int.natCast_mul]
            have := hl.2.2
            omega
          have a2 : (z.length : Int) ≤ (2 ^ 63 - 1) / k := by
            apply (Int.le_ediv_iff_mul_le hk).mpr
            omega
          omega
        · rw [txt_mul z k hl.1]
          exact ⟨.str _, H, I.tok _, ⟨_, rfl⟩, q _ _ (.here (.str _))⟩
      · cases e
    | _ => cases e
  | _ => cases b <;> cases e

/-! ### comparisons -/
abbrev rC (K : PySem.W.Frag) (f : D → D → Option Bool) : R2 := fun u1 u2 H Q => ∃ F x y k, SeeF K H F u1 x ∧ SeeF K H F u2 y ∧ f x y = some k ∧ Q (.bl k) H
theorem opC_eq (hu : X.A.units + 100 < cLine) : OpR X (compareOp .Eq) (rC X.K eqD) := by
  intro pins s σ H x y v u Q I rx ry ⟨F, a, b, k, ha, hb, e, q⟩
  unfold eqD at e
  split at e
  · rename_i h
    cases e
    rw [Bool.or_eq_true] at h
    rcases h with h | h
    · cases a <;> cases b <;> first | cases h | skip
      · obtain rfl := ha.non
        obtain rfl := hb.non
        exact op_eq pins s σ H _ _ v u Q I rx ry ⟨rfl, by simpa [PyData.eqv] using q⟩
      · rename_i i j
        obtain rfl := ha.bl
        obtain rfl := hb.bl
        exact op_eq pins s σ H _ _ v u Q I rx ry ⟨rfl, by rw [dec_bl]; simpa [PyData.eqv] using q⟩
      · rename_i i j
        obtain rfl := ha.int
        obtain rfl := hb.int
        exact op_eq pins s σ H _ _ v u Q I rx ry ⟨rfl, by rw [dec_int]; simpa [PyData.eqv] using q⟩
      · rename_i i j
        obtain rfl := ha.str
        obtain rfl := hb.str
        exact op_eq pins s σ H _ _ v u Q I rx ry ⟨rfl, by rw [dec_str]; simpa [PyData.eqv] using q⟩
    · unfold okEq at h
      simp only [Bool.and_eq_true, decide_eq_true_eq] at h
      obtain ⟨as, r1⟩ := Dp.reads I a x v (Den.dp ha.see h.1.1) rx
      obtain ⟨bs, r2⟩ := Dp.reads I b y u (Den.dp hb.see h.1.2) ry
      exact SeqAt.compareEq_reads r1 r2 h.1.1 h.1.2 (by omega) ⟨.bl _, H, I, rfl, q⟩
  · cases e
theorem opC_ne (hu : X.A.units + 100 < cLine) : OpR X (compareOp .NotEq) (rC X.K fun x y => (eqD x y).map (!·)) := by
  intro pins s σ H x y v u Q I rx ry ⟨F, a, b, k, ha, hb, e, q⟩
  have e : (eqD a b).map (!·) = some k := e
  unfold eqD at e
  split at e
  · rename_i h
    cases e
    rw [Bool.or_eq_true] at h
    rcases h with h | h
    · cases a <;> cases b <;> first | cases h | skip
      · obtain rfl := ha.non
        obtain rfl := hb.non
        exact op_ne pins s σ H _ _ v u Q I rx ry ⟨rfl, by simpa [PyData.eqv] using q⟩
      · rename_i i j
        obtain rfl := ha.bl
        obtain rfl := hb.bl
        exact op_ne pins s σ H _ _ v u Q I rx ry ⟨rfl, by rw [dec_bl]; simpa [PyData.eqv] using q⟩
      · rename_i i j
        obtain rfl := ha.int
        obtain rfl := hb.int
        exact op_ne pins s σ H _ _ v u Q I rx ry ⟨rfl, by rw [dec_int]; simpa [PyData.eqv] using q⟩
      · rename_i i j
        obtain rfl := ha.str
        obtain rfl := hb.str
        exact op_ne pins s σ H _ _ v u Q I rx ry ⟨rfl, by rw [dec_str]; simpa [PyData.eqv] using q⟩
    · unfold okEq at h
      simp only [Bool.and_eq_true, decide_eq_true_eq] at h
      obtain ⟨as, r1⟩ := Dp.reads I a x v (Den.dp ha.see h.1.1) rx
      obtain ⟨bs, r2⟩ := Dp.reads I b y u (Den.dp hb.see h.1.2) ry
      exact SeqAt.compareNe_reads r1 r2 h.1.1 h.1.2 (by omega) ⟨.bl _, H, I, rfl, q⟩
  · cases e
theorem in_ok {neg : Bool} (hu : X.A.units + 100 < cLine) : OpR X (compareOp (if neg then .NotIn else .In)) (rC X.K fun x y => (inD x y).map fun k => if neg then !k else k) := by
  intro pins s σ H x y v u Q I rx ry ⟨F, a, b, k, ha, hb, e0, q⟩
  obtain ⟨k0, e, e1⟩ := Option.map_eq_some_iff.mp (show (inD a b).map (fun k => if neg then !k else k) = some k from e0)
  clear e0
  subst e1
  unfold inD at e
  cases b with
  | list ys =>
    dsimp only at e
    split at e
    · rename_i h
      cases e
      unfold okEq at h
      simp only [Bool.and_eq_true, decide_eq_true_eq] at h
      obtain ⟨⟨c1, c2⟩, hd⟩ := h
      have c2' : PyData.canLayAll0 ys = true := by simpa only [PyData.canLay0] using c2
      obtain ⟨as, r1⟩ := Dp.reads I a x v (Den.dp ha.see c1) rx
      obtain ⟨bs, r2⟩ := Dp.reads I (.list ys) y u (Den.dp hb.see c2) ry
      have hd : min a.depth (PyData.depthAll ys + 1) ≤ 64 := by simpa only [PyData.depth] using hd
      cases neg with
      | false => exact SeqAt.in_list_reads r2 r1 c2' c1 (by omega) ⟨.bl _, H, I, rfl, q⟩
      | true => exact SeqAt.notIn_list_reads r2 r1 c2' c1 (by omega) ⟨.bl _, H, I, rfl, q⟩
    · cases e
  | tuple ys =>
    dsimp only at e
    split at e
    · rename_i h
      cases e
      unfold okEq at h
      simp only [Bool.and_eq_true, decide_eq_true_eq] at h
      obtain ⟨⟨c1, c2⟩, hd⟩ := h
      have c2' : PyData.canLayAll0 ys = true := by simpa only [PyData.canLay0] using c2
      obtain ⟨as, r1⟩ := Dp.reads I a x v (Den.dp ha.see c1) rx
      obtain ⟨bs, r2⟩ := Dp.reads I (.tuple ys) y u (Den.dp hb.see c2) ry
      have hd : min a.depth (PyData.depthAll ys + 1) ≤ 64 := by simpa only [PyData.depth] using hd
      cases neg with
      | false => exact SeqAt.in_tuple_reads r2 r1 c2' c1 (by omega) ⟨.bl _, H, I, rfl, q⟩
      | true => exact SeqAt.notIn_tuple_reads r2 r1 c2' c1 (by omega) ⟨.bl _, H, I, rfl, q⟩
    · cases e
  | dict kvs =>
    dsimp only at e
    cases h : dKey a with
    | none => rw [h] at e; cases e
    | some kk =>
      rw [h] at e
      cases e
      obtain ⟨p, us, rfl, hp, dx⟩ := hb.dict
      obtain rfl := kV_of ha h
      cases ry
      have i3 := dx.has kk
      have g : DGet H p (kV kk) (valV us kk) := .inl ⟨us, kk, hp, rfl, rfl⟩
      have q : Q (.bl (if neg then !(valV us kk).isSome else (valV us kk).isSome)) H := by rw [← i3]; exact q
      cases neg with
      | false => exact d_in (by omega) I g rx fun s' I' => ⟨.bl _, H, I', rfl, q⟩
      | true => exact d_notIn (by omega) I g rx fun s' I' => ⟨.bl _, H, I', rfl, q⟩
  | str z =>
    cases a with
    | str c =>
      obtain ⟨cl, hc⟩ : ∃ l, c.cps.toList = l := ⟨_, rfl⟩
      dsimp only at e
      rw [hc] at e
      cases cl with
      | nil => cases e
      | cons n r =>
        cases r with
        | cons m r => cases e
        | nil =>
          cases e
          obtain rfl := ha.str
          obtain rfl := hb.str
          have ec : c = ⟨#[n]⟩ := Str.ext' (Array.toList_inj.mp (by rw [hc]))
          subst ec
          cases neg with
          | false => exact op_in_sign pins s σ H _ _ v u Q I rx ry ⟨n, z, rfl, rfl, q⟩
          | true => exact op_notIn_sign pins s σ H _ _ v u Q I rx ry ⟨n, z, rfl, rfl, q⟩
    | _ => cases e
  | _ => cases e
theorem opC_in (hu : X.A.units + 100 < cLine) : OpR X (compareOp .In) (rC X.K inD) := fun pins s σ H x y v u Q I rx ry ⟨F, a, b, k, ha, hb, e, q⟩ =>
  in_ok (neg := false) hu pins s σ H x y v u Q I rx ry ⟨F, a, b, k, ha, hb, (by show (inD a b).map _ = _; rw [e]; rfl), q⟩
theorem opC_notin (hu : X.A.units + 100 < cLine) : OpR X (compareOp .NotIn) (rC X.K fun x y => (inD x y).map (!·)) := fun pins s σ H x y v u Q I rx ry ⟨F, a, b, k, ha, hb, e, q⟩ =>
  in_ok (neg := true) hu pins s σ H x y v u Q I rx ry ⟨F, a, b, k, ha, hb, by rw [← e]; rfl, q⟩
theorem opC_lt : OpR X (compareOp .Lt) (rC X.K (cmpD .Lt)) := by
  intro pins s σ H x y v u Q I rx ry ⟨F, a, b, k, ha, hb, e, q⟩
  cases a <;> cases b <;> first | cases e | skip
  · obtain rfl := ha.int
    obtain rfl := hb.int
    exact op_lt pins s σ H _ _ v u Q I rx ry ⟨_, _, rfl, rfl, q⟩
  · obtain rfl := ha.str
    obtain rfl := hb.str
    exact op_lt_str pins s σ H _ _ v u Q I rx ry ⟨_, _, rfl, rfl, q⟩
theorem opC_le : OpR X (compareOp .LtE) (rC X.K (cmpD .LtE)) := by
  intro pins s σ H x y v u Q I rx ry ⟨F, a, b, k, ha, hb, e, q⟩
  cases a <;> cases b <;> first | cases e | skip
  · obtain rfl := ha.int
    obtain rfl := hb.int
    exact op_le pins s σ H _ _ v u Q I rx ry ⟨_, _, rfl, rfl, q⟩
  · obtain rfl := ha.str
    obtain rfl := hb.str
    exact op_le_str pins s σ H _ _ v u Q I rx ry ⟨_, _, rfl, rfl, q⟩
theorem opC_gt : OpR X (compareOp .Gt) (rC X.K (cmpD .Gt)) := by
  intro pins s σ H x y v u Q I rx ry ⟨F, a, b, k, ha, hb, e, q⟩
  cases a <;> cases b <;> first | cases e | skip
  · obtain rfl := ha.int
    obtain rfl := hb.int
    exact op_gt pins s σ H _ _ v u Q I rx ry ⟨_, _, rfl, rfl, q⟩
  · obtain rfl := ha.str
    obtain rfl := hb.str
    exact op_gt_str pins s σ H _ _ v u Q I rx ry ⟨_, _, rfl, rfl, q⟩
theorem opC_ge : OpR X (compareOp .GtE) (rC X.K (cmpD .GtE)) := by
  intro pins s σ H x y v u Q I rx ry ⟨F, a, b, k, ha, hb, e, q⟩
  cases a <;> cases b <;> first | cases e | skip
  · obtain rfl := ha.int
    obtain rfl := hb.int
    exact op_ge pins s σ H _ _ v u Q I rx ry ⟨_, _, rfl, rfl, q⟩
  · obtain rfl := ha.str
    obtain rfl := hb.str
    exact op_ge_str pins s σ H _ _ v u Q I rx ry ⟨_, _, rfl, rfl, q⟩
/-- a comparison that the machine knows -/
def okCmp : CmpOp → Bool
  | .Is => false
  | .IsNot => false
  | _ => true
theorem opC (hu : X.A.units + 100 < cLine) {op : CmpOp} (h : okCmp op = true) : OpR X (compareOp op) (rC X.K (cmpD op)) := by
  cases op with
  | Eq => exact opC_eq hu
  | NotEq => exact opC_ne hu
  | Lt => exact opC_lt
  | LtE => exact opC_le
  | Gt => exact opC_gt
  | GtE => exact opC_ge
  | In => exact opC_in hu
  | NotIn => exact opC_notin hu
  | _ => cases h
def okBin : Operator → Bool
  | .Add | .Sub | .Mult | .FloorDiv | .Mod | .Pow => true
  | _ => false
theorem opD {op : Operator} (h : okBin op = true) : OpR X (binaryOp op) (rD X.K (binD op)) := by
  cases op with
  | Add => exact opD_add
  | Sub => exact opD_sub
  | Mult => exact opD_mul
  | FloorDiv => exact opD_fdiv
  | Mod => exact opD_mod
  | Pow => exact opD_pow
  | _ => cases h
end
end PM
end

section
set_option Elab.async false
set_option linter.all false
set_option maxRecDepth 100000
set_option maxHeartbeats 2000000
/-! PMExpr: the machine's expressions over HandS' judgements: operators, tests, displays, subscripts. -/
namespace PM
open PySem PySem.Spec PyProof.Rows L2
section
variable {X : Cx} {ca : Str → Option Addr} {Wx : Wish} {c : Ctx} {x y z : Expr} {a b d : ME} {pos : Pos}
theorem pm_bin {op : Operator} (h : okBin op = true) (ha : PE X x (tI X.K ca Wx c a)) (hb : PE X y (tI X.K ca Wx c b)) : PE X (.BinOp x op y pos) (tI X.K ca Wx c (.bin op a b)) :=
  (pe_op (opD h) ha hb).weak fun σ H Q ⟨e, F, own, R, P⟩ => rd_two (r := fun x y H2 => rD X.K (binD op) x y H2 Q) R P fun va vb e2 u1 u2 H2 F2 own2 fp1 fp2 R2 V1 V2 d N1 N2 E P => by
    cases h1 : see e2 va with
    | none => rw [h1] at P; exact P.elim
    | some p =>
      cases h2 : see e2 vb with
      | none => rw [h1, h2] at P; exact P.elim
      | some q =>
        rw [h1, h2] at P
        obtain ⟨v, hv, P⟩ := PR.opt P
        exact ⟨F2, p, q, v, V1.seeF R2 h1, V2.seeF R2 h2, hv, QV.made P R2 E⟩
theorem cmp_w {K : PySem.W.Frag} {op : CmpOp} {σ : L2.St} {H : Hp} {Q : VK} (h : tI K ca Wx c (.cmp op a b) σ H Q) : tOp (rC K (cmpD op)) (tI K ca Wx c a) (tI K ca Wx c b) σ H Q := by
  obtain ⟨e, F, own, R, P⟩ := h
  exact rd_two (r := fun x y H2 => rC K (cmpD op) x y H2 Q) R P fun va vb e2 u1 u2 H2 F2 own2 fp1 fp2 R2 V1 V2 d N1 N2 E P => by
    cases h1 : see e2 va with
    | none => rw [h1] at P; exact P.elim
    | some p =>
      cases h2 : see e2 vb with
      | none => rw [h1, h2] at P; exact P.elim
      | some q =>
        rw [h1, h2] at P
        obtain ⟨v, hv, P⟩ := PR.opt P
        obtain ⟨k, hk, rfl⟩ := Option.map_eq_some_iff.mp hv
        exact ⟨F2, p, q, k, V1.seeF R2 h1, V2.seeF R2 h2, hk, QV.scal P R2 E (.bl k)⟩
theorem pm_cmp {op : CmpOp} (hu : X.A.units + 100 < cLine) (h : okCmp op = true) (ha : PE X x (tI X.K ca Wx c a)) (hb : PE X y (tI X.K ca Wx c b)) (hm : behindInMarks op y = false) : PE X (.Compare x [op] [y] pos) (tI X.K ca Wx c (.cmp op a b)) :=
  (pe_cmpR (opC hu h) ha hb hm).weak fun σ H Q h => cmp_w h
theorem neg_un : UnR X (unaryOp .USub) (rU fun i => .int (-i)) := un_neg
theorem pm_neg (ha : PE X x (tI X.K ca Wx c a)) : PE X (.UnaryOp .USub x pos) (tI X.K ca Wx c (.neg a)) :=
  (pe_un un_neg ha).weak fun σ H Q ⟨e, F, own, R, P⟩ => rd_one (r := fun x H1 => rU (fun i => .int (-i)) x H1 Q) R P fun va e2 u H2 F2 own2 fp R2 V1 N1 E P => by
    cases va with
    | d q =>
      cases q with
      | int i =>
        obtain rfl := (V1.seeF R2 (x := .int i) rfl).int
        exact ⟨i, rfl, QV.scal P R2 E (.int _)⟩
      | _ => exact P.elim
    | _ => exact P.elim
theorem pm_not (ha : PE X x (tI X.K ca Wx c a)) : PE X (.UnaryOp .Not x pos) (tI X.K ca Wx c (.not a)) :=
  (pe_not ha).weak fun σ H Q ⟨e, F, own, R, P⟩ => rd_one (r := fun x H1 => ∃ c, x = .bl c ∧ Q (.bl (!c)) H1) R P fun va e2 u H2 F2 own2 fp R2 V1 N1 E P => by
    cases va with
    | d q =>
      cases q with
      | bool i =>
        obtain rfl := (V1.seeF R2 (x := .bool i) rfl).bl
        exact ⟨i, rfl, QV.scal P R2 E (.bl _)⟩
      | _ => exact P.elim
    | _ => exact P.elim
theorem pm_and {rest : List Expr} (ha : PE X x (tI X.K ca Wx c a)) (hb : PE X (.BoolOp .And (y :: rest) pos) (tI X.K ca Wx c b)) : PE X (.BoolOp .And (x :: y :: rest) pos) (tI X.K ca Wx c (.and a b)) :=
  (pe_and ha hb).weak fun σ H Q ⟨e, F, own, R, P⟩ => rd_one (r := fun x H1 => ∃ k, x = .bl k ∧ if k = true then tI X.K ca Wx c b σ H1 Q else Q (.bl false) H1) R P fun va e2 u H2 F2 own2 fp R2 V1 N1 E P => by
    cases va with
    | d q =>
      cases q with
      | bool i =>
        obtain rfl := (V1.seeF R2 (x := .bool i) rfl).bl
        refine ⟨i, rfl, ?_⟩
        cases i with
        | true => exact rd_last E R2 P
        | false => exact QV.scal P R2 E (.bl _)
      | _ => exact P.elim
    | _ => exact P.elim
theorem pm_or {rest : List Expr} (ha : PE X x (tI X.K ca Wx c a)) (hb : PE X (.BoolOp .Or (y :: rest) pos) (tI X.K ca Wx c b)) : PE X (.BoolOp .Or (x :: y :: rest) pos) (tI X.K ca Wx c (.or a b)) :=
  (pe_or ha hb).weak fun σ H Q ⟨e, F, own, R, P⟩ => rd_one (r := fun x H1 => ∃ k, x = .bl k ∧ if k = true then Q (.bl true) H1 else tI X.K ca Wx c b σ H1 Q) R P fun va e2 u H2 F2 own2 fp R2 V1 N1 E P => by
    cases va with
    | d q =>
      cases q with
      | bool i =>
        obtain rfl := (V1.seeF R2 (x := .bool i) rfl).bl
        refine ⟨i, rfl, ?_⟩
        cases i with
        | true => exact QV.scal P R2 E (.bl _)
        | false => exact rd_last E R2 P
      | _ => exact P.elim
    | _ => exact P.elim
/-! ### tests -/
/-- a test's reading -/
def tIt (K : PySem.W.Frag) (ca : Str → Option Addr) (Wx : Wish) (c : Ctx) (m : ME) : TT := fun σ H Q => ∃ e F own, Rel K ca σ H e F own ∧
  PR (ev c m e) (fun v e' => ∃ k, (see e' v).bind truD = some k ∧ ∀ H' F' own', Rel K ca σ H' e' F' own' → Ext H F (Ow own) H' F' (Ow own') → Q k H') (QX K ca Wx σ H F (Ow own))
theorem SeeF.tru {K : PySem.W.Frag} {H : Hp} {F : Fs} {u : V} {x : D} {k : Bool} (h : SeeF K H F u x) (hk : truD x = some k) : TruV K u H k := by
  cases x with
  | none => obtain rfl := h.non; cases hk; rfl
  | bool b => obtain rfl := h.bl; cases hk; rfl
  | int i => obtain rfl := h.int; cases hk; rfl
  | str z =>
    obtain rfl := h.str
    have hk : (if z.length ≤ lineN then some ((z.length : Int) != 0) else none) = some k := hk
    split at hk
    · rename_i hl
      exact ⟨hl, (Option.some.inj hk).symm⟩
    · cases hk
  | list ds =>
    obtain ⟨p, us, rfl, hp, d⟩ := h.list
    cases hk
    have e : ds.isEmpty = us.isEmpty := by
      have := d.len
      cases ds <;> cases us <;> simp at this ⊢
    exact .inl ⟨us, .inl hp, by rw [e]⟩
  | tuple ds =>
    obtain ⟨p, us, rfl, hp, d⟩ := h.tuple
    cases hk
    have e : ds.isEmpty = us.isEmpty := by
      have := d.len
      cases ds <;> cases us <;> simp at this ⊢
    exact .inr (.inl ⟨us, hp, by rw [e]⟩)
  | dict ds => cases hk
/-- an expression of any kind in a test's place -/
theorem pt_any (ha : PE X x (tI X.K ca Wx c a)) (he : ∀ whole, isTrue x X.env whole = (do let v ← whole; standAt x.pos; holding [v] (truthy v))) : PT X x (tIt X.K ca Wx c a) :=
  (pt_truth ha he).weak fun σ H Q ⟨e, F, own, R, P⟩ => ⟨e, F, own, R, P.mono (fun v e' ⟨k, hk, q⟩ u H' F' own' fp R' V' N' E' => by
    cases h : see e' v with
    | none => rw [h] at hk; cases hk
    | some p =>
      rw [h] at hk
      exact ⟨k, (V'.seeF R' h).tru hk, q H' F' own' R' E'⟩) fun _ _ q => q⟩
/-- a comparison, or what else hands back a truth -/
theorem pt_bool (ha : PT X x (tTest (tI X.K ca Wx c a))) (hb : ∀ e, PR (ev c a e) (fun v _ => ∃ k, v = .d (.bool k)) (fun _ _ => True) ∨ ev c a e = .no) : PT X x (tIt X.K ca Wx c a) :=
  ha.weak fun σ H Q ⟨e, F, own, R, P⟩ => ⟨e, F, own, R, by
    rcases hb e with hb | hb
    · cases h : ev c a e with
      | ok v e' =>
        rw [h] at P hb
        obtain ⟨b, rfl⟩ := hb
        obtain ⟨k, hk, q⟩ := P
        cases hk
        intro u H' F' own' fp R' V' N' E'
        exact ⟨b, (V'.seeF R' (x := .bool b) rfl).bl, q H' F' own' R' E'⟩
      | ex y e' => rw [h] at P; exact P
      | no => rw [h] at P; exact P
    · rw [hb] at P; exact P.elim⟩
theorem pm_ite (hc : PT X z (tIt X.K ca Wx c d)) (ha : PE X x (tI X.K ca Wx c a)) (hb : PE X y (tI X.K ca Wx c b)) : PE X (.IfExp z x y pos) (tI X.K ca Wx c (.ite d a b)) :=
  (pe_ifExp hc ha hb).weak fun σ H Q ⟨e, F, own, R, P⟩ => ⟨e, F, own, R, PR.bind P |>.mono (fun v e' P => by
    cases h : (see e' v).bind truD with
    | none => rw [h] at P; exact P.elim
    | some k =>
      rw [h] at P
      refine ⟨k, rfl, fun H' F' own' R' E' => ?_⟩
      cases k with
      | true => exact rd_last E' R' P
      | false => exact rd_last E' R' P) fun _ _ q => q⟩
theorem pt_and {rest : List Expr} (ha : PT X x (tIt X.K ca Wx c a)) (hb : PW X (.BoolOp .And (y :: rest) pos) (tIt X.K ca Wx c b)) (hbool : ∀ e, PR (ev c a e) (fun v _ => True) (fun _ _ => True) → True := by intros; trivial) :
    PW X (.BoolOp .And (x :: y :: rest) pos) (tIt X.K ca Wx c (.and a b)) :=
  (pw_and ha hb).weak fun σ H Q ⟨e, F, own, R, P⟩ => ⟨e, F, own, R, PR.bind P |>.mono (fun v e' P => by
    cases v with
    | d q =>
      cases q with
      | bool i =>
        refine ⟨i, rfl, fun H' F' own' R' E' => ?_⟩
        cases i with
        | true => exact ⟨e', F', own', R', PR.mono P (fun v e2 ⟨k, hk, q⟩ => ⟨k, hk, fun H2 F2 own2 R2 E2 => q H2 F2 own2 R2 (E'.trans E2)⟩) fun _ _ q => q.shift E'⟩
        | false =>
          obtain ⟨k, hk, q⟩ := P
          cases hk
          exact q H' F' own' R' E'
      | _ => exact P.elim
    | _ => exact P.elim) fun _ _ q => q⟩
theorem pt_or {rest : List Expr} (ha : PT X x (tIt X.K ca Wx c a)) (hb : PW X (.BoolOp .Or (y :: rest) pos) (tIt X.K ca Wx c b)) :
    PW X (.BoolOp .Or (x :: y :: rest) pos) (tIt X.K ca Wx c (.or a b)) :=
  (pw_or ha hb).weak fun σ H Q ⟨e, F, own, R, P⟩ => ⟨e, F, own, R, PR.bind P |>.mono (fun v e' P => by
    cases v with
    | d q =>
      cases q with
      | bool i =>
        refine ⟨i, rfl, fun H' F' own' R' E' => ?_⟩
        cases i with
        | false => exact ⟨e', F', own', R', PR.mono P (fun v e2 ⟨k, hk, q⟩ => ⟨k, hk, fun H2 F2 own2 R2 E2 => q H2 F2 own2 R2 (E'.trans E2)⟩) fun _ _ q => q.shift E'⟩
        | true =>
          obtain ⟨k, hk, q⟩ := P
          cases hk
          exact q H' F' own' R' E'
      | _ => exact P.elim
    | _ => exact P.elim) fun _ _ q => q⟩
theorem pt_notT (ha : PT X x (tIt X.K ca Wx c a)) : PT X (.UnaryOp .Not x pos) (tIt X.K ca Wx c (.not a)) :=
  (L2.pt_not ha).weak fun σ H Q ⟨e, F, own, R, P⟩ => ⟨e, F, own, R, PR.bind P |>.mono (fun v e' P => by
    cases v with
    | d q =>
      cases q with
      | bool i =>
        obtain ⟨k, hk, q⟩ := P
        cases hk
        exact ⟨i, rfl, q⟩
      | _ => exact P.elim
    | _ => exact P.elim) fun _ _ q => q⟩
/-! ### chains, identity -/
theorem chain_w {K : PySem.W.Frag} {op op' : CmpOp} {σ : L2.St} {H : Hp} {Q : VK} (h : tI K ca Wx c (.chain op op' a b d) σ H Q) : tChain (rC K (cmpD op)) (rC K (cmpD op')) (tI K ca Wx c a) (tI K ca Wx c b) (tI K ca Wx c d) σ H Q := by
  obtain ⟨e, F, own, R, P⟩ := h
  exact rd_two (r := fun x y H2 => rC K (cmpD op) x y H2 fun w H3 => ∃ k, w = .bl k ∧ (if k = true then tI K ca Wx c d σ H3 (fun w' H4 => rC K (cmpD op') y w' H4 Q) else Q (.bl false) H3)) R P fun va vb e2 u1 u2 H2 F2 own2 fp1 fp2 R2 V1 V2 dj N1 N2 E P => by
    cases h1 : see e2 va with
    | none => rw [h1] at P; exact P.elim
    | some p =>
      cases h2 : see e2 vb with
      | none => rw [h1, h2] at P; exact P.elim
      | some q =>
        rw [h1, h2] at P
        dsimp only at P
        cases h3 : cmpD op p q with
        | none => rw [h3] at P; exact P.elim
        | some k =>
          rw [h3] at P
          refine ⟨F2, p, q, k, V1.seeF R2 h1, V2.seeF R2 h2, h3, k, rfl, ?_⟩
          cases k with
          | false => exact QV.scal P R2 E (.bl _)
          | true =>
            refine rd_next E R2 P fun vd e3 u3 H3 F3 own3 fp3 R3 V3 N3 E3 E4 P => ?_
            cases h4 : see e3 vb with
            | none => rw [h4] at P; exact P.elim
            | some q' =>
              cases h5 : see e3 vd with
              | none => rw [h4, h5] at P; exact P.elim
              | some r =>
                rw [h4, h5] at P
                obtain ⟨v, hv, P⟩ := PR.opt P
                obtain ⟨k, hk, rfl⟩ := Option.map_eq_some_iff.mp hv
                exact ⟨F3, q', r, k, (V2.ext E3 R2.wok).seeF R3 h4, V3.seeF R3 h5, hk, QV.scal P R3 E4 (.bl _)⟩
theorem pm_chain {op op' : CmpOp} (hu : X.A.units + 100 < cLine) (h : okCmp op = true) (h' : okCmp op' = true) (ha : PE X x (tI X.K ca Wx c a)) (hb : PE X y (tI X.K ca Wx c b)) (hd : PE X z (tI X.K ca Wx c d)) (hm : lastMarks [op, op'] [y, z] = false) :
    PE X (.Compare x [op, op'] [y, z] pos) (tI X.K ca Wx c (.chain op op' a b d)) := (pe_chain (opC hu h) (opC hu h') ha hb hd hm).weak fun σ H Q h => chain_w h
theorem RV.nonV {σ : L2.St} {K : PySem.W.Frag} {H : Hp} {F W : Fs} {e : Env} {own : Nat → List Addr} {u : V} {v : Val} {fp : List Addr} {k : Bool} (R : Rel K ca σ H e F own) (h : RV K ca σ H F W u v fp) (s : nonV e v = some k) : k = decide (u = .non) := by
  have ref : ∀ {w : Val} {gp : List Addr}, VR K ca H F u w gp → ((∃ l, w = .ol l) ∨ ∃ l, w = .od l) → decide (u = .non) = false := fun r q => by
    cases r with
    | ol _ _ => rfl
    | od _ _ => rfl
    | d _ => rcases q with ⟨_, q⟩ | ⟨_, q⟩ <;> cases q
    | ex _ _ _ => rfl
  cases h with
  | @pk i u hs =>
    have s : (match getS e i with
      | some (.ol _) => some false
      | some (.od _) => some false
      | _ => none) = some k := s
    cases h1 : getS e i with
    | none => rw [h1] at s; cases s
    | some w =>
      rw [h1] at s
      obtain ⟨u', hs', r⟩ := R.slot i w h1
      rw [hs] at hs'
      cases hs'
      cases w with
      | ol l => cases s; rw [ref r (.inl ⟨_, rfl⟩)]
      | od l => cases s; rw [ref r (.inr ⟨_, rfl⟩)]
      | _ => cases s
  | val r n f =>
    cases r with
    | @d u x dd =>
      cases x with
      | none => cases s; obtain rfl := (SeeF.den dd).non; rfl
      | bool b => cases s; obtain rfl := (SeeF.den dd).bl; rfl
      | int b => cases s; obtain rfl := (SeeF.den dd).int; rfl
      | str b => cases s; obtain rfl := (SeeF.den dd).str; rfl
      | list b => cases s; obtain ⟨_, _, rfl, _⟩ := (SeeF.den dd).list; rfl
      | tuple b => cases s; obtain ⟨_, _, rfl, _⟩ := (SeeF.den dd).tuple; rfl
      | dict b => cases s; obtain ⟨_, _, rfl, _⟩ := (SeeF.den dd).dict; rfl
    | ol _ _ => cases s; rfl
    | od _ _ => cases s; rfl
    | ex _ _ _ => cases s; rfl
theorem isN_w {K : PySem.W.Frag} {neg : Bool} {σ : L2.St} {H : Hp} {Q : VK} (h : tI K ca Wx c (.isN neg a) σ H Q) : tI K ca Wx c a σ H fun x H1 => Q (.bl (if neg then !decide (x = .non) else decide (x = .non))) H1 := by
  obtain ⟨e, F, own, R, P⟩ := h
  exact rd_one (r := fun x H1 => Q (.bl (if neg then !decide (x = .non) else decide (x = .non))) H1) R P fun va e2 u H2 F2 own2 fp R2 V1 N1 E P => by
    obtain ⟨v, hv, P⟩ := PR.opt P
    obtain ⟨k, hk, rfl⟩ := Option.map_eq_some_iff.mp hv
    rw [← V1.nonV R2 hk]
    exact QV.scal P R2 E (.bl _)
theorem pm_isN {neg : Bool} {j : Nat} {pos' : Pos} (ha : PE X x (tI X.K ca Wx c a)) : PE X (.Compare x [if neg then .IsNot else .Is] [.Constant .none j pos'] pos) (tI X.K ca Wx c (.isN neg a)) := by
  cases neg with
  | false => exact (pe_cmp (pc_isN ha)).weak fun σ H Q h => isN_w h
  | true => exact (pe_cmp (pc_notN ha)).weak fun σ H Q h => isN_w h
theorem isB_w {K : PySem.W.Frag} {neg k : Bool} {σ : L2.St} {H : Hp} {Q : VK} (h : tI K ca Wx c (.isB neg a k) σ H Q) : tI K ca Wx c a σ H fun x H1 => ∃ p q : Bool, x = .bl p ∧ V.bl k = .bl q ∧ Q (.bl (if neg then !decide (p = q) else decide (p = q))) H1 := by
  obtain ⟨e, F, own, R, P⟩ := h
  exact rd_one (r := fun x H1 => ∃ p q : Bool, x = .bl p ∧ V.bl k = .bl q ∧ Q (.bl (if neg then !decide (p = q) else decide (p = q))) H1) R P fun va e2 u H2 F2 own2 fp R2 V1 N1 E P => by
    obtain ⟨v, hv, P⟩ := PR.opt P
    obtain ⟨p, hp, rfl⟩ := Option.map_eq_some_iff.mp hv
    cases va with
    | d q =>
      cases q with
      | bool q =>
        cases hp
        obtain rfl := (V1.seeF R2 (x := .bool p) rfl).bl
        exact ⟨p, k, rfl, rfl, QV.scal P R2 E (.bl _)⟩
      | _ => cases hp
    | _ => cases hp
theorem pm_isB {neg k : Bool} {j : Nat} {pos' : Pos} (ha : PE X x (tI X.K ca Wx c a)) : PE X (.Compare x [if neg then .IsNot else .Is] [.Constant (.bool k) j pos'] pos) (tI X.K ca Wx c (.isB neg a k)) := by
  cases neg with
  | false => exact (pe_cmpR op_isBl ha pe_bl (nomark _)).weak fun σ H Q h => isB_w h
  | true => exact (pe_cmpR op_notBl ha pe_bl (nomark _)).weak fun σ H Q h => isB_w h
/-! ### .. as tests -/
theorem tIt_bool {K : PySem.W.Frag} {m : ME} (hb : ∀ e, PR (ev c m e) (fun v _ => ∃ k, v = .d (.bool k)) (fun _ _ => True) ∨ ev c m e = .no) {σ : L2.St} {H : Hp} {Q : Bool → Hp → Prop} (h : tIt K ca Wx c m σ H Q) : tI K ca Wx c m σ H fun x H' => ∃ k, x = .bl k ∧ Q k H' := by
  obtain ⟨e, F, own, R, P⟩ := h
  refine ⟨e, F, own, R, ?_⟩
  rcases hb e with hb | hb
  · cases h : ev c m e with
    | ok v e' =>
      rw [h] at P hb
      obtain ⟨b, rfl⟩ := hb
      obtain ⟨k, hk, q⟩ := P
      cases hk
      intro u H' F' own' fp R' V' N' E'
      exact ⟨b, (V'.seeF R' (x := .bool b) rfl).bl, q H' F' own' R' E'⟩
    | ex y e' => rw [h] at P; exact P
    | no => rw [h] at P; exact P
  · rw [hb] at P; exact P.elim
/-- a run that tells a truth, or none -/
def Tru (r : Res Val) : Prop := PR r (fun v _ => ∃ k, v = .d (.bool k)) (fun _ _ => True) ∨ r = .no
theorem Tru.bind {α : Type} {r : Res α} {f : α → Env → Res Val} (h : ∀ a e, Tru (f a e)) : Tru (r.bind f) := by
  cases r with
  | ok a e => exact h a e
  | ex x e => exact .inl trivial
  | no => exact .inr rfl
theorem Tru.opt {o : Option Bool} {e : Env} {f : Bool → Bool} : Tru (PM.opt (o.map fun k => Val.d (.bool (f k))) e) := by
  cases o with
  | none => exact .inr rfl
  | some k => exact .inl ⟨_, rfl⟩
theorem tru_cmp {op : CmpOp} (e : Env) : Tru (ev c (.cmp op a b) e) := Tru.bind fun va e1 => Tru.bind fun vb e2 => by
  cases see e2 va with
  | none => exact .inr rfl
  | some x =>
    cases see e2 vb with
    | none => exact .inr rfl
    | some y => exact Tru.opt (f := fun k => k)
theorem tru_isN {neg : Bool} (e : Env) : Tru (ev c (.isN neg a) e) := Tru.bind fun va e1 => Tru.opt
theorem tru_isB {neg k : Bool} (e : Env) : Tru (ev c (.isB neg a k) e) := Tru.bind fun va e1 => Tru.opt
theorem tru_chain {op op' : CmpOp} (e : Env) : Tru (ev c (.chain op op' a b d) e) := Tru.bind fun va e1 => Tru.bind fun vb e2 => by
  cases see e2 va with
  | none => exact .inr rfl
  | some x =>
    cases see e2 vb with
    | none => exact .inr rfl
    | some y =>
      dsimp only
      cases cmpD op x y with
      | none => exact .inr rfl
      | some k =>
        cases k with
        | false => exact .inl ⟨_, rfl⟩
        | true =>
          refine Tru.bind fun vd e3 => ?_
          cases see e3 vb with
          | none => exact .inr rfl
          | some x =>
            cases see e3 vd with
            | none => exact .inr rfl
            | some y => exact Tru.opt (f := fun k => k)
theorem pt_cmpM {op : CmpOp} (hu : X.A.units + 100 < cLine) (h : okCmp op = true) (ha : PE X x (tI X.K ca Wx c a)) (hb : PE X y (tI X.K ca Wx c b)) (hm : behindInMarks op y = false) : PT X (.Compare x [op] [y] pos) (tIt X.K ca Wx c (.cmp op a b)) :=
  (pt_cmpR (opC hu h) ha hb hm).weak fun σ H Q h => cmp_w (tIt_bool tru_cmp h)
theorem pt_isN {neg : Bool} {j : Nat} {pos' : Pos} (ha : PE X x (tI X.K ca Wx c a)) : PT X (.Compare x [if neg then .IsNot else .Is] [.Constant .none j pos'] pos) (tIt X.K ca Wx c (.isN neg a)) := by
  cases neg with
  | false => exact (pt_cmp (pc_isN ha)).weak fun σ H Q h => isN_w (tIt_bool tru_isN h)
  | true => exact (pt_cmp (pc_notN ha)).weak fun σ H Q h => isN_w (tIt_bool tru_isN h)
theorem pt_isBM {neg k : Bool} {j : Nat} {pos' : Pos} (ha : PE X x (tI X.K ca Wx c a)) : PT X (.Compare x [if neg then .IsNot else .Is] [.Constant (.bool k) j pos'] pos) (tIt X.K ca Wx c (.isB neg a k)) := by
  cases neg with
  | false => exact (pt_cmpR op_isBl ha pe_bl (nomark _)).weak fun σ H Q h => isB_w (tIt_bool tru_isB h)
  | true => exact (pt_cmpR op_notBl ha pe_bl (nomark _)).weak fun σ H Q h => isB_w (tIt_bool tru_isB h)
theorem pt_chainM {op op' : CmpOp} (hu : X.A.units + 100 < cLine) (h : okCmp op = true) (h' : okCmp op' = true) (ha : PE X x (tI X.K ca Wx c a)) (hb : PE X y (tI X.K ca Wx c b)) (hd : PE X z (tI X.K ca Wx c d)) (hm : lastMarks [op, op'] [y, z] = false) :
    PT X (.Compare x [op, op'] [y, z] pos) (tIt X.K ca Wx c (.chain op op' a b d)) := (pt_chain (opC hu h) (opC hu h') ha hb hd hm).weak fun σ H Q h => chain_w (tIt_bool tru_chain h)
/-! ### displays, subscripts -/
variable {xs : List Expr} {es : List ME}
theorem pm_tup {k : Nat} (h : PA X xs (tIs X.K ca Wx c es)) : PE X (.Tuple xs k pos) (tI X.K ca Wx c (.tup es)) :=
  (pe_tup h).weak fun σ H Q ⟨e, F, own, R, P⟩ => rd_list (r := fun us H1 => us.length ≤ sizeLine ∧ ∀ p, H1 p = none → Q (.ref p) (upd H1 p (.tup us))) Ext.refl R P fun vs e2 us H2 F2 own2 fp R2 V2 N2 E2 E P => by
    cases h1 : takes e2 vs with
    | none => rw [h1] at P; exact P.elim
    | some q =>
      obtain ⟨ds, e3⟩ := q
      rw [h1] at P
      dsimp only at P
      split at P
      · rename_i hl
        obtain ⟨F3, own3, R3, D3, E3⟩ := V2.takes R2 h1
        exact ⟨by rw [D3.len]; exact hl, QV.newt P R3 ((E.addT N2).trans E3) D3⟩
      · exact P.elim
theorem pm_lst (h : PA X xs (tIs X.K ca Wx c es)) : PE X (.List xs pos) (tI X.K ca Wx c (.lst es)) :=
  (pe_lst h).weak fun σ H Q ⟨e, F, own, R, P⟩ => rd_list (r := fun us H1 => us.length ≤ sizeLine ∧ ∀ p, H1 p = none → Q (.ref p) (upd H1 p (.lst us))) Ext.refl R P fun vs e2 us H2 F2 own2 fp R2 V2 N2 E2 E P => by
    cases h1 : takes e2 vs with
    | none => rw [h1] at P; exact P.elim
    | some q =>
      obtain ⟨ds, e3⟩ := q
      rw [h1] at P
      dsimp only at P
      split at P
      · rename_i hl
        obtain ⟨F3, own3, R3, D3, E3⟩ := V2.takes R2 h1
        exact ⟨by rw [D3.len]; exact hl, QV.newl P R3 ((E.addT N2).trans E3) D3⟩
      · exact P.elim
theorem pm_dic0 : PE X (.Dict [] [] pos) (tI X.K ca Wx c (.dic [])) :=
  pe_dnewK.weak fun σ H Q ⟨e, F, own, R, P⟩ p hp => QV.newd (show QV X.K ca σ H F (Ow own) Q (.od []) e from P) R Ext.refl hp .nil
/-- a subscript by data -/
abbrev rX (K : PySem.W.Frag) : R2 := fun u1 u2 H Q => ∃ F x y z, SeeF K H F u1 x ∧ SeeF K H F u2 y ∧ idxD x y = some z ∧ ∀ u, Den K H F u z → Q u H
theorem Dens.atI {K : PySem.W.Frag} {H : Hp} {F : Fs} {us : List V} {ds : List D} {i : Int} {z : D} (h : Dens K H F us ds) (e : L2.atI ds i = some z) : ∃ u, L2.atI us i = some u ∧ Den K H F u z := by
  unfold L2.atI at e ⊢
  rw [h.len]
  cases q : ixN ds.length i with
  | none => rw [q] at e; cases e
  | some j =>
    rw [q] at e
    obtain ⟨u, hu, d⟩ := h.get (i := j) (x := z) e
    exact ⟨u, hu, d⟩
theorem ixD (hu : X.A.units + 100 < cLine) : IxR X (rX X.K) := by
  intro value slice pins s σ H x y v u Q I rx ry ⟨F, a, b, z, ha, hb, e, q⟩ hs
  cases a with
  | list ds =>
    cases b with
    | int i =>
      obtain ⟨p, us, rfl, hp, d⟩ := ha.list
      obtain rfl := hb.int
      obtain ⟨w, hw, dw⟩ := d.atI e
      exact ix_list value slice pins s σ H _ _ v u Q I rx ry ⟨p, us, i, w, rfl, rfl, .inl hp, hw, q w dw⟩ hs
    | _ => cases e
  | tuple ds =>
    cases b with
    | int i =>
      obtain ⟨p, us, rfl, hp, d⟩ := ha.tuple
      obtain rfl := hb.int
      obtain ⟨w, hw, dw⟩ := d.atI e
      exact ix_tup value slice pins s σ H _ _ v u Q I rx ry ⟨p, us, i, w, rfl, rfl, hp, hw, q w dw⟩ hs
    | _ => cases e
  | str t =>
    cases b with
    | int i =>
      have e : (if t.length ≤ lineN then (L2.atI t.cps.toList i).map (fun c => PyData.str ⟨#[c]⟩) else none) = some z := e
      split at e
      · rename_i hl
        obtain ⟨n, hn, rfl⟩ := Option.map_eq_some_iff.mp e
        obtain rfl := ha.str
        obtain rfl := hb.int
        exact ix_str value slice pins s σ H _ _ v u Q I rx ry ⟨t, i, n, rfl, rfl, hl, hn, q _ (.str _)⟩ hs
      · cases e
    | _ => cases e
  | dict kvs =>
    have e : (match dKey b with
      | some k => getK kvs k
      | none => none) = some z := e
    cases h : dKey b with
    | none => rw [h] at e; cases e
    | some k =>
      rw [h] at e
      obtain ⟨p, us, rfl, hp, d⟩ := ha.dict
      obtain rfl := kV_of hb h
      obtain ⟨w, hw, dw⟩ := (d.find k).1 z e
      cases rx
      have g : DGet H p (kV k) (some w) := .inl ⟨us, k, hp, rfl, hw.symm⟩
      exact tail_any (dict_typeIs I g) PySem.F.slot_dict_getitem.lookup (d_getItem (by omega) I g ry fun w' s' I' r' => ⟨w, H, I', r', q w dw⟩) hs
  | _ => cases b <;> cases e
theorem pm_idx (hu : X.A.units + 100 < cLine) (ha : PE X x (tI X.K ca Wx c a)) (hb : PE X y (tI X.K ca Wx c b)) (hs : PlainIx y) : PE X (.Subscript x y pos) (tI X.K ca Wx c (.idx a b)) :=
  (pe_ix (ixD hu) ha hb hs).weak fun σ H Q ⟨e, F, own, R, P⟩ => rd_two (r := fun x y H2 => rX X.K x y H2 Q) R P fun va vb e2 u1 u2 H2 F2 own2 fp1 fp2 R2 V1 V2 d N1 N2 E P => by
    cases h1 : see e2 va with
    | none => rw [h1] at P; exact P.elim
    | some p =>
      cases h2 : see e2 vb with
      | none => rw [h1, h2] at P; exact P.elim
      | some q =>
        rw [h1, h2] at P
        obtain ⟨v, hv, P⟩ := PR.opt P
        obtain ⟨z, hz, rfl⟩ := Option.map_eq_some_iff.mp hv
        exact ⟨F2, p, q, z, V1.seeF R2 h1, V2.seeF R2 h2, hz, fun u du => QV.scal P R2 E du⟩
/-- an optional part of a slice -/
def tIo (K : PySem.W.Frag) (ca : Str → Option Addr) (Wx : Wish) (c : Ctx) (m : Option ME) : TO := fun σ H Q => ∃ e F own, Rel K ca σ H e F own ∧
  PR (evo c m e) (fun o e' => ∀ H' F' own', Rel K ca σ H' e' F' own' → Ext H F (Ow own) H' F' (Ow own') → Q o H') (QX K ca Wx σ H F (Ow own))
theorem po_weak {x : Option Expr} {t t' : TO} (h : PO X x t) (w : ∀ σ H Q, t' σ H Q → t σ H Q) : PO X x t' := ⟨fun pins s σ H Q I q => h.run pins s σ H Q I (w σ H Q q)⟩
theorem pm_onone : PO X none (tIo X.K ca Wx c none) := po_weak po_none fun σ H Q ⟨e, F, own, R, P⟩ => P H F own R Ext.refl
theorem pm_osome (ha : PE X x (tI X.K ca Wx c a)) : PO X (some x) (tIo X.K ca Wx c (some a)) := po_weak (po_some ha) fun σ H Q ⟨e, F, own, R, P⟩ =>
  ⟨e, F, own, R, (PR.bind P).mono (fun v e' P u H' F' own' fp R' V' N' E' => by
    cases v with
    | d q =>
      cases q with
      | int i =>
        obtain rfl := (V'.seeF R' (x := .int i) rfl).int
        exact ⟨i, rfl, P H' F' own' R' E'⟩
      | _ => exact P.elim
    | _ => exact P.elim) fun _ _ q => q⟩
abbrev rS (K : PySem.W.Frag) : V → Option Int → Option Int → Hp → VK → Prop := fun u lo hi H Q => ∃ F x v, SeeF K H F u x ∧ sliD x lo hi = some v ∧ ∀ u H', Made K H F v u H' → Q u H'
theorem cut_eq {us : List V} (lo hi : Option Int) : cutV us lo hi = cut us lo hi := rfl
theorem Dens.cut {K : PySem.W.Frag} {H : Hp} {F : Fs} {us : List V} {ds : List D} (h : Dens K H F us ds) (lo hi : Option Int) : Dens K H F (PM.cut us lo hi) (PM.cut ds lo hi) := by
  unfold PM.cut
  rw [h.len]
  exact (h.drop _).take _
theorem slD : SlR X (rS X.K) := by
  intro pins s σ H x v vl vu lo hi sl Q I rx hs pl pu ⟨F, a, w, ha, e, q⟩
  cases a with
  | list ds =>
    cases e
    obtain ⟨p, us, rfl, hp, d⟩ := ha.list
    exact sl_list pins s σ H _ v vl vu lo hi sl Q I rx hs pl pu ⟨p, us, rfl, .inl hp, fun p hp => q _ _ (.lst hp (d.cut lo hi))⟩
  | tuple ds =>
    cases e
    obtain ⟨p, us, rfl, hp, d⟩ := ha.tuple
    refine sl_tupA pins s σ H _ v vl vu lo hi sl Q I rx hs pl pu ⟨p, us, rfl, hp, fun h => ?_, fun h p hp => q _ _ (.tup hp (d.cut lo hi))⟩
    have e1 : PM.cut ds lo hi = ds := by
      unfold PM.cut
      rw [← d.len, h.1, h.2]
      simp [d.len]
    rw [e1] at q
    exact q _ _ (.here (.tup hp d))
  | str z =>
    have e : (if z.length ≤ lineN then some (Val.d (.str ⟨(PM.cut z.cps.toList lo hi).toArray⟩)) else none) = some w := e
    split at e
    · rename_i hl
      cases e
      obtain rfl := ha.str
      refine sl_str pins s σ H _ v vl vu lo hi sl Q I rx hs pl pu ⟨z, rfl, hl, ?_⟩
      have e1 : cutS z lo hi = ⟨(PM.cut z.cps.toList lo hi).toArray⟩ := by
        unfold cutS PM.cut
        have : z.cps.toList.length = z.length := by simp [Str.length]
        rw [this]
      rw [e1]
      exact q _ _ (.here (.str _))
    · cases e
  | _ => cases e
theorem pm_sli {lo hi : Option Expr} {l h : Option ME} {p2 : Pos} (ha : PE X x (tI X.K ca Wx c a)) (hl : PO X lo (tIo X.K ca Wx c l)) (hh : PO X hi (tIo X.K ca Wx c h)) : PE X (.Subscript x (.Slice lo hi none p2) pos) (tI X.K ca Wx c (.sli a l h)) :=
  (pe_slice slD ha hl hh).weak fun σ H Q ⟨e, F, own, R, P⟩ => rd_one (r := fun u H1 => tIo X.K ca Wx c l σ H1 fun o H2 => tIo X.K ca Wx c h σ H2 fun o' H3 => rS X.K u o o' H3 Q) R P fun va e1 u H1 F1 own1 fp R1 V1 N1 E1 P => by
    refine ⟨e1, F1, own1, R1, (PR.bind P).mono (fun o e2 P H2 F2 own2 R2 E2 => ?_) fun _ _ q => q.shift E1⟩
    refine ⟨e2, F2, own2, R2, (PR.bind P).mono (fun o' e3 P H3 F3 own3 R3 E3 => ?_) fun _ _ q => q.shift (E1.trans E2)⟩
    cases h1 : see e3 va with
    | none => rw [h1] at P; exact P.elim
    | some p =>
      rw [h1] at P
      obtain ⟨v, hv, P⟩ := PR.opt P
      exact ⟨F3, p, v, (V1.ext (E2.trans E3) R1.wok).seeF R3 h1, hv, QV.made P R3 ((E1.trans E2).trans E3)⟩
end
end PM
end

section
set_option Elab.async false
set_option linter.all false
set_option maxRecDepth 100000
set_option maxHeartbeats 2000000
/-! PMCall: calls of the program's own defs. -/
namespace PM
open PySem PySem.Spec PyProof.Rows L2
section
variable {K : PySem.W.Frag} {ca : Str → Option Addr} {σ : L2.St} {e : Env} {H H' : Hp} {F F' W W' : Fs} {own : Nat → List Addr}
theorem VRs.len {us : List V} {vs : List Val} {fp : List Addr} (h : VRs K ca H F us vs fp) : us.length = vs.length := by
  induction us generalizing vs fp with
  | nil => cases h; rfl
  | cons u us ih => cases h with | cons h r => rw [List.length_cons, List.length_cons, ih r]
theorem RVs.lend : ∀ {vs : List Val} {us : List V} {fp : List Addr} {as : List Val}, Rel K ca σ H e F own → RVs K ca σ H F (Ow own) us vs fp → fp.Nodup → (pks vs).Nodup → lend e vs = some as →
    ∃ ap, VRs K ca H F us as ap ∧ ap.Nodup ∧ (∀ a ∈ ap, ¬ F a ∧ (a ∈ fp ∨ ∃ i ∈ pks vs, a ∈ own i)) ∧ ∀ i ∈ pks vs, ∃ u, σ[i]? = some (some u)
  | [], us, fp, as, R, h, _, _, e => by
    cases h
    cases e
    exact ⟨[], .nil, .nil, fun a m => (by cases m), fun a m => (by cases m)⟩
  | v :: vs, us, fp, as, R, h, nd, np, el => by
    cases h with
    | @cons u us v vs fp gp h r d =>
      obtain ⟨nd1, nd2, nd3⟩ := List.nodup_append.mp nd
      cases h with
      | @pk i u hs =>
        have el : (getS e i).bind (fun v => (PM.lend e vs).map (v :: ·)) = some as := el
        have np : (i :: pks vs).Nodup := np
        obtain ⟨np1, np2⟩ := List.nodup_cons.mp np
        cases h1 : getS e i with
        | none => rw [h1] at el; cases el
        | some w =>
          cases h2 : PM.lend e vs with
          | none => rw [h1, h2] at el; cases el
          | some bs =>
            rw [h1, h2] at el
            cases el
            obtain ⟨u', hs', rw'⟩ := R.slot i w h1
            rw [hs] at hs'
            cases hs'
            obtain ⟨ap, q1, q2, q3, q4⟩ := RVs.lend R r (by simpa using nd) np2 h2
            refine ⟨own i ++ ap, .cons rw' q1, List.nodup_append.mpr ⟨R.nd i, q2, fun a m b m' => ?_⟩, fun a m => ?_, fun j m => ?_⟩
            · rintro rfl
              rcases (q3 a m').2 with z | ⟨j, mj, z⟩
              · exact (RVs.mb r a z).2 ⟨i, m⟩
              · exact np1 (R.dj i j a m z ▸ mj)
            · rcases List.mem_append.mp m with m | m
              · exact ⟨R.nf i a m, .inr ⟨i, List.mem_cons_self, m⟩⟩
              · exact ⟨(q3 a m).1, (q3 a m).2.imp (fun z => by simpa using z) fun ⟨j, mj, z⟩ => ⟨j, List.mem_cons_of_mem _ mj, z⟩⟩
            · rcases List.mem_cons.mp m with rfl | m
              · exact ⟨u, hs⟩
              · exact q4 j m
      | val rv n f =>
        have el' : (PM.lend e vs).map (v :: ·) = some as ∧ pks (v :: vs) = pks vs := by cases rv <;> exact ⟨el, rfl⟩
        obtain ⟨el, ep⟩ := el'
        rw [ep] at np ⊢
        cases h2 : PM.lend e vs with
        | none => rw [h2] at el; cases el
        | some bs =>
          rw [h2] at el
          cases el
          obtain ⟨ap, q1, q2, q3, q4⟩ := RVs.lend R r nd2 np h2
          refine ⟨fp ++ ap, .cons rv q1, List.nodup_append.mpr ⟨n, q2, fun a m b m' => ?_⟩, fun a m => ?_, q4⟩
          · rintro rfl
            rcases (q3 a m').2 with z | ⟨j, mj, z⟩
            · exact d a m z
            · exact (f a m).2 ⟨j, z⟩
          · rcases List.mem_append.mp m with m | m
            · exact ⟨(f a m).1, .inl (List.mem_append_left _ m)⟩
            · exact ⟨(q3 a m).1, (q3 a m).2.imp (List.mem_append_right _) id⟩
theorem RVs.nodup {us : List V} {vs : List Val} {fp : List Addr} (h : RVs K ca σ H F W us vs fp) : fp.Nodup := by
  induction h with
  | nil => exact .nil
  | cons h r d ih =>
    refine List.nodup_append.mpr ⟨?_, ih, fun a m b m' => by rintro rfl; exact d a m m'⟩
    cases h with
    | pk _ => exact .nil
    | val _ n _ => exact n
/-- a slot forgotten, σ as it is -/
theorem Rel.drop {i : Nat} (R : Rel K ca σ H e F own) : Rel K ca σ H (e.set i none) F (fun j => if j = i then [] else own j) := by
  have q := R.unset (i := i) (o := (σ[i]?).join)
  have es : σ.set i (σ[i]?).join = σ := by
    cases h : σ[i]? with
    | none => exact List.set_eq_of_length_le (List.getElem?_eq_none_iff.mp h)
    | some o => exact σset_self h
  rw [es] at q
  exact q
def dropE (e : Env) : List Nat → Env
  | [] => e
  | i :: r => dropE (e.set i none) r
theorem Rel.drops : ∀ {is : List Nat} {e : Env} {own : Nat → List Addr}, Rel K ca σ H e F own → Rel K ca σ H (dropE e is) F (fun j => if j ∈ is then [] else own j)
  | [], e, own, R => by simpa [dropE] using R
  | i :: r, e, own, R => by
    have q := Rel.drops (is := r) (R.drop (i := i))
    have eo : (fun j => if j ∈ r then [] else if j = i then [] else own j) = fun j => if j ∈ i :: r then ([] : List Addr) else own j := by
      funext j
      by_cases h1 : j ∈ r
      · simp [h1]
      · by_cases h2 : j = i
        · simp [h2]
        · simp [h1, h2]
    rw [eo] at q
    exact q
theorem getS_dropE {is : List Nat} : ∀ {e : Env} {j : Nat}, getS (dropE e is) j = if j ∈ is then none else getS e j := by
  induction is with
  | nil => intro e j; simp [dropE]
  | cons i r ih =>
    intro e j
    rw [dropE, ih, getS_set]
    by_cases h1 : j ∈ r
    · simp [h1]
    · by_cases h2 : i = j
      · subst h2
        by_cases h3 : i < e.length
        · simp [h3]
        · simp only [h1, if_false, List.mem_cons, true_or, if_true, h3, and_false]
          unfold getS
          rw [List.getElem?_eq_none (Nat.le_of_not_lt h3)]
          rfl
      · simp [h1, h2, Ne.symm h2]
theorem back_set {i : Nat} (vs : List Val) : ∀ {as : List Val} {e : Env}, vs.length = as.length → i ∈ pks vs → back (e.set i none) vs as = back e vs as := by
  induction vs with
  | nil => intro as e l m; cases m
  | cons v vs ih =>
    intro as e l m
    cases as with
    | nil => cases l
    | cons a as =>
      have l2 : vs.length = as.length := Nat.succ.inj l
      cases v with
      | pk j =>
        show back ((e.set i none).set j (some a)) vs as = back (e.set j (some a)) vs as
        by_cases h : i = j
        · subst h
          rw [List.set_set]
        · rw [List.set_comm _ _ h]
          have m : i ∈ j :: pks vs := m
          exact ih l2 ((List.mem_cons.mp m).resolve_left h)
      | d _ => exact ih l2 m
      | ol _ => exact ih l2 m
      | od _ => exact ih l2 m
      | ex _ _ => exact ih l2 m
theorem back_dropE {vs as : List Val} (l : vs.length = as.length) : ∀ {is : List Nat} {e : Env}, (∀ i ∈ is, i ∈ pks vs) → back (dropE e is) vs as = back e vs as
  | [], _, _ => rfl
  | i :: r, e, h => by
    rw [dropE, back_dropE l fun j m => h j (List.mem_cons_of_mem _ m)]
    exact back_set vs l (h i List.mem_cons_self)
/-- the slots that were lent take back -/
theorem Rel.back : ∀ {vs as : List Val} {us : List V} {gp fp : List Addr} {e : Env} {own : Nat → List Addr}, Rel K ca σ H e F own → RVs K ca σ H' F' W us vs fp → VRs K ca H F us as gp → gp.Nodup → (∀ a ∈ gp, ¬ F a ∧ ¬ Ow own a) → (pks vs).Nodup →
    ∃ own', Rel K ca σ H (PM.back e vs as) F own' ∧ ∀ a, Ow own' a → Ow own a ∨ a ∈ gp
  | [], as, us, gp, fp, e, own, R, h, g, _, _, _ => by
    cases h
    cases g
    exact ⟨own, R, fun a z => .inl z⟩
  | v :: vs, as, us, gp, fp, e, own, R, h, g, nd, hg, np => by
    cases h with
    | @cons u us v vs fp1 fp2 h r d =>
      cases g with
      | @cons u us w ws g1 g2 g gr =>
        obtain ⟨nd1, nd2, nd3⟩ := List.nodup_append.mp nd
        cases h with
        | @pk i u hs =>
          obtain ⟨np1, np2⟩ := List.nodup_cons.mp (show (i :: pks vs).Nodup from np)
          have R1 := R.put (i := i) (u := u) (v := w) (fp := g1) (W := fun a => a ∈ g1) (W' := fun _ => False) (F' := F) (H' := H) (List.getElem?_eq_some_iff.mp hs).1 (Ext.same fun a z => z.elim) (fun a m => ⟨(hg a (List.mem_append_left _ m)).1, g.mb a m⟩) (fun j a _ m z => (hg a (List.mem_append_left _ z)).2 ⟨j, m⟩) g nd1
            (fun a m => ⟨(hg a (List.mem_append_left _ m)).1, .inl m⟩) R.al
          rw [σset_self hs] at R1
          obtain ⟨own', R2, o2⟩ := Rel.back R1 r gr nd2 (fun a m => ⟨(hg a (List.mem_append_right _ m)).1, fun ⟨j, z⟩ => by
            have z : a ∈ (if j = i then g1 else own j) := z
            by_cases q : j = i
            · rw [if_pos q] at z; exact nd3 a z a m rfl
            · rw [if_neg q] at z; exact (hg a (List.mem_append_right _ m)).2 ⟨j, z⟩⟩) np2
          refine ⟨own', R2, fun a z => ?_⟩
          rcases o2 a z with ⟨j, z⟩ | z
          · have z : a ∈ (if j = i then g1 else own j) := z
            by_cases q : j = i
            · rw [if_pos q] at z; exact .inr (List.mem_append_left _ z)
            · rw [if_neg q] at z; exact .inl ⟨j, z⟩
          · exact .inr (List.mem_append_right _ z)
        | val rv n f =>
          have eq : PM.back e (v :: vs) (w :: ws) = PM.back e vs ws ∧ pks (v :: vs) = pks vs := by cases rv <;> exact ⟨rfl, rfl⟩
          rw [eq.1]
          rw [eq.2] at np
          obtain ⟨own', R2, o2⟩ := Rel.back R r gr nd2 (fun a m => hg a (List.mem_append_right _ m)) np
          exact ⟨own', R2, fun a z => (o2 a z).imp id (List.mem_append_right _)⟩

/-- what a def promises: what the machine says -/
def spF (K : PySem.W.Frag) (ca : Str → Option Addr) (np : Nat) (run : List Val → CRes) : Sp := fun us H Q E => us.length = np ∧ ∃ vs F fp, VRs K ca H F us vs fp ∧ fp.Nodup ∧ (∀ a ∈ fp, ¬ F a) ∧ (∀ a, F a → H a ≠ none) ∧
  match run vs with
  | .ok r vs' => ∀ v H' F' gp fp', VR K ca H' F' v r gp → VRs K ca H' F' us vs' fp' → (gp ++ fp').Nodup → (∀ a ∈ gp ++ fp', ¬ F' a ∧ (a ∈ fp ∨ H a = none)) → Ext H F (fun a => a ∈ fp) H' F' (fun a => a ∈ fp') → (∀ a, F' a → H' a ≠ none) → Q v H'
  | .ex x vs' => ∀ cls d H' F' fp', ExR K ca H' F' x cls d → VRs K ca H' F' us vs' fp' → fp'.Nodup → (∀ a ∈ fp', ¬ F' a ∧ (a ∈ fp ∨ H a = none)) → Ext H F (fun a => a ∈ fp) H' F' (fun a => a ∈ fp') → (∀ a, F' a → H' a ≠ none) → E cls d H'
  | .no => False
/-- behind a call: the slots, and what the heap came to -/
theorem call_back {vs as vs' : List Val} {us : List V} {fp ap fp' : List Addr} (R : Rel K ca σ H e F own) (V2 : RVs K ca σ H F (Ow own) us vs fp) (np : (pks vs).Nodup) (A : VRs K ca H F us as ap) (hap : ∀ a ∈ ap, ¬ F a ∧ (a ∈ fp ∨ ∃ i ∈ pks vs, a ∈ own i))
    (B : VRs K ca H' F' us vs' fp') (nd : fp'.Nodup) (hb : ∀ a ∈ fp', ¬ F' a ∧ (a ∈ ap ∨ H a = none)) (E : Ext H F (fun a => a ∈ ap) H' F' (fun a => a ∈ fp')) (al : ∀ a, F' a → H' a ≠ none) :
    ∃ own', Rel K ca σ H' (back e vs vs') F' own' ∧ Ext H F (fun a => Ow own a ∨ a ∈ fp) H' F' (Ow own') ∧ ∀ a, Ow own' a → a ∈ fp' ∨ (Ow own a ∧ a ∉ ap) := by
  have wap : Wok H F (fun a => a ∈ ap) := fun a m => ⟨(hap a m).1, A.mb a m⟩
  have dj : ∀ j a, a ∈ (if j ∈ pks vs then [] else own j) → a ∉ ap := fun j a m z => by
    by_cases q : j ∈ pks vs
    · rw [if_pos q] at m; cases m
    · rw [if_neg q] at m
      rcases (hap a z).2 with z | ⟨i, mi, z⟩
      · exact (RVs.mb V2 a z).2 ⟨j, m⟩
      · exact q (R.dj j i a m z ▸ mi)
  have R1 : Rel K ca σ H' (dropE e (pks vs)) F' (fun j => if j ∈ pks vs then [] else own j) := (R.drops (is := pks vs)).ext E wap dj al
  have l : vs.length = vs'.length := by
    have h1 := B.len
    have h2 : us.length = vs.length := by
      clear R1 dj
      induction V2 generalizing as vs' ap fp' with
      | nil => rfl
      | cons h r d ih =>
        rw [List.length_cons, List.length_cons]
        have : ∀ {us : List V} {vs : List Val} {fp : List Addr}, RVs K ca σ H F (Ow own) us vs fp → us.length = vs.length := fun {us vs fp} h => by
          induction h with
          | nil => rfl
          | cons _ _ _ ih => rw [List.length_cons, List.length_cons, ih]
        rw [this r]
    omega
  obtain ⟨own', R2, o2⟩ := Rel.back R1 V2 B nd (fun a m => ⟨(hb a m).1, fun ⟨j, z⟩ => by
    rcases (hb a m).2 with q | q
    · exact dj j a z q
    · by_cases q' : j ∈ pks vs
      · have z : a ∈ (if j ∈ pks vs then [] else own j) := z
        rw [if_pos q'] at z; cases z
      · have z : a ∈ (if j ∈ pks vs then [] else own j) := z
        rw [if_neg q'] at z
        exact (R.wok a ⟨j, z⟩).2.some q⟩) np
  rw [back_dropE l fun i m => m] at R2
  have o3 : ∀ a, Ow own' a → a ∈ fp' ∨ (Ow own a ∧ a ∉ ap) := fun a z => by
    rcases o2 a z with ⟨j, z⟩ | z
    · have nm := dj j a z
      by_cases q : j ∈ pks vs
      · have z : a ∈ (if j ∈ pks vs then [] else own j) := z
        rw [if_pos q] at z; cases z
      · have z : a ∈ (if j ∈ pks vs then [] else own j) := z
        rw [if_neg q] at z
        exact .inr ⟨⟨j, z⟩, nm⟩
    · exact .inl z
  refine ⟨own', R2, E.widen (fun a m => ?_) (fun a z => ?_), o3⟩
  · exact (hap a m).2.elim .inr fun ⟨i, _, z⟩ => .inl ⟨i, z⟩
  · rcases o3 a z with z | z
    · rcases (hb a z).2 with m | m
      · exact .inl ((hap a m).2.elim .inr fun ⟨i, _, z⟩ => .inl ⟨i, z⟩)
      · exact .inr m
    · exact .inl (.inl z.1)
end
section
variable {X : Cx} {ca : Str → Option Addr} {Wx : Wish} {c : Ctx}
/-- the reading of a call's end -/
theorem rd_call {np : Nat} {f : Nat} {es : List ME} {σ : L2.St} {H : Hp} {Q : VK} (harity : ∀ as, (∀ r a, c.call f as ≠ .ok r a) ∧ (∀ r a, c.call f as ≠ .ex r a) ∨ as.length = np)
    (h : tI X.K ca Wx c (.call f es) σ H Q) : tIs X.K ca Wx c es σ H fun us H1 => spF X.K ca np (c.call f) us H1 Q (fun cls d H' => Wx cls d σ H') := by
  obtain ⟨e, F, own, R, P⟩ := h
  refine rd_list (r := fun us H1 => spF X.K ca np (c.call f) us H1 Q (fun cls d H' => Wx cls d σ H')) Ext.refl R P fun vs e2 us H2 F2 own2 fp R2 V2 N2 E2 E P => ?_
  have P : PR (if (pks vs).Nodup then match lend e2 vs with
    | some as => match c.call f as with
      | .ok v as' => .ok v (back e2 vs as')
      | .ex x as' => .ex x (back e2 vs as')
      | .no => .no
    | none => .no
    else .no : Res Val) (QV X.K ca σ H F (Ow own) Q) (QX X.K ca Wx σ H F (Ow own)) := P
  split at P
  · rename_i np'
    cases h1 : lend e2 vs with
    | none => rw [h1] at P; exact P.elim
    | some as =>
      rw [h1] at P
      dsimp only at P
      obtain ⟨ap, A, nd, hap, hsl⟩ := RVs.lend R2 V2 V2.nodup np' h1
      have new : ∀ a, (a ∈ ap ∨ H2 a = none) → Ow own a ∨ H a = none := fun a z => by
        rcases z with z | z
        · rcases (hap a z).2 with z | ⟨i, _, z⟩
          · exact N2 a z
          · exact E.own a ⟨i, z⟩
        · exact .inr (E.live a z)
      have len : ∀ r a, (c.call f as = .ok r a) → as.length = np := fun r a h => (harity as).elim (fun z => (z.1 r a h).elim) id
      have len' : ∀ r a, (c.call f as = .ex r a) → as.length = np := fun r a h => (harity as).elim (fun z => (z.2 r a h).elim) id
      cases h2 : c.call f as with
      | no => rw [h2] at P; exact P.elim
      | ok r as' =>
        rw [h2] at P
        refine ⟨by rw [A.len]; exact len r as' h2, as, F2, ap, A, nd, fun a m => (hap a m).1, R2.al, ?_⟩
        rw [h2]
        intro v H' F' gp fp' vr B nd' hb' E' al'
        obtain ⟨nd1, nd2, nd3⟩ := List.nodup_append.mp nd'
        obtain ⟨own', R3, E3, o3⟩ := call_back R2 V2 np' A hap B nd2 (fun a m => hb' a (List.mem_append_right _ m)) E' al'
        refine (show QV X.K ca σ H F (Ow own) Q r (back e2 vs as') from P) v H' F' own' gp R3 (.val vr nd1 fun a m => ⟨(hb' a (List.mem_append_left _ m)).1, fun w => ?_⟩) (fun a m => new a (hb' a (List.mem_append_left _ m)).2) ((E.addT N2).trans E3)
        rcases o3 a w with z | ⟨z1, z2⟩
        · exact nd3 a m a z rfl
        · rcases (hb' a (List.mem_append_left _ m)).2 with q | q
          · exact z2 q
          · exact (R2.wok a z1).2.some q
      | ex x as' =>
        rw [h2] at P
        refine ⟨by rw [A.len]; exact len' x as' h2, as, F2, ap, A, nd, fun a m => (hap a m).1, R2.al, ?_⟩
        rw [h2]
        intro cls d H' F' fp' xr B nd' hb' E' al'
        obtain ⟨own', R3, E3, o3⟩ := call_back R2 V2 np' A hap B nd' hb' E' al'
        exact (show QX X.K ca Wx σ H F (Ow own) x (back e2 vs as') from P) cls d H' F' own' R3 xr ((E.addT N2).trans E3)
  · exact P.elim
end
end PM
end

section
set_option Elab.async false
set_option linter.all false
set_option maxRecDepth 100000
set_option maxHeartbeats 2000000
/-! PMStmt: the machine's statements over HandS' judgements. -/
namespace PM
open PySem PySem.Spec PyProof.Rows L2
/-- what is lent stays where it stands -/
def Prz (c : Ctx) (σ σ' : L2.St) : Prop := ∀ i : Nat, c.pr[i]? = some true → σ'[i]? = σ[i]?
theorem Prz.refl {c : Ctx} {σ : L2.St} : Prz c σ σ := fun _ _ => rfl
theorem Prz.trans {c : Ctx} {σ σ1 σ2 : L2.St} (a : Prz c σ σ1) (b : Prz c σ1 σ2) : Prz c σ σ2 := fun i h => (b i h).trans (a i h)
theorem Prz.set {c : Ctx} {σ : L2.St} {i : Nat} {u : Option V} (h : c.pr[i]? ≠ some true) : Prz c σ (σ.set i u) := fun j hj => by
  rw [List.getElem?_set_ne]
  rintro rfl
  exact h hj
section
variable {K : PySem.W.Frag} {ca : Str → Option Addr} {Wx : Wish} {c : Ctx} {σ σ1 : L2.St} {e e' : Env} {H H' H1 H2 : Hp} {F F' F1 F2 W W' W1 : Fs} {own own1 own2 : Nat → List Addr} {D : Ends}
def QXs (K : PySem.W.Frag) (ca : Str → Option Addr) (Wx : Wish) (c : Ctx) (σ : L2.St) (H : Hp) (F W : Fs) : Ex → Env → Prop := fun x e => ∀ cls d σ' H' F' own, Prz c σ σ' → Rel K ca σ' H' e F' own → ExR K ca H' F' x cls d → Ext H F W H' F' (Ow own) → Wx cls d σ' H'
def FlowR (K : PySem.W.Frag) (ca : Str → Option Addr) (D : Ends) (H : Hp) (W : Fs) (σ' : L2.St) (H' : Hp) (F' : Fs) (own : Nat → List Addr) : PM.Flow → Prop
  | .nx => D.nx σ' H'
  | .bk => D.bk σ' H'
  | .ct => D.ct σ' H'
  | .ret v => ∀ u fp, VR K ca H' F' u v fp → fp.Nodup → (∀ a ∈ fp, ¬ F' a ∧ ¬ Ow own a) → (∀ a ∈ fp, W a ∨ H a = none) → D.rt u H'
def QF (K : PySem.W.Frag) (ca : Str → Option Addr) (c : Ctx) (σ : L2.St) (H : Hp) (F W : Fs) (D : Ends) : PM.Flow → Env → Prop := fun fl e => ∀ σ' H' F' own, Prz c σ σ' → Rel K ca σ' H' e F' own → Ext H F W H' F' (Ow own) → FlowR K ca D H W σ' H' F' own fl
theorem QXs.shift {x : Ex} (p : Prz c σ σ1) (E : Ext H F W H1 F1 W1) (q : QXs K ca Wx c σ H F W x e) : QXs K ca Wx c σ1 H1 F1 W1 x e := fun cls d σ' H' F' own p' R r E' => q cls d σ' H' F' own (p.trans p') R r (E.trans E')
theorem QXs.toX {x : Ex} (q : QXs K ca Wx c σ H F W x e) : QX K ca Wx σ H F W x e := fun cls d H' F' own R r E => q cls d σ H' F' own .refl R r E
theorem FlowR.shift {fl : PM.Flow} (E : Ext H F W H1 F1 W1) {σ' : L2.St} (q : FlowR K ca D H W σ' H' F' own fl) : FlowR K ca D H1 W1 σ' H' F' own fl := by
  cases fl with
  | ret v => exact fun u fp r n f z => q u fp r n f (fp_shift E z)
  | _ => exact q
theorem QF.shift {fl : PM.Flow} (p : Prz c σ σ1) (E : Ext H F W H1 F1 W1) (q : QF K ca c σ H F W D fl e) : QF K ca c σ1 H1 F1 W1 D fl e := fun σ' H' F' own p' R E' => (q σ' H' F' own (p.trans p') R (E.trans E')).shift E
/-- the reading of a statement -/
def tS (K : PySem.W.Frag) (ca : Str → Option Addr) (Wx : Wish) (c : Ctx) (run : Env → Res PM.Flow) : TS := fun D σ H => ∃ e F own, Rel K ca σ H e F own ∧ PR (run e) (QF K ca c σ H F (Ow own) D) (QXs K ca Wx c σ H F (Ow own))
abbrev GoF (K : PySem.W.Frag) (ca : Str → Option Addr) (Wx : Wish) (c : Ctx) (σ : L2.St) (H : Hp) (F W : Fs) (D : Ends) (r : Res PM.Flow) : Prop := PR r (QF K ca c σ H F W D) (QXs K ca Wx c σ H F W)
theorem GoF.shift {r : Res PM.Flow} (p : Prz c σ σ1) (E : Ext H F W H1 F1 W1) (q : GoF K ca Wx c σ H F W D r) : GoF K ca Wx c σ1 H1 F1 W1 D r := PR.mono q (fun _ _ q => q.shift p E) fun _ _ q => q.shift p E
/-- an expression ahead, then the rest -/
theorem sd_one {a : ME} {f : Val → Env → Res PM.Flow} (R : Rel K ca σ H e F own) (h : GoF K ca Wx c σ H F (Ow own) D ((ev c a e).bind f)) {r : V → Hp → Prop}
    (fin : ∀ va e2 u H2 F2 own2 fp, Rel K ca σ H2 e2 F2 own2 → RV K ca σ H2 F2 (Ow own2) u va fp → (∀ a ∈ fp, Ow own a ∨ H a = none) → Ext H F (Ow own) H2 F2 (Ow own2) → GoF K ca Wx c σ H F (Ow own) D (f va e2) → r u H2) : tI K ca Wx c a σ H r :=
  ⟨e, F, own, R, h.bind.mono (fun va e2 P u H2 F2 own2 fp R2 V2 N2 E2 => fin va e2 u H2 F2 own2 fp R2 V2 N2 E2 P) fun _ _ q => q.toX⟩
theorem sd_list {es : List ME} {f : List Val → Env → Res PM.Flow} (R : Rel K ca σ H e F own) (h : GoF K ca Wx c σ H F (Ow own) D ((evs c es e).bind f)) {r : List V → Hp → Prop}
    (fin : ∀ va e2 u H2 F2 own2 fp, Rel K ca σ H2 e2 F2 own2 → RVs K ca σ H2 F2 (Ow own2) u va fp → (∀ a ∈ fp, Ow own a ∨ H a = none) → Ext H F (Ow own) H2 F2 (Ow own2) → GoF K ca Wx c σ H F (Ow own) D (f va e2) → r u H2) : tIs K ca Wx c es σ H r :=
  ⟨e, F, own, R, h.bind.mono (fun va e2 P u H2 F2 own2 fp R2 V2 N2 E2 => fin va e2 u H2 F2 own2 fp R2 V2 N2 E2 P) fun _ _ q => q.toX⟩
/-- a second expression -/
theorem sd_next {a : ME} {f : Val → Env → Res PM.Flow} {e1 : Env} (E1 : Ext H F W H1 F1 (Ow own1)) (R : Rel K ca σ H1 e1 F1 own1) (h : GoF K ca Wx c σ H F W D ((ev c a e1).bind f)) {r : V → Hp → Prop}
    (fin : ∀ va e2 u H2 F2 own2 fp, Rel K ca σ H2 e2 F2 own2 → RV K ca σ H2 F2 (Ow own2) u va fp → (∀ a ∈ fp, Ow own1 a ∨ H1 a = none) → Ext H1 F1 (Ow own1) H2 F2 (Ow own2) → GoF K ca Wx c σ H F W D (f va e2) → r u H2) : tI K ca Wx c a σ H1 r :=
  ⟨e1, F1, own1, R, h.bind.mono (fun va e2 P u H2 F2 own2 fp R2 V2 N2 E2 => fin va e2 u H2 F2 own2 fp R2 V2 N2 E2 P) fun _ _ q => (q.toX).shift E1⟩
end
section
variable {X : Cx} {ca : Str → Option Addr} {Wx : Wish} {c : Ctx} {x y z : Expr} {a b d : ME} {pos : Pos} {st : Stmt} {sts : List Stmt} {m : MS} {ms : List MS}
abbrev tM (K : PySem.W.Frag) (ca : Str → Option Addr) (Wx : Wish) (c : Ctx) (m : MS) : TS := tS K ca Wx c (ex c m)
abbrev tMs (K : PySem.W.Frag) (ca : Str → Option Addr) (Wx : Wish) (c : Ctx) (m : List MS) : TS := tS K ca Wx c (exs c m)
theorem ss_nil : PSs X [] (tMs X.K ca Wx c []) := pss_nil.weak fun D σ H ⟨e, F, own, R, P⟩ => P σ H F own .refl R .refl
theorem ss_cons (h1 : PS X st (tM X.K ca Wx c m)) (h2 : PSs X sts (tMs X.K ca Wx c ms)) : PSs X (st :: sts) (tMs X.K ca Wx c (m :: ms)) :=
  (pss_cons h1 h2).weak fun D σ H ⟨e, F, own, R, P⟩ => by
    refine ⟨e, F, own, R, (PR.bind P).mono (fun fl e1 P => ?_) fun _ _ q => q⟩
    cases fl with
    | nx => exact fun σ' H' F' own' p R' E' => ⟨e1, F', own', R', GoF.shift p E' P⟩
    | bk => exact P
    | ct => exact P
    | ret v => exact P
theorem s_pass : PS X (.Pass pos) (tM X.K ca Wx c .pass) := ps_pass.weak fun D σ H ⟨e, F, own, R, P⟩ => P σ H F own .refl R .refl
theorem s_brk : PS X (.Break pos) (tM X.K ca Wx c .brk) := ps_break.weak fun D σ H ⟨e, F, own, R, P⟩ => P σ H F own .refl R .refl
theorem s_cont : PS X (.Continue pos) (tM X.K ca Wx c .cont) := ps_continue.weak fun D σ H ⟨e, F, own, R, P⟩ => P σ H F own .refl R .refl
theorem s_doc {t : Str} {j : Nat} {pos' : Pos} : PS X (.Expr (.Constant (.str t) j pos) pos') (tM X.K ca Wx c .pass) := ps_doc.weak fun D σ H ⟨e, F, own, R, P⟩ => P σ H F own .refl R .refl
theorem s_expr (h : PE X x (tI X.K ca Wx c a)) (hs : swapsWith x none pos.line X.env = pure false) : PS X (.Expr x pos) (tM X.K ca Wx c (.expr a)) :=
  (ps_expr h hs).weak fun D σ H ⟨e, F, own, R, P⟩ => sd_one (r := fun _ H1 => D.nx σ H1) R P fun va e2 u H2 F2 own2 fp R2 V2 N2 E2 P => P σ H2 F2 own2 .refl R2 E2
theorem s_retN : PS X (.Return none pos) (tM X.K ca Wx c .retN) := ps_retN.weak fun D σ H ⟨e, F, own, R, P⟩ => P σ H F own .refl R .refl .non [] (.d .non) .nil (fun a m => by cases m) (fun a m => by cases m)
/-- what a name's slot owns, taken out -/
theorem RV.out {σ : L2.St} {K : PySem.W.Frag} {H : Hp} {F : Fs} {e e' : Env} {own : Nat → List Addr} {u : V} {v v' : Val} {fp : List Addr} (R : Rel K ca σ H e F own) (h : RV K ca σ H F (Ow own) u v fp) (s : PM.handOut c e v = some (v', e')) :
    ∃ F' own' fp', Rel K ca σ H e' F' own' ∧ VR K ca H F' u v' fp' ∧ fp'.Nodup ∧ (∀ a ∈ fp', ¬ F' a ∧ ¬ Ow own' a) ∧ (∀ a ∈ fp', Ow own a ∨ a ∈ fp) ∧ Ext H F (fun a => Ow own a ∨ a ∈ fp) H F' (Ow own') := by
  cases h with
  | @pk i u hs =>
    have s : (if c.pr[i]? = some true then (PM.take e (.pk i)).map fun p => (Val.d p.1, p.2) else (getS e i).map fun v => (v, e.set i none)) = some (v', e') := s
    split at s
    · obtain ⟨⟨x, e2⟩, hx, s⟩ := Option.map_eq_some_iff.mp s
      cases s
      obtain ⟨F', own', R', D', E'⟩ := RV.take R (.pk hs) hx
      exact ⟨F', own', [], R', .d D', .nil, fun a m => (by cases m), fun a m => (by cases m), E'⟩
    · obtain ⟨w, hw, s⟩ := Option.map_eq_some_iff.mp s
      cases s
      obtain ⟨u', hu, r⟩ := R.slot i _ hw
      rw [hs] at hu
      cases hu
      have R' := R.drop (i := i)
      refine ⟨F, _, own i, R', r, R.nd i, fun a m => ⟨R.nf i a m, fun ⟨j, z⟩ => ?_⟩, fun a m => .inl ⟨i, m⟩, Ext.same fun a ⟨j, z⟩ => ?_⟩
      · have z : a ∈ (if j = i then [] else own j) := z
        by_cases q : j = i
        · rw [if_pos q] at z; cases z
        · rw [if_neg q] at z; exact q (R.dj j i a z m)
      · have z : a ∈ (if j = i then [] else own j) := z
        by_cases q : j = i
        · rw [if_pos q] at z; cases z
        · rw [if_neg q] at z; exact .inl (.inl ⟨j, z⟩)
  | val r n f =>
    have s : v' = v ∧ e' = e := by cases r <;> (cases s; exact ⟨rfl, rfl⟩)
    obtain ⟨rfl, rfl⟩ := s
    exact ⟨F, own, fp, R, r, n, f, fun a m => .inr m, Ext.same fun a z => .inl (.inl z)⟩
/-- what is stored -/
theorem RV.stow {σ : L2.St} {K : PySem.W.Frag} {H : Hp} {F : Fs} {e e' : Env} {own : Nat → List Addr} {u : V} {v v' : Val} {fp : List Addr} (R : Rel K ca σ H e F own) (h : RV K ca σ H F (Ow own) u v fp) (s : PM.stow e v = some (v', e')) :
    ∃ F' own' fp', Rel K ca σ H e' F' own' ∧ VR K ca H F' u v' fp' ∧ fp'.Nodup ∧ (∀ a ∈ fp', ¬ F' a ∧ ¬ Ow own' a) ∧ (∀ a ∈ fp', a ∈ fp) ∧ Ext H F (fun a => Ow own a ∨ a ∈ fp) H F' (Ow own') := by
  cases h with
  | @pk i u hs =>
    have s : (PM.take e (.pk i)).map (fun p => (Val.d p.1, p.2)) = some (v', e') := s
    obtain ⟨⟨x, e2⟩, hx, s⟩ := Option.map_eq_some_iff.mp s
    cases s
    obtain ⟨F', own', R', D', E'⟩ := RV.take R (.pk hs) hx
    exact ⟨F', own', [], R', .d D', .nil, fun a m => (by cases m), fun a m => (by cases m), E'⟩
  | val r n f =>
    have s : v' = v ∧ e' = e := by cases r <;> (cases s; exact ⟨rfl, rfl⟩)
    obtain ⟨rfl, rfl⟩ := s
    exact ⟨F, own, fp, R, r, n, f, fun a m => m, Ext.same fun a z => .inl (.inl z)⟩
theorem s_ret (h : PE X x (tI X.K ca Wx c a)) : PS X (.Return (some x) pos) (tM X.K ca Wx c (.ret a)) :=
  (ps_ret h).weak fun D σ H ⟨e, F, own, R, P⟩ => sd_one (r := D.rt) R P fun va e2 u H2 F2 own2 fp R2 V2 N2 E2 P => by
    cases h1 : handOut c e2 va with
    | none => rw [h1] at P; exact P.elim
    | some q =>
      obtain ⟨v', e3⟩ := q
      rw [h1] at P
      obtain ⟨F3, own3, fp3, R3, r3, n3, f3, m3, E3⟩ := RV.out R2 V2 h1
      exact P σ H2 F3 own3 .refl R3 ((E2.addT N2).trans E3) u fp3 r3 n3 f3 fun a m => (m3 a m).elim (E2.own a) (N2 a)
theorem s_ite {tt : Expr} {p q : List Stmt} {ps qs : List MS} (h : PT X tt (tIt X.K ca Wx c a)) (h1 : PSs X p (tMs X.K ca Wx c ps)) (h2 : PSs X q (tMs X.K ca Wx c qs)) : PS X (.If tt p q pos) (tM X.K ca Wx c (.ite a ps qs)) :=
  (ps_if h h1 h2).weak fun D σ H ⟨e, F, own, R, P⟩ => ⟨e, F, own, R, (PR.bind P).mono (fun va e2 P => by
    cases h1 : (see e2 va).bind truD with
    | none => rw [h1] at P; exact P.elim
    | some k =>
      rw [h1] at P
      refine ⟨k, rfl, fun H2 F2 own2 R2 E2 => ?_⟩
      cases k with
      | true => exact ⟨e2, F2, own2, R2, GoF.shift .refl E2 P⟩
      | false => exact ⟨e2, F2, own2, R2, GoF.shift .refl E2 P⟩) fun _ _ q => q.toX⟩

/-! ### targets -/
mutual
def tix : Tgt → List Nat
  | .nm i => [i]
  | .tup ts => tixs ts
def tixs : List Tgt → List Nat
  | [] => []
  | t :: ts => tix t ++ tixs ts
end
/-- only these slots have changed -/
def Only (is : List Nat) (σ σ' : L2.St) : Prop := σ'.length = σ.length ∧ ∀ j : Nat, j ∉ is → σ'[j]? = σ[j]?
theorem Only.set {σ : L2.St} {i : Nat} {u : Option V} : Only [i] σ (σ.set i u) := ⟨List.length_set, fun j h => List.getElem?_set_ne fun q => h (by simp [q])⟩
theorem Only.trans {σ σ1 σ2 : L2.St} {is js : List Nat} (a : Only is σ σ1) (b : Only js σ1 σ2) : Only (is ++ js) σ σ2 := ⟨b.1.trans a.1, fun j h => by
  rw [List.mem_append, not_or] at h
  exact (b.2 j h.2).trans (a.2 j h.1)⟩
/-- what a target does with a value of its own -/
def tG (K : PySem.W.Frag) (ca : Str → Option Addr) (c : Ctx) (t : Tgt) : TG := fun u σ H Q => ∃ v e F own fp e', Rel K ca σ H e F own ∧ VR K ca H F u v fp ∧ fp.Nodup ∧ (∀ a ∈ fp, ¬ F a ∧ ¬ Ow own a) ∧ asg c t v e = some e' ∧
  ∀ σ' own', Prz c σ σ' → Only (tix t) σ σ' → Rel K ca σ' H e' F own' → (∀ a, Ow own' a → Ow own a ∨ a ∈ fp) → Q σ' H
def tGs (K : PySem.W.Frag) (ca : Str → Option Addr) (c : Ctx) (ts : List Tgt) : TGs := fun us σ H Q => ∃ ds e F own e', Rel K ca σ H e F own ∧ Dens K H F us ds ∧ asgs c ts ds e = some e' ∧
  ∀ σ' own', Prz c σ σ' → Only (tixs ts) σ σ' → Rel K ca σ' H e' F own' → (∀ a, Ow own' a → Ow own a) → Q σ' H
theorem setSl_some {e e' : Env} {i : Nat} {v : Val} (h : setSl c e i v = some e') : c.pr[i]? ≠ some true ∧ i < e.length ∧ e' = e.set i (some v) := by
  unfold setSl at h
  split at h
  · cases h
  · rename_i q
    cases h
    exact ⟨fun z => q (.inl z), Nat.lt_of_not_le fun z => q (.inr z), rfl⟩
/-- a slot takes a value of its own -/
theorem Rel.sets {σ : L2.St} {K : PySem.W.Frag} {H : Hp} {F : Fs} {e e' : Env} {own : Nat → List Addr} {u : V} {v : Val} {fp : List Addr} {i : Nat} (R : Rel K ca σ H e F own) (r : VR K ca H F u v fp) (n : fp.Nodup) (f : ∀ a ∈ fp, ¬ F a ∧ ¬ Ow own a) (h : setSl c e i v = some e') :
    Prz c σ (σ.set i (some u)) ∧ ∃ own', Rel K ca (σ.set i (some u)) H e' F own' ∧ ∀ a, Ow own' a → Ow own a ∨ a ∈ fp := by
  obtain ⟨h1, h2, rfl⟩ := setSl_some h
  refine ⟨Prz.set h1, _, R.put (i := i) (u := u) (v := v) (fp := fp) (W := fun a => a ∈ fp) (W' := fun _ => False) (F' := F) (H' := H) (by rw [← R.len]; exact h2) (Ext.same fun a z => z.elim) (fun a m => ⟨(f a m).1, r.mb a m⟩)
    (fun j a _ m z => (f a z).2 ⟨j, m⟩) r n (fun a m => ⟨(f a m).1, .inl m⟩) R.al, fun a ⟨j, z⟩ => ?_⟩
  have z : a ∈ (if j = i then fp else own j) := z
  by_cases q : j = i
  · rw [if_pos q] at z; exact .inr z
  · rw [if_neg q] at z; exact .inl ⟨j, z⟩
theorem nm_w {K : PySem.W.Frag} {i : Nat} {u : V} {σ : L2.St} {H : Hp} {Q : L2.St → Hp → Prop} (h : tG K ca c (.nm i) u σ H Q) : gName i u σ H Q := by
  obtain ⟨w, e, F, own, fp, e', R, vr, n, f, h, q⟩ := h
  obtain ⟨p, own', R', o'⟩ := R.sets vr n f (show setSl c e i w = some e' from h)
  exact q _ own' p Only.set R' o'
theorem g_nm {i : Nat} {nm : Str} (hN : X.N.Nodup) (hi : X.N[i]? = some nm) (hx : Loc X.env.scope nm) (hf : X.fn nm = true ∨ X.env.scope.names.lookup nm = some .local) : PG X (.Name nm pos) (tG X.K ca c (.nm i)) := by
  have g : PG X (.Name nm pos) (gName i) := pg_name hN hi hx hf
  exact ⟨fun pins s σ H v u Q I r h => g.run pins s σ H v u Q I r (nm_w h)⟩
theorem gs_nil : PGs X [] (tGs X.K ca c []) := by
  refine ⟨fun pins s σ H vs us Q I r ⟨ds, e, F, own, e', R, d, h, q⟩ => pgs_nil.run pins s σ H vs us Q I r ?_⟩
  cases ds with
  | nil =>
    cases d
    cases h
    exact ⟨rfl, q σ own .refl ⟨rfl, fun _ _ => rfl⟩ R fun _ z => z⟩
  | cons _ _ => cases h
theorem gs_cons {es : List Expr} {t : Tgt} {ts : List Tgt} (h1 : PG X x (tG X.K ca c t)) (h2 : PGs X es (tGs X.K ca c ts)) (hs : (assignEach (x :: es) X.env).map (·.2) = assign x X.env :: (assignEach es X.env).map (·.2)) : PGs X (x :: es) (tGs X.K ca c (t :: ts)) := by
  refine ⟨fun pins s σ H vs us Q I r ⟨ds, e, F, own, e', R, d, h, q⟩ => (pgs_cons h1 h2 hs).run pins s σ H vs us Q I r ?_⟩
  cases ds with
  | nil => cases h
  | cons x xs =>
    cases d with
    | @cons v vr _ _ d ds =>
      have h : (asg c t (.d x) e).bind (fun e1 => asgs c ts xs e1) = some e' := h
      obtain ⟨e1, h1, h2⟩ := Option.bind_eq_some_iff.mp h
      refine ⟨v, vr, rfl, .d x, e, F, own, [], e1, R, .d d, .nil, fun a m => (by cases m), h1, fun σ1 own1 p1 s1 R1 o1 => ?_⟩
      exact ⟨xs, e1, F, own1, e', R1, ds, h2, fun σ2 own2 p2 s2 R2 o2 => q σ2 own2 (p1.trans p2) (s1.trans s2) R2 fun a z => (o1 a (o2 a z)).elim id fun m => by cases m⟩
theorem asgs_len {ts : List Tgt} : ∀ {ds : List D} {e e' : Env}, asgs c ts ds e = some e' → ds.length = ts.length := by
  induction ts with
  | nil => intro ds e e' h; cases ds with
    | nil => rfl
    | cons _ _ => cases h
  | cons t ts ih =>
    intro ds e e' h
    cases ds with
    | nil => cases h
    | cons x xs =>
      have h : (asg c t (.d x) e).bind (fun e1 => asgs c ts xs e1) = some e' := h
      obtain ⟨e1, h1, h2⟩ := Option.bind_eq_some_iff.mp h
      rw [List.length_cons, List.length_cons, ih h2]
theorem g_tup {es : List Expr} {k : Nat} {ts : List Tgt} (hc : X.calm = true) (h : PGs X es (tGs X.K ca c ts)) (hn : (assignEach es X.env).length = ts.length) (hst : (assignEach es X.env).findIdx? (·.1) = none) : PG X (.Tuple es k pos) (tG X.K ca c (.tup ts)) := by
  refine ⟨fun pins s σ H v u Q I r ⟨w, e, F, own, fp, e', R, vr, n, f, h', q⟩ => (pg_tup hc h hn hst).run pins s σ H v u Q I r ?_⟩
  cases vr with
  | d d =>
    rename_i x
    cases x with
    | tuple ds =>
      obtain ⟨p, us, rfl, hp, dd⟩ := (SeeF.den d).tuple
      cases d with
      | tup h1 d1 =>
        rename_i us'
        have h' : asgs c ts ds e = some e' := h'
        exact ⟨p, us', rfl, h1, by rw [d1.len]; exact asgs_len h', ds, e, F, own, e', R, d1, h', fun σ' own' p s' R' o' => q σ' own' p s' R' fun a z => .inl (o' a z)⟩
    | _ => cases h'
  | ol _ _ => cases h'
  | od _ _ => cases h'
  | ex _ _ _ => cases h'
theorem set_w {K : PySem.W.Frag} {t : Tgt} {D : Ends} {σ : L2.St} {H : Hp} (h : tM K ca Wx c (.set t a) D σ H) : tI K ca Wx c a σ H fun u H1 => tG K ca c t u σ H1 D.nx := by
  obtain ⟨e, F, own, R, P⟩ := h
  exact sd_one (r := fun u H1 => tG K ca c t u σ H1 D.nx) R P fun va e2 u H2 F2 own2 fp R2 V2 N2 E2 P => by
    cases h1 : stow e2 va with
    | none => rw [h1] at P; exact P.elim
    | some q =>
      obtain ⟨v', e3⟩ := q
      rw [h1] at P
      dsimp only at P
      cases h2 : asg c t v' e3 with
      | none => rw [h2] at P; exact P.elim
      | some e4 =>
        rw [h2] at P
        obtain ⟨F3, own3, fp3, R3, r3, n3, f3, m3, E3⟩ := RV.stow R2 V2 h1
        refine ⟨v', e3, F3, own3, fp3, e4, R3, r3, n3, f3, h2, fun σ' own' p _ R' o' => P σ' H2 F3 own' p R' ?_⟩
        refine (E2.addT N2).trans ⟨E3.keep, E3.live, fun a z => ?_, E3.fr, E3.fr'⟩
        exact (o' a z).elim (E3.own a) fun m => .inl (.inr (m3 a m))
theorem s_set {t : Tgt} {y : Expr} (ha : PE X x (tI X.K ca Wx c a)) (hg : PG X y (tG X.K ca c t)) (hs : swapsWithSole [y] x pos.line X.env = pure false) (hw : swappedStores [y] x X.env = pure none) (h1 : (assignEach [y] X.env).map (·.2) = [assign y X.env]) :
    PS X (.Assign [y] x pos) (tM X.K ca Wx c (.set t a)) :=
  (ps_asg ha hg hs hw h1).weak fun D σ H h => set_w h
end
end PM
end

section
set_option Elab.async false
set_option linter.all false
set_option maxRecDepth 100000
set_option maxHeartbeats 2000000
/-! PMLc: what is walked; for, while; comprehensions. -/
namespace PM
open PySem PySem.Spec PyProof.Rows L2
/-- J walks xs from H on, whatever is done to what is owned -/
structure Walk (K : PySem.W.Frag) (J : It) (xs : List D) (H : Hp) (F W : Fs) : Prop where
  go : ∀ i H1 F1 W1, Ext H F W H1 F1 W1 → i < xs.length → J.go i H1
  stop : ∀ i H1 F1 W1, Ext H F W H1 F1 W1 → xs.length ≤ i → J.stop i H1
  yld : ∀ i x v H1 F1 W1 H2, Ext H F W H1 F1 W1 → xs[i]? = some x → J.yld i H1 v H2 → Den K H2 F1 v x ∧ (H2 = H1 ∨ ∃ p o, H1 p = none ∧ H2 = upd H1 p o)
section
variable {K : PySem.W.Frag} {ca : Str → Option Addr} {Wx : Wish} {c : Ctx} {σ σ1 : L2.St} {e e' : Env} {H H' H1 H2 : Hp} {F F' F1 F2 W W' W1 : Fs} {own own1 own2 : Nat → List Addr} {D' : Ends}
theorem Walk.list (w : Wok H F W) {a : Addr} {us : List V} {ds : List D} (h : FzL H F a us) (d : Dens K H F us ds) : Walk K (Itl K a) ds H F W where
  go := fun i H1 F1 W1 E l => ⟨us, us[i]'(by rw [d.len]; exact l), (h.ext E w).sq, by simp⟩
  stop := fun i H1 F1 W1 E l => ⟨us, (h.ext E w).sq, by rw [d.len]; exact l⟩
  yld := fun i x v H1 F1 W1 H2 E l y => by
    obtain ⟨rfl, y⟩ := y
    obtain ⟨u, hu, du⟩ := (d.ext E w).get l
    have := y us (h.ext E w).sq
    rw [hu] at this
    cases this
    exact ⟨du, .inl rfl⟩
theorem Walk.tup (w : Wok H F W) {a : Addr} {us : List V} {ds : List D} (h : SqT K H a us) (d : Dens K H F us ds) : Walk K (Itt K a) ds H F W where
  go := fun i H1 F1 W1 E l => ⟨us, us[i]'(by rw [d.len]; exact l), SqT.ext E w h, by simp⟩
  stop := fun i H1 F1 W1 E l => ⟨us, SqT.ext E w h, by rw [d.len]; exact l⟩
  yld := fun i x v H1 F1 W1 H2 E l y => by
    obtain ⟨rfl, y⟩ := y
    obtain ⟨u, hu, du⟩ := (d.ext E w).get l
    have := y us (SqT.ext E w h)
    rw [hu] at this
    cases this
    exact ⟨du, .inl rfl⟩
theorem Walk.str {z : Str} : Walk K (Its z) (signsD z) H F W where
  go := fun i H1 F1 W1 E l => show i < z.cps.size by simpa [signsD] using l
  stop := fun i H1 F1 W1 E l => show z.cps.size ≤ i by simpa [signsD] using l
  yld := fun i x v H1 F1 W1 H2 E l y => by
    obtain ⟨rfl, n, hn, rfl⟩ := y
    have l : (z.cps.toList.map fun c => PyData.str ⟨#[c]⟩)[i]? = some x := l
    rw [List.getElem?_map, Array.getElem?_toList, hn] at l
    cases l
    exact ⟨.str _, .inl rfl⟩
theorem rangeV_get (n : Nat) : ∀ (lo : Int) (i : Nat), (rangeV lo n)[i]? = if i < n then some (.int (lo + i)) else none := by
  induction n with
  | zero => intro lo i; simp [rangeV]
  | succ n ih =>
    intro lo i
    cases i with
    | zero => simp [rangeV]
    | succ i =>
      simp only [rangeV, List.getElem?_cons_succ, ih]
      by_cases h : i < n
      · simp [h]; omega
      · simp [h]
theorem rangeV_len (n : Nat) : ∀ (lo : Int), (rangeV lo n).length = n := by
  induction n with
  | zero => intro lo; rfl
  | succ n ih => intro lo; simp [rangeV, ih]
theorem Walk.rng {lo : Int} {n : Nat} : Walk K (Itr lo n) (rangeV lo n) H F W where
  go := fun i H1 F1 W1 E l => by rw [rangeV_len] at l; exact l
  stop := fun i H1 F1 W1 E l => by rw [rangeV_len] at l; exact l
  yld := fun i x v H1 F1 W1 H2 E l y => by
    obtain ⟨rfl, rfl⟩ := y
    rw [rangeV_get] at l
    split at l
    · cases l; exact ⟨.int _, .inl rfl⟩
    · cases l
theorem enumV_get : ∀ (xs : List D) (k i : Nat), (enumV k xs)[i]? = (xs[i]?).map fun x => .tuple [.int ((k + i : Nat) : Int), x]
  | [], k, i => by simp [enumV]
  | x :: xs, k, 0 => by simp [enumV]
  | x :: xs, k, i + 1 => by
    simp only [enumV, List.getElem?_cons_succ, enumV_get xs (k + 1) i]
    rw [show k + 1 + i = k + (i + 1) by omega]
theorem enumV_len : ∀ (xs : List D) (k : Nat), (enumV k xs).length = xs.length
  | [], k => rfl
  | x :: xs, k => by simp [enumV, enumV_len xs]
theorem Walk.enum (w : Wok H F W) {a : Addr} {us : List V} {ds : List D} (h : FzL H F a us) (d : Dens K H F us ds) : Walk K (Ite K a) (enumV 0 ds) H F W where
  go := fun i H1 F1 W1 E l => by
    rw [enumV_len] at l
    exact ⟨us, us[i]'(by rw [d.len]; exact l), (h.ext E w).sq, by simp⟩
  stop := fun i H1 F1 W1 E l => by
    rw [enumV_len] at l
    exact ⟨us, (h.ext E w).sq, by rw [d.len]; exact l⟩
  yld := fun i x v H1 F1 W1 H2 E l y => by
    obtain ⟨T, x', rfl, hT, rfl, y⟩ := y
    rw [enumV_get] at l
    obtain ⟨z, hz, rfl⟩ := Option.map_eq_some_iff.mp l
    obtain ⟨u, hu, du⟩ := (d.ext E w).get hz
    have := y us (h.ext E w).sq
    rw [hu] at this
    cases this
    refine ⟨.tup (.inl (.inl upd_same)) (.cons ?_ (.cons (du.alloc hT) .nil)), .inr ⟨T, _, hT, rfl⟩⟩
    rw [Nat.zero_add]
    exact .int _
theorem zipV_get : ∀ (xs ys : List D) (i : Nat) (z : D), (zipV xs ys)[i]? = some z → ∃ x y, xs[i]? = some x ∧ ys[i]? = some y ∧ z = .tuple [x, y]
  | [], _, i, z, h => by simp [zipV] at h
  | _ :: _, [], i, z, h => by simp [zipV] at h
  | x :: xs, y :: ys, 0, z, h => ⟨x, y, rfl, rfl, (Option.some.inj h).symm⟩
  | x :: xs, y :: ys, i + 1, z, h => zipV_get xs ys i z h
theorem zipV_len : ∀ (xs ys : List D), (zipV xs ys).length = min xs.length ys.length
  | [], _ => by simp [zipV]
  | _ :: _, [] => by simp [zipV]
  | x :: xs, y :: ys => by simp [zipV, zipV_len xs ys]
theorem Walk.zip (w : Wok H F W) {a b : Addr} {us vs : List V} {ds es : List D} (h : FzL H F a us) (d : Dens K H F us ds) (g : FzL H F b vs) (f : Dens K H F vs es) : Walk K (Itz K a b) (zipV ds es) H F W where
  go := fun i H1 F1 W1 E l => by
    rw [zipV_len] at l
    exact ⟨us, vs, us[i]'(by rw [d.len]; omega), vs[i]'(by rw [f.len]; omega), (h.ext E w).sq, (g.ext E w).sq, by simp, by simp⟩
  stop := fun i H1 F1 W1 E l => by
    rw [zipV_len] at l
    exact ⟨us, vs, (h.ext E w).sq, (g.ext E w).sq, by rw [d.len, f.len]; omega⟩
  yld := fun i x v H1 F1 W1 H2 E l y => by
    obtain ⟨T, x', y', rfl, hT, rfl, y1, y2⟩ := y
    obtain ⟨p, q, hp, hq, rfl⟩ := zipV_get _ _ _ _ l
    obtain ⟨u, hu, du⟩ := (d.ext E w).get hp
    obtain ⟨u', hu', du'⟩ := (f.ext E w).get hq
    have z1 := y1 us (h.ext E w).sq
    have z2 := y2 vs (g.ext E w).sq
    rw [hu] at z1
    rw [hu'] at z2
    cases z1
    cases z2
    exact ⟨.tup (.inl (.inl upd_same)) (.cons (du.alloc hT) (.cons (du'.alloc hT) .nil)), .inr ⟨T, _, hT, rfl⟩⟩
theorem Walk.zipT (w : Wok H F W) {a b : Addr} {us vs : List V} {ds es : List D} (h : SqT K H a us) (d : Dens K H F us ds) (g : SqT K H b vs) (f : Dens K H F vs es) : Walk K (RZ.ItzT K a b) (zipV ds es) H F W where
  go := fun i H1 F1 W1 E l => by
    rw [zipV_len] at l
    exact ⟨us, vs, us[i]'(by rw [d.len]; omega), vs[i]'(by rw [f.len]; omega), SqT.ext E w h, SqT.ext E w g, by simp, by simp⟩
  stop := fun i H1 F1 W1 E l => by
    rw [zipV_len] at l
    exact ⟨us, vs, SqT.ext E w h, SqT.ext E w g, by rw [d.len, f.len]; omega⟩
  yld := fun i x v H1 F1 W1 H2 E l y => by
    obtain ⟨T, x', y', rfl, hT, rfl, y1, y2⟩ := y
    obtain ⟨p, q, hp, hq, rfl⟩ := zipV_get _ _ _ _ l
    obtain ⟨u, hu, du⟩ := (d.ext E w).get hp
    obtain ⟨u', hu', du'⟩ := (f.ext E w).get hq
    have z1 := y1 us (SqT.ext E w h)
    have z2 := y2 vs (SqT.ext E w g)
    rw [hu] at z1
    rw [hu'] at z2
    cases z1
    cases z2
    exact ⟨.tup (.inl (.inl upd_same)) (.cons (du.alloc hT) (.cons (du'.alloc hT) .nil)), .inr ⟨T, _, hT, rfl⟩⟩
end
/-- the reading of what is walked -/
def tW (K : PySem.W.Frag) (ca : Str → Option Addr) (Wx : Wish) (c : Ctx) (m : MI) : L2.TI := fun σ H R => ∃ e F own, Rel K ca σ H e F own ∧
  PR (evi c m e) (fun xs e' => ∀ J H' F' own', Rel K ca σ H' e' F' own' → Ext H F (Ow own) H' F' (Ow own') → Walk K J xs H' F' (Ow own') → R J H') (QX K ca Wx σ H F (Ow own))
section
variable {X : Cx} {ca : Str → Option Addr} {Wx : Wish} {c : Ctx} {x y z tg : Expr} {a b d : ME} {pos : Pos} {st : Stmt} {sts : List Stmt} {m : MS} {ms : List MS}
theorem pi_weak {t t' : L2.TI} (h : PI X tg x t) (w : ∀ σ H R, t' σ H R → t σ H R) : PI X tg x t' := ⟨fun pins s σ H R I q => h.run pins s σ H R I (w σ H R q)⟩
abbrev iAny (K : PySem.W.Frag) (te : TE) : L2.TI := fun σ H R => te σ H fun v H1 => (∃ a xs, v = .ref a ∧ SqL K H1 a xs ∧ R (Itl K a) H1) ∨ (∃ a xs, v = .ref a ∧ SqT K H1 a xs ∧ R (Itt K a) H1) ∨ ∃ z, v = .str z ∧ R (Its z) H1
theorem pi_any {te : TE} (he : PE X x te) : PI X tg x (iAny X.K te) := by
  refine ⟨fun pins s σ H R I h => ?_⟩
  refine thn (he.run pins s σ H _ I h) fun v s1 ⟨y, H1, I1, r1, q1⟩ => ?_
  rcases q1 with ⟨a, xs, rfl, hq, q⟩ | ⟨a, xs, rfl, hq, q⟩ | ⟨z, rfl, q⟩
  · cases r1
    obtain ⟨its, rv, p, hz⟩ := I1.list hq
    refine wpAny_pyIter_list p.isList ?_
    refine ⟨s1.heap.objs.size, [s1.heap.objs.size], _, _, H1, rfl, I1.kept (t' := s1.toks) fun b o e => Heap.get?_push_of_some _ e, turn_list a _, ⟨_, Heap.get?_push_size _ rfl, rfl, rfl⟩, fun b hb => ?_, q⟩
    have e : b = s1.heap.objs.size := by simpa using hb
    subst e
    exact I1.fpOk (Nat.le_refl _) (I1.hok.fresh (Nat.le_refl _))
  · cases r1
    obtain ⟨its, rv, p, hz⟩ := I1.tuple hq
    refine wpAny_pyIter_tuple (show s1.heap.IsTuple a its.toArray from p) ?_
    refine ⟨s1.heap.objs.size, [s1.heap.objs.size], _, _, H1, rfl, I1.kept (t' := s1.toks) fun b o e => Heap.get?_push_of_some _ e, turn_tuple a _, ⟨_, Heap.get?_push_size _ rfl, rfl, rfl⟩, fun b hb => ?_, q⟩
    have e : b = s1.heap.objs.size := by simpa using hb
    subst e
    exact I1.fpOk (Nat.le_refl _) (I1.hok.fresh (Nat.le_refl _))
  · obtain ⟨t, rfl⟩ := r1
    cases ha : z.cps.all (· < 128)
    · exact wpAny_pyIter_wide ha (pi_one (tk := s1.toks) I1 _ (turn_str _ z t "str_iterator" (.inr rfl)) ⟨_, Heap.get?_push_size _ rfl, rfl, rfl⟩ q)
    · exact wpAny_pyIter_ascii ha (pi_one (tk := s1.toks) I1 _ (turn_str _ z t "str_ascii_iterator" (.inl rfl)) ⟨_, Heap.get?_push_size _ rfl, rfl, rfl⟩ q)
theorem w_seq (ha : PE X x (tI X.K ca Wx c a)) : PI X tg x (tW X.K ca Wx c (.seq a)) :=
  pi_weak (pi_any ha) fun σ H R ⟨e, F, own, RR, P⟩ => ⟨e, F, own, RR, (PR.bind P).mono (fun va e1 P u H1 F1 own1 fp R1 V1 N1 E1 => by
    cases h : walkV e1 va with
    | none => rw [h] at P; exact P.elim
    | some q =>
      obtain ⟨xs, e2⟩ := q
      rw [h] at P
      dsimp only at P
      have h : (PM.take e1 va).bind _ = some (xs, e2) := h
      obtain ⟨⟨z, e3⟩, hz, h⟩ := Option.bind_eq_some_iff.mp h
      obtain ⟨F3, own3, R3, D3, E3⟩ := V1.take R1 hz
      have E := (E1.addT N1).trans E3
      cases z with
      | list ds =>
        cases h
        cases D3 with
        | lst hf d => exact .inl ⟨_, _, rfl, hf.sq, P _ H1 F3 own3 R3 E (Walk.list R3.wok hf d)⟩
      | tuple ds =>
        cases h
        cases D3 with
        | tup hf d => exact .inr (.inl ⟨_, _, rfl, hf, P _ H1 F3 own3 R3 E (Walk.tup R3.wok hf d)⟩)
      | str t =>
        have h : (if t.length ≤ lineN then some (signsD t, e3) else none) = some (xs, e2) := h
        split at h
        · cases h
          cases D3 with
          | str => exact .inr (.inr ⟨_, rfl, P _ H1 F3 own3 R3 E Walk.str⟩)
        · cases h
      | _ => cases h) fun _ _ q => q⟩
theorem PR.one {a : ME} {e : Env} {k : List Val → Env → Prop} {kx : Ex → Env → Prop} (h : PR (ev c a e) (fun v e1 => k [v] e1) kx) : PR (evs c [a] e) k kx := by
  show PR ((ev c a e).bind fun v e1 => (Res.ok [] e1).bind fun vs e2 => .ok (v :: vs) e2) k kx
  cases q : ev c a e with
  | ok v e1 => rw [q] at h; exact h
  | ex x e1 => rw [q] at h; exact h
  | no => rw [q] at h; exact h
theorem PR.two {a b : ME} {e : Env} {k : List Val → Env → Prop} {kx : Ex → Env → Prop} (h : PR ((ev c a e).bind fun v e1 => (ev c b e1).bind fun u e2 => .ok (v, u) e2) (fun p e1 => k [p.1, p.2] e1) kx) : PR (evs c [a, b] e) k kx := by
  show PR ((ev c a e).bind fun v e1 => (evs c [b] e1).bind fun vs e2 => .ok (v :: vs) e2) k kx
  cases q : ev c a e with
  | ok v e1 =>
    rw [q] at h
    have h : PR ((ev c b e1).bind fun u e2 => .ok (v, u) e2) (fun p e1 => k [p.1, p.2] e1) kx := h
    show PR (((ev c b e1).bind fun u e2 => (Res.ok [] e2).bind fun vs e3 => .ok (u :: vs) e3).bind fun vs e2 => .ok (v :: vs) e2) k kx
    cases q2 : ev c b e1 with
    | ok u e2 => rw [q2] at h; exact h
    | ex x e1 => rw [q2] at h; exact h
    | no => rw [q2] at h; exact h
  | ex x e1 => rw [q] at h; exact h
  | no => rw [q] at h; exact h
theorem RVs.ints1 {K : PySem.W.Frag} {H : Hp} {F W : Fs} {σ : L2.St} {e : Env} {own : Nat → List Addr} {us : List V} {i : Int} {fp : List Addr} (R : Rel K ca σ H e F own) (h : RVs K ca σ H F W us [.d (.int i)] fp) : us = [.int i] := by
  cases h with
  | cons h r d =>
    cases r
    rw [(h.seeF R (x := .int i) rfl).int]
theorem w_rng1 {p : Pos} (hg : Gl X "range") (hm : X.mg "range" = none) (ha : PA X [x] (tIs X.K ca Wx c [a])) (hs : starEach [x] X.env = [(false, eval x X.env)]) : PI X tg (.Call (.Name "range" p) [x] [] pos) (tW X.K ca Wx c (.rng1 a)) :=
  pi_weak (pi_range1 hg hm ha hs) fun σ H R ⟨e, F, own, RR, P⟩ => ⟨e, F, own, RR, PR.one ((PR.bind P).mono (fun v e1 P us H1 F1 own1 fp R1 V1 N1 E1 => by
    cases v with
    | d q =>
      cases q with
      | int j =>
        have P : PR (if -(2 ^ 62) ≤ j ∧ j < 2 ^ 62 then Res.ok (rangeV 0 j.toNat) e1 else .no) _ _ := P
        split at P
        · rename_i q
          exact ⟨j, V1.ints1 R1, q.1, q.2, P _ H1 F1 own1 R1 E1 Walk.rng⟩
        · exact P.elim
      | _ => exact P.elim
    | _ => exact P.elim) fun _ _ q => q)⟩
theorem w_rng2 {p : Pos} (hg : Gl X "range") (hm : X.mg "range" = none) (ha : PA X [x, y] (tIs X.K ca Wx c [a, b])) (hs : starEach [x, y] X.env = [(false, eval x X.env), (false, eval y X.env)]) (hs2 : starEach [y] X.env = [(false, eval y X.env)]) :
    PI X tg (.Call (.Name "range" p) [x, y] [] pos) (tW X.K ca Wx c (.rng2 a b)) :=
  pi_weak (pi_range2 hg hm ha hs hs2) fun σ H R ⟨e, F, own, RR, P⟩ => ⟨e, F, own, RR, PR.two (by
    have P : PR ((ev c a e).bind fun v e1 => (ev c b e1).bind fun u e2 => match v, u with
      | .d (.int i), .d (.int j) => if -(2 ^ 62) ≤ i ∧ i < 2 ^ 62 ∧ -(2 ^ 62) ≤ j ∧ j < 2 ^ 62 then .ok (rangeV i (j - i).toNat) e2 else .no
      | _, _ => .no) _ _ := P
    cases q1 : ev c a e with
    | no => rw [q1] at P; exact P.elim
    | ex _ _ => rw [q1] at P; exact P
    | ok v e1 =>
      rw [q1] at P
      show PR ((ev c b e1).bind fun u e2 => .ok (v, u) e2) _ _
      have P : PR ((ev c b e1).bind fun u e2 => match v, u with
        | .d (.int i), .d (.int j) => if -(2 ^ 62) ≤ i ∧ i < 2 ^ 62 ∧ -(2 ^ 62) ≤ j ∧ j < 2 ^ 62 then .ok (rangeV i (j - i).toNat) e2 else .no
        | _, _ => .no) _ _ := P
      cases q2 : ev c b e1 with
      | no => rw [q2] at P; exact P.elim
      | ex _ _ => rw [q2] at P; exact P
      | ok u e2 =>
        rw [q2] at P
        intro us H1 F1 own1 fp R1 V1 N1 E1
        cases v with
        | d p =>
          cases p with
          | int i =>
            cases u with
            | d p =>
              cases p with
              | int j =>
                have P : PR (if -(2 ^ 62) ≤ i ∧ i < 2 ^ 62 ∧ -(2 ^ 62) ≤ j ∧ j < 2 ^ 62 then Res.ok (rangeV i (j - i).toNat) e2 else .no) _ _ := P
                split at P
                · rename_i q
                  refine ⟨i, j, ?_, q, P _ H1 F1 own1 R1 E1 Walk.rng⟩
                  cases V1 with
                  | cons h r d =>
                    rw [(h.seeF R1 (x := .int i) rfl).int, r.ints1 R1]
                · exact P.elim
              | _ => exact P.elim
            | _ => exact P.elim
          | _ => exact P.elim
        | _ => exact P.elim)⟩
theorem w_enum {p tpos : Pos} {elts : List Expr} {kk : Nat} (hg : Gl X "enumerate") (hm : X.mg "enumerate" = none) (ha : PA X [x] (tIs X.K ca Wx c [a])) (hs : starEach [x] X.env = [(false, eval x X.env)]) :
    PI X (.Tuple elts kk tpos) (.Call (.Name "enumerate" p) [x] [] pos) (tW X.K ca Wx c (.enum a)) :=
  pi_weak (pi_enum hg hm ha hs) fun σ H R ⟨e, F, own, RR, P⟩ => ⟨e, F, own, RR, PR.one ((PR.bind P).mono (fun v e1 P us H1 F1 own1 fp R1 V1 N1 E1 => by
    cases h : walkL e1 v with
    | none => rw [h] at P; exact P.elim
    | some q =>
      obtain ⟨xs, e2⟩ := q
      rw [h] at P
      dsimp only at P
      have h : (PM.take e1 v).bind _ = some (xs, e2) := h
      obtain ⟨⟨z, e3⟩, hz, h⟩ := Option.bind_eq_some_iff.mp h
      cases V1 with
      | cons h1 r d =>
        cases r
        obtain ⟨F3, own3, R3, D3, E3⟩ := h1.take R1 hz
        rw [List.append_nil] at N1
        have E := (E1.addT N1).trans E3
        cases z with
        | list ds =>
          cases h
          cases D3 with
          | lst hf d => exact ⟨_, _, rfl, hf.sq, P _ H1 F3 own3 R3 E (Walk.enum R3.wok hf d)⟩
        | _ => cases h) fun _ _ q => q)⟩
theorem w_zip {p tpos : Pos} {elts : List Expr} {kk : Nat} (hg : Gl X "zip") (hm : X.mg "zip" = none) (ha : PA X [x, y] (tIs X.K ca Wx c [a, b])) (hs : starEach [x, y] X.env = (false, eval x X.env) :: starEach [y] X.env)
    (hpl : (backTo pos (starEach [y] X.env)).any (·.1) = false) : PI X (.Tuple elts kk tpos) (.Call (.Name "zip" p) [x, y] [] pos) (tW X.K ca Wx c (.zip a b)) :=
  pi_weak (RZ.pi_zipA hg hm ha hs hpl) fun σ H R ⟨e, F, own, RR, P⟩ => ⟨e, F, own, RR, PR.two (by
    have P : PR ((ev c a e).bind fun v e1 => (ev c b e1).bind fun u e2 => match takes e2 [v, u] with
      | some ([.list xs, .list ys], e3) => .ok (zipV xs ys) e3
      | some ([.tuple xs, .tuple ys], e3) => .ok (zipV xs ys) e3
      | _ => .no) _ _ := P
    cases q1 : ev c a e with
    | no => rw [q1] at P; exact P.elim
    | ex _ _ => rw [q1] at P; exact P
    | ok v e1 =>
      rw [q1] at P
      show PR ((ev c b e1).bind fun u e2 => .ok (v, u) e2) _ _
      have P : PR ((ev c b e1).bind fun u e2 => match takes e2 [v, u] with
        | some ([.list xs, .list ys], e3) => .ok (zipV xs ys) e3
        | some ([.tuple xs, .tuple ys], e3) => .ok (zipV xs ys) e3
        | _ => .no) _ _ := P
      cases q2 : ev c b e1 with
      | no => rw [q2] at P; exact P.elim
      | ex _ _ => rw [q2] at P; exact P
      | ok u e2 =>
        rw [q2] at P
        intro us H1 F1 own1 fp R1 V1 N1 E1
        have P : PR (match takes e2 [v, u] with
          | some ([.list xs, .list ys], e3) => .ok (zipV xs ys) e3
          | some ([.tuple xs, .tuple ys], e3) => .ok (zipV xs ys) e3
          | _ => .no) _ _ := P
        split at P
        · rename_i xs ys e3 ht
          obtain ⟨F3, own3, R3, D3, E3⟩ := V1.takes R1 ht
          have E := (E1.addT N1).trans E3
          cases D3 with
          | cons d1 r =>
            cases r with
            | cons d2 r =>
              cases r
              cases d1 with
              | lst f1 d1 =>
                cases d2 with
                | lst f2 d2 => exact ⟨_, _, _, _, rfl, .inl ⟨f1.sq, f2.sq, P _ H1 F3 own3 R3 E (Walk.zip R3.wok f1 d1 f2 d2)⟩⟩
        · rename_i xs ys e3 ht
          obtain ⟨F3, own3, R3, D3, E3⟩ := V1.takes R1 ht
          have E := (E1.addT N1).trans E3
          cases D3 with
          | cons d1 r =>
            cases r with
            | cons d2 r =>
              cases r
              cases d1 with
              | tup f1 d1 =>
                cases d2 with
                | tup f2 d2 => exact ⟨_, _, _, _, rfl, .inr ⟨f1, f2, P _ H1 F3 own3 R3 E (Walk.zipT R3.wok f1 d1 f2 d2)⟩⟩
        · exact P.elim)⟩

/-! ### for -/
theorem Rel.step {K : PySem.W.Frag} {σ : L2.St} {H H2 : Hp} {F : Fs} {e : Env} {own : Nat → List Addr} (R : Rel K ca σ H e F own) (h : H2 = H ∨ ∃ p o, H p = none ∧ H2 = upd H p o) : Rel K ca σ H2 e F own ∧ Ext H F (Ow own) H2 F (Ow own) := by
  rcases h with rfl | ⟨p, o, hp, rfl⟩
  · exact ⟨R, .refl⟩
  · exact ⟨R.alloc hp, .alloc hp⟩
theorem s_for {iter : Expr} {body : List Stmt} {it : MI} {t : Tgt} (hp : PassesOwn (model X.prog X.w) X.A X.env X.xe) (hc : X.calm = true) (hi : PI X tg iter (tW X.K ca Wx c it)) (hg : PG X tg (tG X.K ca c t)) (hb : PSs X body (tMs X.K ca Wx c ms))
    (hs : ∀ x, foldedSetIterable iter X.env x = pure x) : PS X (.For tg iter body [] pos) (tM X.K ca Wx c (.for_ t it ms)) :=
  (ps_for hp hc hi hg hb hs).weak fun D σ H ⟨e, F, own, R, P⟩ => by
    refine ⟨e, F, own, R, (PR.bind P).mono (fun xs e1 P J H1 F1 own1 R1 E1 w => ?_) fun _ _ q => q.toX⟩
    refine ⟨fun i m σ2 H2 => m = xs.length - i ∧ i ≤ xs.length ∧ ∃ e2 F2 own2, Rel X.K ca σ2 H2 e2 F2 own2 ∧ Prz c σ σ2 ∧ Ext H1 F1 (Ow own1) H2 F2 (Ow own2) ∧
      GoF X.K ca Wx c σ H F (Ow own) D (forL (fun x e2 => match asg c t (.d x) e2 with
        | some e3 => exs c ms e3
        | none => .no) (xs.drop i) e2), ⟨xs.length, by simp, Nat.zero_le _, e1, F1, own1, R1, .refl, .refl, by rw [List.drop_zero]; exact P⟩, ?_⟩
    rintro i m σ2 H2 ⟨rfl, hi, e2, F2, own2, R2, p2, E2, P2⟩
    by_cases hlt : i < xs.length
    · rw [List.drop_eq_getElem_cons hlt] at P2
      refine .inr ⟨w.go i H2 F2 _ E2 hlt, fun σ' H' => ∃ e2 F2 own2, Rel X.K ca σ' H' e2 F2 own2 ∧ Prz c σ σ' ∧ Ext H1 F1 (Ow own1) H' F2 (Ow own2) ∧
        GoF X.K ca Wx c σ H F (Ow own) D (forL (fun x e2 => match asg c t (.d x) e2 with
          | some e3 => exs c ms e3
          | none => .no) (xs.drop (i + 1)) e2), fun σ' H' q => ⟨xs.length - (i + 1), by omega, rfl, hlt, q⟩, fun v H3 y => ?_⟩
      obtain ⟨dv, hst⟩ := w.yld i _ v H2 F2 _ H3 E2 (List.getElem?_eq_getElem hlt) y
      obtain ⟨R3, E3⟩ := R2.step hst
      have P3 : PR (match asg c t (.d xs[i]) e2 with
        | some e3 => exs c ms e3
        | none => .no) _ _ := PR.bind P2
      cases ha : asg c t (.d xs[i]) e2 with
      | none => rw [ha] at P3; exact P3.elim
      | some e3 =>
        rw [ha] at P3
        refine ⟨.d xs[i], e2, F2, own2, [], e3, R3, .d dv, .nil, fun a m => (by cases m), ha, fun σ4 own4 p4 _ R4 o4 => ?_⟩
        have E4 : Ext H1 F1 (Ow own1) H3 F2 (Ow own4) := (E2.trans E3).trans (Ext.same fun a z => (o4 a z).imp id fun m => by cases m)
        have E5 := E1.trans E4
        refine ⟨e3, F2, own4, R4, PR.mono P3 (fun fl e5 P5 => ?_) fun _ _ q => q.shift (p2.trans p4) E5⟩
        cases fl with
        | nx => exact fun σ' H' F' own' p' R' E' => ⟨e5, F', own', R', (p2.trans p4).trans p', E4.trans E', P5⟩
        | ct => exact fun σ' H' F' own' p' R' E' => ⟨e5, F', own', R', (p2.trans p4).trans p', E4.trans E', P5⟩
        | bk => exact fun σ' H' F' own' p' R' E' => (show QF X.K ca c σ H F (Ow own) D .nx e5 from P5) σ' H' F' own' ((p2.trans p4).trans p') R' (E5.trans E')
        | ret v => exact (show QF X.K ca c σ H F (Ow own) D (.ret v) e5 from P5).shift (p2.trans p4) E5
    · have e : i = xs.length := by omega
      subst e
      rw [List.drop_length] at P2
      exact .inl ⟨w.stop _ H2 F2 _ E2 (Nat.le_refl _), (show QF X.K ca c σ H F (Ow own) D .nx e2 from P2) σ2 H2 F2 own2 p2 R2 (E1.trans E2)⟩
theorem s_while {tt : Expr} {body : List Stmt} (hp : PassesOwn (model X.prog X.w) X.A X.env X.xe) (hc : PT X tt (tIt X.K ca Wx c a)) (hb : PSs X body (tMs X.K ca Wx c ms)) : PS X (.While tt body [] pos) (tM X.K ca Wx c (.while a ms)) :=
  (ps_while hp hc hb).weak fun D σ H ⟨e, F, own, R, P⟩ => by
    refine ⟨fun m σ2 H2 => ∃ e2 F2 own2, Rel X.K ca σ2 H2 e2 F2 own2 ∧ Prz c σ σ2 ∧ Ext H F (Ow own) H2 F2 (Ow own2) ∧
      GoF X.K ca Wx c σ H F (Ow own) D (whileL (fun e1 => (ev c a e1).bind fun v e2 => opt ((see e2 v).bind truD) e2) (fun e1 => exs c ms e1) m e2), ⟨whileFuel, e, F, own, R, .refl, .refl, P⟩, ?_⟩
    rintro m σ2 H2 ⟨e2, F2, own2, R2, p2, E2, P2⟩
    cases m with
    | zero => exact P2.elim
    | succ m =>
      have P3 := PR.bind P2
      refine ⟨e2, F2, own2, R2, (PR.bind P3).mono (fun v e3 P4 => ?_) fun _ _ q => (q.shift p2 E2).toX⟩
      obtain ⟨k, hk, P5⟩ := PR.opt P4
      refine ⟨k, hk, fun H3 F3 own3 R3 E3 => ?_⟩
      have E4 := E2.trans E3
      cases k with
      | false =>
        refine Eq.mpr (if_neg Bool.false_ne_true) ?_
        exact (show QF X.K ca c σ H F (Ow own) D .nx e3 from P5) σ2 H3 F3 own3 p2 R3 E4
      | true =>
        refine Eq.mpr (if_pos rfl) ?_
        refine ⟨fun σ' H' => ∃ e2 F2 own2, Rel X.K ca σ' H' e2 F2 own2 ∧ Prz c σ σ' ∧ Ext H F (Ow own) H' F2 (Ow own2) ∧
          GoF X.K ca Wx c σ H F (Ow own) D (whileL (fun e1 => (ev c a e1).bind fun v e2 => opt ((see e2 v).bind truD) e2) (fun e1 => exs c ms e1) m e2), fun σ' H' q => ⟨m, Nat.lt_succ_self m, q⟩, e3, F3, own3, R3, (PR.bind (show GoF X.K ca Wx c σ H F (Ow own) D ((exs c ms e3).bind _) from P5)).mono (fun fl e5 P6 => ?_) fun _ _ q => q.shift p2 E4⟩
        cases fl with
        | nx => exact fun σ' H' F' own' p' R' E' => ⟨e5, F', own', R', p2.trans p', E4.trans E', P6⟩
        | ct => exact fun σ' H' F' own' p' R' E' => ⟨e5, F', own', R', p2.trans p', E4.trans E', P6⟩
        | bk => exact fun σ' H' F' own' p' R' E' => (show QF X.K ca c σ H F (Ow own) D .nx e5 from P6) σ' H' F' own' (p2.trans p') R' (E4.trans E')
        | ret v => exact (show QF X.K ca c σ H F (Ow own) D (.ret v) e5 from P6).shift p2 E4
end
end PM
end

section
set_option Elab.async false
set_option linter.all false
set_option maxRecDepth 100000
set_option maxHeartbeats 2000000
/-! PMLc2: list comprehensions. -/
namespace PM
open PySem PySem.Spec PyProof.Rows L2
section
variable {K : PySem.W.Frag} {ca : Str → Option Addr} {Wx : Wish} {c : Ctx} {σ σ1 : L2.St} {e e' e1 e2 : Env} {H H' H1 H2 : Hp} {F F' F1 F2 W W' W1 : Fs} {own own1 own2 : Nat → List Addr} {is : List Nat}
theorem Rel.wipes : ∀ {is : List Nat}, Rel K ca σ H e F own → Rel K ca (wipe σ is) H (wipeE e is) F (fun j => if j ∈ is then [] else own j)
  | [], R => by simpa [wipe, wipeE] using R
  | i :: r, R => by
    have q := (Rel.wipes (is := r) R).unset (i := i) (o := none)
    have eo : (fun j => if j = i then [] else if j ∈ r then [] else own j) = fun j => if j ∈ i :: r then ([] : List Addr) else own j := by
      funext j
      by_cases h1 : j = i
      · simp [h1]
      · by_cases h2 : j ∈ r
        · simp [h2]
        · simp [h1, h2]
    rw [eo] at q
    exact q
theorem backE_len : ∀ {is : List Nat}, (backE e1 e2 is).length = e2.length
  | [] => rfl
  | i :: r => by unfold backE; rw [List.length_set, backE_len]
theorem getS_backE : ∀ {is : List Nat} {j : Nat}, getS (backE e1 e2 is) j = if j ∈ is ∧ j < e2.length then getS e1 j else getS e2 j
  | [], j => by simp [backE]
  | i :: r, j => by
    unfold backE
    rw [getS_set, getS_backE, backE_len]
    by_cases h1 : i = j
    · subst h1
      by_cases h2 : i < e2.length
      · simp [h2, getS]
      · simp [h2]
    · simp [h1, Ne.symm h1]
theorem VR.free {u : V} {v : Val} {fp : List Addr} (h : VR K ca H F u v fp) (o : owned v = false) : fp = [] := by
  cases h with
  | d _ => rfl
  | ex _ _ _ => rfl
  | ol _ _ => cases o
  | od _ _ => cases o
theorem Rel.unwipe (R1 : Rel K ca σ H1 e1 F1 own1) (E : Ext H1 F1 (Ow own1) H2 F2 (Ow own2)) (R2 : Rel K ca (wipe σ is) H2 e2 F2 own2) (hf : ∀ i ∈ is, own1 i = []) : Rel K ca σ H2 (backE e1 e2 is) F2 (fun j => if j ∈ is then [] else own2 j) where
  len := by rw [backE_len, R2.len, wipe_length]
  slot := fun j v h => by
    rw [getS_backE] at h
    by_cases q : j ∈ is
    · by_cases l : j < e2.length
      · rw [if_pos ⟨q, l⟩] at h
        obtain ⟨u, hu, r⟩ := R1.slot j v h
        have r2 := r.ext E R1.wok (fun a m => by rw [hf j q] at m; cases m)
        rw [hf j q] at r2
        rw [if_pos q]
        exact ⟨u, hu, r2⟩
      · rw [if_neg fun z => l z.2] at h
        exact absurd (getS_lt h) l
    · rw [if_neg fun z => q z.1] at h
      obtain ⟨u, hu, r⟩ := R2.slot j v h
      rw [if_neg q]
      exact ⟨u, (wipe_some hu).1, r⟩
  non := fun j h => by
    by_cases q : j ∈ is
    · exact if_pos q
    · rw [if_neg q]
      rw [getS_backE, if_neg fun z => q z.1] at h
      exact R2.non j h
  nd := fun j => by
    by_cases q : j ∈ is
    · rw [if_pos q]; exact .nil
    · rw [if_neg q]; exact R2.nd j
  dj := fun i j a m n => by
    by_cases q : i ∈ is
    · rw [if_pos q] at m; cases m
    · by_cases q' : j ∈ is
      · rw [if_pos q'] at n; cases n
      · rw [if_neg q] at m
        rw [if_neg q'] at n
        exact R2.dj i j a m n
  nf := fun i a m => by
    by_cases q : i ∈ is
    · rw [if_pos q] at m; cases m
    · rw [if_neg q] at m
      exact R2.nf i a m
  al := R2.al
theorem Ow.sub (a : Addr) (h : Ow (fun j => if j ∈ is then [] else own j) a) : Ow own a := by
  obtain ⟨j, m⟩ := h
  have m : a ∈ (if j ∈ is then [] else own j) := m
  by_cases q : j ∈ is
  · rw [if_pos q] at m; cases m
  · rw [if_neg q] at m; exact ⟨j, m⟩
/-- a new object of one's own is written -/
theorem Ext.updNew {D : Addr} {o : HO} (E : Ext H F W H1 F1 W1) (hD : H D = none) : Ext H F W (L2.upd H1 D o) F1 W1 where
  keep := fun a x h n => by
    have : a ≠ D := by rintro rfl; rw [hD] at h; cases h
    rw [upd_ne this]
    exact E.keep a x h n
  live := fun a h => by
    by_cases q : a = D
    · subst q; rw [upd_same] at h; cases h
    · rw [upd_ne q] at h; exact E.live a h
  own := E.own
  fr := E.fr
  fr' := E.fr'
theorem Rel.updM {D : Addr} {o : HO} (R : Rel K ca σ H e F own) (hD : Mb H D) (nF : ¬ F D) (nW : ¬ Ow own D) : Rel K ca σ (L2.upd H D o) e F own ∧ ∀ {ws : List V} {ds : List PM.D}, Dens K H F ws ds → Dens K (L2.upd H D o) F ws ds := by
  have E : Ext H F (fun a => a = D) (L2.upd H D o) F (fun _ => False) := (Ext.upd (W := fun a => a = D) rfl).widen (fun _ z => z) fun _ z => z.elim
  have w : Wok H F (fun a => a = D) := fun a z => by subst z; exact ⟨nF, hD⟩
  refine ⟨R.ext E w (fun j a m z => nW ⟨j, z ▸ m⟩) fun a f => ?_, fun {_ _} d => d.ext E w⟩
  by_cases q : a = D
  · subst q; rw [upd_same]; exact fun z => nomatch z
  · rw [upd_ne q]; exact R.al a f
theorem Rel.updD {D : Addr} {us vs : List V} (R : Rel K ca σ H e F own) (hD : H D = some (.lst us)) (nF : ¬ F D) (nW : ¬ Ow own D) : Rel K ca σ (L2.upd H D (.lst vs)) e F own ∧ ∀ {ws : List V} {ds : List PM.D}, Dens K H F ws ds → Dens K (L2.upd H D (.lst vs)) F ws ds :=
  R.updM (.inl ⟨_, hD⟩) nF nW
end
/-- the wish that nothing is raised -/
abbrev WxF : Wish := fun _ _ _ _ => False
/-- the readings of a comprehension's tests -/
def tTs (K : PySem.W.Frag) (ca : Str → Option Addr) (Wx : Wish) (c : Ctx) (cs : List ME) : TT := fun σ H Q => ∃ e F own, Rel K ca σ H e F own ∧
  PR (evt c cs e) (fun k e' => ∀ H' F' own', Rel K ca σ H' e' F' own' → Ext H F (Ow own) H' F' (Ow own') → Q k H') (QX K ca Wx σ H F (Ow own))
section
variable {X : Cx} {ca : Str → Option Addr} {Wx : Wish} {c : Ctx} {x y z tg : Expr} {a b d : ME} {pos : Pos}
theorem pts_weak {xs : List Expr} {t t' : TT} (h : PTs X xs t) (w : ∀ σ H Q, t' σ H Q → t σ H Q) : PTs X xs t' := ⟨fun pins s σ H Q I q => h.run pins s σ H Q I (w σ H Q q)⟩
theorem c_nil : PTs X [] (tTs X.K ca Wx c []) := pts_weak pts_nil fun σ H Q ⟨e, F, own, R, P⟩ => P H F own R .refl
theorem c_one (h : PT X x (tIt X.K ca Wx c a)) : PTs X [x] (tTs X.K ca Wx c [a]) := pts_weak (pts_one h) fun σ H Q ⟨e, F, own, R, P⟩ => ⟨e, F, own, R, by
  have P : PR ((ev c a e).bind fun v e1 => match (see e1 v).bind truD with
    | some true => .ok true e1
    | some false => .ok false e1
    | none => .no) _ _ := P
  exact (PR.bind P).mono (fun v e1 P => by
    cases h : (see e1 v).bind truD with
    | none => rw [h] at P; exact P.elim
    | some k =>
      rw [h] at P
      refine ⟨k, rfl, ?_⟩
      cases k <;> exact P) fun _ _ q => q⟩
/-- a turn of a comprehension -/
def lcStep (c : Ctx) (elt : ME) (t : Tgt) (cs : List ME) (own : List Nat) : D → Env → Res (Option D) := fun x e2 => match asg c t (.d x) e2 with
  | some e3 => (evt c cs e3).bind fun k e4 => if k = true then (ev c elt e4).bind fun v e5 => match take e5 v with
      | some (y, e6) => .ok (some y) (wipeE e6 own)
      | none => .no
    else .ok none (wipeE e4 own)
  | none => .no
theorem noEx_bind {α : Type} {r : Res α} {kx : Ex → Env → Prop} {f : α → Env → Res Val} {k' : Val → Env → Prop} (h : PR ((noEx r).bind f) k' kx) : ∃ a e, r = .ok a e ∧ PR (f a e) k' kx := by
  cases r with
  | ok a e => exact ⟨a, e, rfl, h⟩
  | ex _ _ => exact h.elim
  | no => exact h.elim
theorem bind_ok {α β : Type} {r : Res α} {f : α → Env → Res β} {b : β} {e : Env} (h : r.bind f = .ok b e) : ∃ a e1, r = .ok a e1 ∧ f a e1 = .ok b e := by
  cases r with
  | ok a e => exact ⟨a, e, rfl, h⟩
  | ex _ _ => cases h
  | no => cases h
theorem wipe_only {is js : List Nat} {σ σ' : L2.St} (h : Only js (wipe σ is) σ') (s : ∀ j ∈ js, j ∈ is) : wipe σ' is = wipe σ is := by
  have get : ∀ {is : List Nat} {σ : L2.St} {j : Nat}, (wipe σ is)[j]? = if j ∈ is ∧ j < σ.length then some none else σ[j]? := fun {is} => by
    induction is with
    | nil => intro σ j; simp [wipe]
    | cons i r ih =>
      intro σ j
      unfold wipe
      rw [List.getElem?_set, wipe_length, ih]
      by_cases h1 : i = j
      · subst h1
        by_cases h2 : i < σ.length
        · simp [h2]
        · simp [h2, List.getElem?_eq_none (Nat.le_of_not_lt h2)]
      · simp [h1, Ne.symm h1]
  apply List.ext_getElem?
  intro j
  have hl : σ'.length = σ.length := by rw [h.1, wipe_length]
  rw [get, get, hl]
  by_cases q : j ∈ is
  · by_cases l : j < σ.length
    · simp [q, l]
    · simp [l, List.getElem?_eq_none (Nat.le_of_not_lt l), List.getElem?_eq_none (Nat.le_of_not_lt (hl ▸ l : ¬ j < σ'.length))]
  · have := h.2 j fun z => q (s j z)
    rw [get] at this
    simp only [q, false_and, if_false] at this ⊢
    exact this
theorem lc_w {K : PySem.W.Frag} {it : MI} {t : Tgt} {cs : List ME} {el : ME} {is : List Nat} (htx : ∀ j ∈ tix t, j ∈ is) {σ : L2.St} {H : Hp} {Q : VK} (h : tI K ca Wx c (.lc el t it cs is) σ H Q) :
    tLc (tW K ca Wx c it) (tG K ca c t) (tTs K ca WxF c cs) (tI K ca WxF c el) is σ H Q := by
    obtain ⟨e, F, own, R, P⟩ := h
    refine ⟨e, F, own, R, (PR.bind P).mono (fun xs e1 P J H1 F1 own1 R1 E1 w D hD => ?_) fun _ _ q => q⟩
    split at P
    · rename_i hfree
      obtain ⟨ys, eE, hlp, P⟩ := noEx_bind P
      change lcLoop (lcStep c el t cs is) xs [] (wipeE e1 is) = .ok ys eE at hlp
      have nFD : ¬ F1 D := fun f => R1.al D f hD
      have nWD : ¬ Ow own1 D := fun f => (R1.wok D f).2.some hD
      have Rw := (R1.alloc (p := D) (o := .lst []) hD).wipes (is := is)
      refine ⟨fun i m H2 => m = xs.length - i ∧ i ≤ xs.length ∧ ∃ e2 F2 own2 acc us, Rel K ca (wipe σ is) H2 e2 F2 own2 ∧ H2 D = some (.lst us) ∧ Dens K H2 F2 us acc ∧ ¬ F2 D ∧ ¬ Ow own2 D ∧ Ext H1 F1 (Ow own1) H2 F2 (Ow own2) ∧
        lcLoop (lcStep c el t cs is) (xs.drop i) acc e2 = .ok ys eE, ⟨xs.length, by simp, Nat.zero_le _, wipeE e1 is, F1, _, [], [], Rw, upd_same, .nil, nFD, fun z => nWD (Ow.sub D z),
          (Ext.alloc hD).widen (fun _ z => z) fun a z => .inl (Ow.sub a z), by rw [List.drop_zero]; exact hlp⟩, ?_⟩
      rintro i m H2 ⟨rfl, hi, e2, F2, own2, acc, us, R2, hD2, d2, nF2, nW2, E2, l2⟩
      by_cases hlt : i < xs.length
      · rw [List.drop_eq_getElem_cons hlt] at l2
        obtain ⟨o, e6, hst, l3⟩ := bind_ok l2
        refine .inr ⟨w.go i H2 F2 _ E2 hlt, fun H' => ∃ e2 F2 own2 acc us, Rel K ca (wipe σ is) H' e2 F2 own2 ∧ H' D = some (.lst us) ∧ Dens K H' F2 us acc ∧ ¬ F2 D ∧ ¬ Ow own2 D ∧ Ext H1 F1 (Ow own1) H' F2 (Ow own2) ∧
          lcLoop (lcStep c el t cs is) (xs.drop (i + 1)) acc e2 = .ok ys eE, fun H' q => ⟨xs.length - (i + 1), by omega, rfl, hlt, q⟩, fun v H3 y => ?_⟩
        obtain ⟨dv, hh⟩ := w.yld i _ v H2 F2 _ H3 E2 (List.getElem?_eq_getElem hlt) y
        obtain ⟨R3, E3⟩ := R2.step hh
        have hst : (match asg c t (.d xs[i]) e2 with
          | some e3 => (evt c cs e3).bind fun k e4 => if k = true then (ev c el e4).bind fun v e5 => match take e5 v with
              | some (y, e6) => .ok (some y) (wipeE e6 is)
              | none => .no
            else .ok none (wipeE e4 is)
          | none => Res.no) = .ok o e6 := hst
        cases ha : asg c t (.d xs[i]) e2 with
        | none => rw [ha] at hst; cases hst
        | some e3 =>
          rw [ha] at hst
          obtain ⟨k, e4, hk, hst⟩ := bind_ok hst
          refine ⟨.d xs[i], e2, F2, own2, [], e3, R3, .d dv, .nil, fun a m => (by cases m), ha, fun σ4 own4 p4 s4 R4 o4 => ?_⟩
          have hw := wipe_only s4 htx
          refine ⟨hw, e3, F2, own4, R4, ?_⟩
          have E4 : Ext H2 F2 (Ow own2) H3 F2 (Ow own4) := E3.trans (Ext.same fun a z => (o4 a z).imp id fun m => by cases m)
          rw [hk]
          intro H5 F5 own5 R5 E5
          have E25 := E4.trans E5
          have kD : ∀ {H' F' own'}, Ext H2 F2 (Ow own2) H' F' (Ow own') → H' D = some (.lst us) ∧ ¬ F' D ∧ ¬ Ow own' D := fun {H' F' own'} E => ⟨E.keep _ _ hD2 nW2, fun f => (E.fr' D f).elim nF2 fun z => z.elim nW2 fun z => (by rw [hD2] at z; cases z),
            fun z => (E.own D z).elim nW2 fun z => by rw [hD2] at z; cases z⟩
          cases k with
          | false =>
            refine Eq.mpr (if_neg Bool.false_ne_true) ?_
            cases hst
            obtain ⟨q1, q2, q3⟩ := kD E25
            have Rz := R5.wipes (is := is)
            rw [hw] at Rz
            exact ⟨wipeE e4 is, F5, _, acc, us, Rz, q1, d2.ext E25 R2.wok, q2, fun z => q3 (Ow.sub D z), (E2.trans E25).trans (Ext.same fun a z => .inl (Ow.sub a z)), l3⟩
          | true =>
            refine Eq.mpr (if_pos rfl) ?_
            obtain ⟨vv, e5, hv, hst⟩ := bind_ok (show (ev c el e4).bind _ = .ok o e6 from hst)
            refine ⟨e4, F5, own5, R5, ?_⟩
            rw [hv]
            intro u H6 F6 own6 fp R6 V6 N6 E6
            have hst : (match take e5 vv with
              | some (y, e6) => Res.ok (some y) (wipeE e6 is)
              | none => Res.no) = .ok o e6 := hst
            cases htk : take e5 vv with
            | none => rw [htk] at hst; cases hst
            | some q =>
              obtain ⟨yy, e7⟩ := q
              rw [htk] at hst
              cases hst
              obtain ⟨F7, own7, R7, D7, E7⟩ := V6.take R6 htk
              have E27 := (E25.trans (E6.addT N6)).trans E7
              obtain ⟨q1, q2, q3⟩ := kD E27
              have l3 : (if acc.length < lineN then lcLoop (lcStep c el t cs is) (xs.drop (i + 1)) (acc ++ [yy]) (wipeE e7 is) else Res.no) = .ok ys eE := l3
              split at l3
              · rename_i hlen
                have dd := d2.ext E27 R2.wok
                have Rz := R7.wipes (is := is)
                rw [hw] at Rz
                have q3' : ¬ Ow (fun j => if j ∈ is then [] else own7 j) D := fun z => q3 (Ow.sub D z)
                obtain ⟨Rq, dq⟩ := Rz.updD (vs := us ++ [u]) q1 q2 q3'
                refine ⟨us, q1, by rw [d2.len]; exact hlen, wipeE e7 is, F7, _, acc ++ [yy], us ++ [u], Rq, upd_same, dq (dd.app (.cons D7 .nil)), q2, q3', ?_, l3⟩
                exact ((E2.trans E27).trans (Ext.same fun a z => .inl (Ow.sub a z))).updNew hD
              · cases l3
      · have hi' : i = xs.length := by omega
        subst hi'
        rw [List.drop_length] at l2
        cases l2
        refine .inl ⟨w.stop _ H2 F2 _ E2 (Nat.le_refl _), ?_⟩
        have hf : ∀ i ∈ is, own1 i = [] := fun i m => by
          have q := List.all_eq_true.mp hfree i m
          unfold lcFree at q
          cases h : getS e1 i with
          | none => exact R1.non i h
          | some v =>
            rw [h] at q
            obtain ⟨u, _, r⟩ := R1.slot i v h
            exact r.free (by simpa using (Bool.and_eq_true_iff.mp q).2)
        have Rb := R1.unwipe E2 R2 hf
        have nb : ¬ Ow (fun j => if j ∈ is then [] else own2 j) D := fun z => nW2 (Ow.sub D z)
        refine (show QV K ca σ H F (Ow own) Q (.ol (ys.map .d)) (backE e1 eE is) from P) (.ref D) H2 F2 _ [D] Rb (.val (.ol hD2 d2.vrs) (by simp) fun a m => ?_) (fun a m => ?_) (E1.trans (E2.trans (Ext.same fun a z => .inl (Ow.sub a z))))
        · rw [List.mem_singleton.mp m]; exact ⟨nF2, nb⟩
        · rw [List.mem_singleton.mp m]; exact .inr (E1.live D hD)
    · exact P.elim
theorem e_lc {elt iter : Expr} {ifs : List Expr} {scope : Scope} {ow : List (Str × Nat)} {it : MI} {t : Tgt} {cs : List ME} {el : ME} (htx : ∀ j ∈ tix t, j ∈ ow.map (·.2)) (hc : X.calm = true) (hN : X.N.Nodup) (hi : PI X tg iter (tW X.K ca Wx c it)) (ok : BlkOk X.N X.env.scope scope ow)
    (hg : ∀ (s : Shared) (H : Hp) (C : Addr) (cl : List (Str × Addr)) (fp : List Addr), PG (X.blk s H scope (compEnvC scope cl C X.env) fp) tg (tG X.K ca c t))
    (ht : ∀ (s : Shared) (H : Hp) (C : Addr) (cl : List (Str × Addr)) (fp : List Addr), PTs (X.blk s H scope (compEnvC scope cl C X.env) fp) ifs (tTs X.K ca WxF c cs))
    (he : ∀ (s : Shared) (H : Hp) (C : Addr) (cl : List (Str × Addr)) (fp : List Addr), PE (X.blk s H scope (compEnvC scope cl C X.env) fp) elt (tI X.K ca WxF c el)) (hs : ∀ x, foldedSetIterable iter X.env x = pure x) :
    PE X (.ListComp elt [⟨tg, iter, ifs, 0⟩] scope pos) (tI X.K ca Wx c (.lc el t it cs (ow.map (·.2)))) :=
  (pe_lc hc hN hi ok hg ht he hs).weak fun σ H Q h => lc_w htx h
/-- name = [..], the name a local told on the same line -/
theorem s_setLc {i : Nat} {y : Str} {py spos : Pos} {elt iter : Expr} {ifs : List Expr} {scope : Scope} {ow : List (Str × Nat)} {it : MI} {t : Tgt} {cs : List ME} {el : ME} (htx : ∀ j ∈ tix t, j ∈ ow.map (·.2)) (hc : X.calm = true) (hN : X.N.Nodup) (hy : X.N[i]? = some y) (hyl : X.env.scope.names.lookup y = some .local)
    (hsw : swapsWith (.ListComp elt [⟨tg, iter, ifs, 0⟩] scope pos) (some (.Name y py)) spos.line X.env = pure true) (hi : PI X tg iter (tW X.K ca Wx c it)) (ok : BlkOk X.N X.env.scope scope ow)
    (hg : ∀ (s : Shared) (H : Hp) (C : Addr) (cl : List (Str × Addr)) (fp : List Addr), PG (X.blk s H scope (compEnvC scope cl C X.env) fp) tg (tG X.K ca c t))
    (ht : ∀ (s : Shared) (H : Hp) (C : Addr) (cl : List (Str × Addr)) (fp : List Addr), PTs (X.blk s H scope (compEnvC scope cl C X.env) fp) ifs (tTs X.K ca WxF c cs))
    (he : ∀ (s : Shared) (H : Hp) (C : Addr) (cl : List (Str × Addr)) (fp : List Addr), PE (X.blk s H scope (compEnvC scope cl C X.env) fp) elt (tI X.K ca WxF c el)) (hs : ∀ x, foldedSetIterable iter X.env x = pure x) :
    PS X (.Assign [.Name y py] (.ListComp elt [⟨tg, iter, ifs, 0⟩] scope pos) spos) (tM X.K ca Wx c (.set (.nm i) (.lc el t it cs (ow.map (·.2))))) :=
  (ps_setLc hc hN hy hyl hsw hi ok hg ht he hs).weak fun D σ H h => by
    obtain ⟨e, F, own, R, P⟩ := set_w h
    exact lc_w htx ⟨e, F, own, R, P.mono (fun v e' q u H' F' own' fp R' V' N' E' => nm_w (q u H' F' own' fp R' V' N' E')) fun _ _ q => q⟩
end
end PM
end

section
set_option Elab.async false
set_option linter.all false
set_option maxRecDepth 100000
set_option maxHeartbeats 3200000
/-! PMSet: set(xs) of a list or tuple of texts, any number of them below 1000. -/
namespace PM
open PySem PySem.Spec PyProof.Rows L2
theorem mem_addS {acc : List Str} {x k : Str} : k ∈ addS acc x ↔ k ∈ acc ∨ k = x := by
  unfold addS
  split
  · rename_i h
    exact ⟨.inl, fun z => z.elim id fun e => e ▸ h⟩
  · simp
theorem ded_take {xs : List Str} {i : Nat} (h : i < xs.length) : dedS (xs.take (i + 1)) = addS (dedS (xs.take i)) (xs.getD i Str.empty) := by
  unfold dedS
  rw [List.take_add_one, List.getElem?_eq_getElem h, Option.toList_some, List.foldl_append, List.getD_eq_getElem?_getD, List.getElem?_eq_getElem h]
  rfl
theorem ded_len (xs : List Str) : (dedS xs).length ≤ xs.length := by
  have : ∀ (xs acc : List Str), (xs.foldl addS acc).length ≤ acc.length + xs.length := fun xs => by
    induction xs with
    | nil => intro acc; simp
    | cons x r ih =>
      intro acc
      refine Nat.le_trans (ih (addS acc x)) ?_
      unfold addS
      split <;> simp <;> omega
  simpa [dedS] using this xs []
section
variable {prog : Program} {w : World} {A : Around} {R : Result → Shared → Prop} {I : Addr} {fp wr : List Addr} {G : Array GenState → Array GenState → Prop} {n : Nat} {P : Nat → Value → Prop} {St : Nat → Shared → Prop}
abbrev TxAt (prog : Program) (w : World) (h : Heap) (S : Addr) (l : List Str) : Prop := h.SetOf (PySem.strKind prog w) S (fun k => decide (k ∈ l)) l.length
theorem TxAt.keep {h h' : Heap} {S : Addr} {l : List Str} (x : TxAt prog w h S l) (k : ∀ o, h.get? S = some o → h'.get? S = some o) : TxAt prog w h' S l := by
  obtain ⟨o, es, ep, t, ho, rest⟩ := x
  exact ⟨o, es, ep, t, k o ho, rest⟩
theorem fill_loop (W : WalksS prog w A.in1 I fp wr G n P St) (S : Addr) (hSf : S ∉ fp) (xs : List Str) (hsz : xs.length = n) (hn : n < 1000) (hval : ∀ i v, P i v → ∃ t, v = .str (xs.getD i Str.empty) t) :
    ∀ (k i : Nat) (s : Shared), n - i = k → i ≤ n → St i s → TxAt prog w s.heap S (dedS (xs.take i)) → (∀ s', Moved (S :: wr) G s s' → TxAt prog w s'.heap S (dedS xs) → R (.ok (.ret .none)) s') →
      codeAny (model prog w) A (.builtin "set.update.loop" ⟨[.ref S, .ref I], []⟩) R s := by
  have out : S ∉ wr := fun h => hSf (W.sub _ h)
  have more : ∀ b ∈ wr, b ∈ S :: wr := fun b hb => List.mem_cons_of_mem _ hb
  intro k
  induction k with
  | zero =>
    intro i s hk hi st x hR
    obtain rfl : i = n := by omega
    refine codeAny_builtin F.entry_set_update_loop ?_
    rw [Around.under_plainId F.plain_set_update_loop _]
    show wpAny _ A.in1 (pyNext (.ref I) >>= _) _ _ s
    refine wpAny_bind (W.done s _ _ st fun s' hm => wpAny_pure (hR s' (hm.mono more) ?_))
    rw [List.take_of_length_le (by omega)] at x
    exact x.keep fun o e => hm.heap S o out e
  | succ k ih =>
    intro i s hk hi st x hR
    have hlt : i < n := by omega
    refine codeAny_builtin F.entry_set_update_loop ?_
    rw [Around.under_plainId F.plain_set_update_loop _]
    show wpAny _ A.in1 (pyNext (.ref I) >>= _) _ _ s
    refine wpAny_bind (W.item i s _ _ hlt st fun v s' hP st' hm => ?_)
    obtain ⟨t, rfl⟩ := hval i v hP
    have x' : TxAt prog w s'.heap S (dedS (xs.take i)) := x.keep fun o e => hm.heap S o out e
    show wpAny _ A.in1 (holding [Value.str (xs.getD i Str.empty) t] (setAdd S (.str (xs.getD i Str.empty) t)) >>= _) _ _ s'
    refine wpAny_bind (wpAny_holding ?_)
    unfold setAdd
    refine wpAny_holding (wpAny_bind ((PySem.strKind prog w).pyHash (k := xs.getD i Str.empty) (strKind_is _ _ _ _) ?_))
    have few : (dedS (xs.take i)).length ≤ i := Nat.le_trans (ded_len _) (by simp; omega)
    refine wpAny_setAddHashed_of (knd := PySem.strKind prog w) (s := { s' with toks := s'.toks + 1 }) (strKind_is _ _ _ _) rfl x' (by unfold scanBound; omega) fun h' sb x2 => ?_
    have x3 : TxAt prog w h' S (dedS (xs.take (i + 1))) := by
      rw [ded_take (by omega)]
      refine SetOf_congr x2 (fun k' => ?_) ?_
      · simp only [mem_addS, Bool.decide_or]
      · unfold addS
        by_cases q : xs.getD i Str.empty ∈ dedS (xs.take i)
        · rw [if_pos q, if_pos (by simpa using q)]
        · rw [if_neg q, if_neg (by simpa using q), List.length_append, List.length_singleton]
    refine wpAny_pure ⟨plainId_quiet F.plain_set_update_loop _, ih (i + 1) _ (by omega) hlt (W.frame _ s' _ _ st' (Nat.le_succ _) fun b hb o e => ?_) x3 fun s'' hm'' x'' => ?_⟩
    · rw [sb.2 b (fun z : b = S => hSf (z ▸ hb))]; exact e
    · refine hR s'' (Moved.trans W.gtrans ((hm.mono more).then_heap (Nat.le_succ _) fun b o hb e => ?_) hm'') x''
      rw [sb.2 b (fun z : b = S => hb (z ▸ List.mem_cons_self))]; exact e
end
section
variable {prog : Program} {w : World} {A : Around} {E : Value → Shared → Prop} {s : Shared}
/-- an iterator over the texts xs comes -/
def Comes (prog : Program) (w : World) (A : Around) (h : Heap) (l : Addr) (xs : List Str) : Prop := ∀ (s₁ : Shared) (R : Value → Shared → Prop) (E' : Value → Shared → Prop), (∀ b o, h.get? b = some o → s₁.heap.get? b = some o) →
  (∀ (I : Addr) (P : Nat → Value → Prop) (St : Nat → Heap → Prop) (h2 : Heap), Walks prog w A.in1 I [I, l] [I] xs.length P St → St 0 h2 → (∀ i v, P i v → ∃ t, v = .str (xs.getD i Str.empty) t) → (∀ b o, s₁.heap.get? b = some o → h2.get? b = some o) → s₁.heap.objs.size ≤ I → R (.ref I) { s₁ with heap := h2 }) →
  wpAny (model prog w) A (pyIter (.ref l)) R E' s₁
theorem set_tail {l : Addr} {xs : List Str} {h0 : Heap} {led : Bool} {g : Fin → Shared → Prop} {E₁ E₂ : Value → Shared → Prop} (hn : xs.length < 1000) (hls : l < s.heap.objs.size) (walk : Comes prog w A s.heap l xs)
    (hS : h0.get? s.heap.objs.size = some { cls := .type "set", dict := none, data := .set #[] 0 (.fresh 0 0 led) }) (k0 : ∀ b o, s.heap.get? b = some o → h0.get? b = some o)
    (fin : ∀ h' tk, TxAt prog w h' s.heap.objs.size (dedS xs) → (∀ b o, s.heap.get? b = some o → h'.get? b = some o) → g (.done (.ret .none)) { s with heap := h', toks := tk }) :
    wpAny (model prog w) A (pyIter (.ref l)) (fun a s' => wpAny (model prog w) A (do let _ ← runValue (Code.builtin "set.update.loop" { pos := [Value.ref s.heap.objs.size, a] }); pure ()) (fun _ s' => wpAny (model prog w) A (ret Value.none) g E₁ s') E₁ s') E₂ { s with heap := h0 } := by
  have z0 : s.heap.objs.size < h0.objs.size := Heap.lt_size hS
  refine walk _ _ _ k0 fun I P St h2 W st hv k2 hI => ?_
  have hI : h0.objs.size ≤ I := hI
  refine wpAny_bind (wpAny_runValue ?_)
  have hSf : s.heap.objs.size ∉ [I, l] := by
    simp only [List.mem_cons, List.not_mem_nil, or_false, not_or]
    exact ⟨Nat.ne_of_lt (Nat.lt_of_lt_of_le z0 hI), Nat.ne_of_gt hls⟩
  refine fill_loop W.toS s.heap.objs.size hSf xs rfl hn hv (xs.length - 0) 0 _ (by omega) (Nat.zero_le _) st ?_ fun s' hm x => ?_
  · have e : h2.get? s.heap.objs.size = some { cls := .type "set", dict := none, data := .set #[] 0 (.fresh 0 0 led) } := k2 _ _ hS
    exact SetOf_congr ((PyProof.Rows.setObjOf_fresh (knd := PySem.strKind prog w) led).setOf e (by unfold scanBound; omega)) (fun _ => by simp [dedS]) rfl
  · obtain ⟨h', g', d', tk', os'⟩ := s'
    have eg : g' = s.gens := hm.gens
    have ed : d' = s.drawn := hm.drawn
    have eo : os' = s.os := hm.os
    subst eg ed eo
    show wpAny _ _ _ _ _ _
    refine wpAny_pure ?_
    show wpAny _ _ (ret Value.none) _ _ _
    refine wpAny_pure (fin h' tk' x fun b o e => hm.heap b o ?_ (k2 _ _ (k0 _ _ e)))
    have hb := Heap.lt_size e
    simp only [List.mem_cons, List.not_mem_nil, or_false, not_or]
    exact ⟨Nat.ne_of_lt hb, Nat.ne_of_lt (Nat.lt_trans hb (Nat.lt_of_lt_of_le z0 hI))⟩
/-- set(xs): how its texts are walked is left open -/
theorem set_core {T : String} {l : Addr} {ol : Obj} {xs : List Str} {Q : Value → Shared → Prop} (hol : s.heap.get? l = some ol) (hcl : ol.cls = .type T) (hsls : isSubtype (.type T) (.type "set") = pure false) (hslf : isSubtype (.type T) (.type "frozenset") = pure false)
    (hne : (Value.type T == Value.type "dict") = false) (hn : xs.length < 1000) (walk : Comes prog w A.in1.in1 s.heap l xs)
    (h : ∀ (h' : Heap) (tk : Nat), TxAt prog w h' s.heap.objs.size (dedS xs) → (∀ b o, s.heap.get? b = some o → h'.get? b = some o) → Q (.ref s.heap.objs.size) { s with heap := h', toks := tk }) :
    wpAny (model prog w) A (call (.type "set") [.ref l]) Q E s := by
  obtain ⟨c, tl, hmro⟩ := F.called_set.mro
  have hmade := F.called_set.made
  have hsub := F.called_set.sub
  refine wpAny_call (codeAny_of_tree ?_)
  show wpAny _ _ (callAny (.type "set") _) _ _ _
  refine wpAny_pure ⟨Code.quiet_builtin _ (by decide +kernel), codeAny_builtin F.entry_type_call ?_⟩
  rw [Around.under_plain (weight_type_call_type "set" [.ref l] []) rfl]
  have h1 := F.called_set.notType
  have h2 := F.called_set.canCreate
  have hct := F.typeCall_set_1 (.ref l)
  repeat (any_goals (first | assumption | wp_step))
  refine codeAny_mono (code_set_new_1 (.ref l) (E := E) (Q₁ := fun obj s₁ => ∃ led : Bool, obj = .ref s.heap.objs.size ∧ s₁ = { s with heap := s.heap.push { cls := .type "set", dict := none, data := .set #[] 0 (.fresh 0 0 led) } }) fun led => ⟨led, rfl, rfl⟩) fun r s₁ hr => ?_
  cases r with
  | error e => exact hr
  | ok fl =>
    cases fl with
    | ret obj =>
      obtain ⟨led, rfl, rfl⟩ := hr
      generalize hh0 : s.heap.push { cls := .type "set", dict := none, data := .set #[] 0 (.fresh 0 0 led) } = h0
      have hS : h0.get? s.heap.objs.size = some { cls := .type "set", dict := none, data := .set #[] 0 (.fresh 0 0 led) } := by rw [← hh0]; exact Heap.get?_push_size _ rfl
      have k0 : ∀ b o, s.heap.get? b = some o → h0.get? b = some o := fun b o e => by rw [← hh0]; exact Heap.get?_push_of_some _ e
      have z0 : s.heap.objs.size < h0.objs.size := by rw [← hh0, Heap.size_push]; exact Nat.lt_succ_self _
      have hT : Shared.TypeIs { s with heap := h0 } (.ref s.heap.objs.size) "set" := ⟨_, hS, rfl⟩
      have hTl : Shared.TypeIs { s with heap := h0 } (.ref l) T := ⟨_, k0 _ _ hol, hcl⟩
      have hli := F.called_set.init.lookup
      have hbi := F.called_set.init.bind (.ref s.heap.objs.size)
      repeat (any_goals (first | assumption | wp_step))
      refine codeAny_mono (codeAny_call_builtin (R := wants (fun r s₂ => r = .none ∧ ∃ h' tk, s₂ = { s with heap := h', toks := tk } ∧ TxAt prog w h' s.heap.objs.size (dedS xs) ∧ (∀ b o, s.heap.get? b = some o → h'.get? b = some o)) E) F.called_set.init.plain F.entry_set_init (check_set_init_1 hT ?_)) fun r₂ s₂ hr₂ => ?_
      · unfold Builtin.«set.__init__» noKeywords Builtin.Frozenset.updateFrom
        generalize hPI : pyIter = PI
        wp_walk
        subst hPI
        exact set_tail hn (Heap.lt_size hol) walk hS k0 fun h' tk x k => ⟨rfl, h', tk, rfl, x, k⟩
      · cases r₂ with
        | error e => exact hr₂
        | ok fl₂ =>
          cases fl₂ with
          | ret r =>
            obtain ⟨rfl, h', tk, rfl, hS', hk'⟩ := hr₂
            repeat (any_goals (first | assumption | wp_step))
            exact h _ _ hS' hk'
          | _ => exact hr₂.elim
    | _ => exact hr.elim
theorem comes_list {l : Addr} {items : Array Value} {xs : List Str} {h : Heap} (hh : A.in1.handled = none) (hl : h.IsList l items) (hi : StrsAre items.toList xs) : Comes prog w A h l xs := fun s₁ R E' k hR => by
  have hl1 : s₁.heap.IsList l items := hl.at fun o e => k _ _ e
  have hlt : l < s₁.heap.objs.size := by obtain ⟨o, e, _⟩ := hl1; exact Heap.lt_size e
  have hsz : items.size = xs.length := by rw [← Array.length_toList, StrsAre.len_eq hi]
  refine wpAny_pyIter_list hl1 ?_
  have W := Walks.list (prog := prog) (w := w) hh s₁.heap.objs.size l (Nat.ne_of_lt hlt) items
  rw [hsz] at W
  exact hR s₁.heap.objs.size _ _ _ W ⟨⟨_, Heap.get?_push_size _ rfl, rfl, rfl⟩, hl1.push _⟩ (fun i v hv => SS.strs_at hi i v (by rw [Array.getElem?_toList]; exact hv)) (fun b o e => Heap.get?_push_of_some _ e) (Nat.le_refl _)
theorem comes_tuple {l : Addr} {items : Array Value} {xs : List Str} {h : Heap} (hh : A.in1.handled = none) (hl : h.IsTuple l items) (hi : StrsAre items.toList xs) : Comes prog w A h l xs := fun s₁ R E' k hR => by
  have hl1 : s₁.heap.IsTuple l items := hl.at fun o e => k _ _ e
  have hlt : l < s₁.heap.objs.size := by obtain ⟨o, e, _⟩ := hl1; exact Heap.lt_size e
  have hsz : items.size = xs.length := by rw [← Array.length_toList, StrsAre.len_eq hi]
  refine wpAny_pyIter_tuple hl1 ?_
  have W := Walks.tuple (prog := prog) (w := w) hh s₁.heap.objs.size l (Nat.ne_of_lt hlt) items
  rw [hsz] at W
  exact hR s₁.heap.objs.size _ _ _ W ⟨⟨_, Heap.get?_push_size _ rfl, rfl, rfl⟩, hl1.push _⟩ (fun i v hv => SS.strs_at hi i v (by rw [Array.getElem?_toList]; exact hv)) (fun b o e => Heap.get?_push_of_some _ e) (Nat.le_refl _)
end
section
variable {X : Cx}
def tLenS (K : PySem.W.Frag) (ta : TE) : TE := fun σ H Q => ta σ H fun x H1 => ∃ l, ∃ xs : List Str, x = .ref l ∧ (SqL K H1 l (xs.map V.str) ∨ SqT K H1 l (xs.map V.str)) ∧ xs.length < 1000 ∧ Q (.int (dedS xs).length) H1
/-- len(set(xs)) of texts -/
theorem pe_lenS {a : Expr} {ta : TE} {p p2 q pos : Pos} (hc : X.calm = true) (hg : Gl X "len") (hm : X.mg "len" = none) (hg2 : Gl X "set") (hm2 : X.mg "set" = none) (ha : PE X a ta)
    (na : starEach [a] X.env = (false, eval a X.env) :: starEach [] X.env) : PE X (.Call (.Name "len" p) [.Call (.Name "set" p2) [a] [] q] [] pos) (tLenS X.K ta) := by
  refine ⟨fun pins s σ H Q I h => ?_⟩
  refine Call_ (ld_blt I hg hm boot_len ?_)
  refine PyProof.Rows.callWith_builtin1 (PyProof.Rows.args_cons ?_ rfl) rfl rfl
  refine Call_ (ld_blt I hg2 hm2 boot_set ?_)
  refine PyProof.Rows.callWith_type1 (PyProof.Rows.args_cons (thn (ha.run pins s σ H _ I h) fun v s1 ⟨x, H1, I1, r1, q1⟩ => PyProof.Rows.args_nil ?_) na) na rfl
  obtain ⟨l, xs, rfl, hq, hz, q1⟩ := q1
  cases r1
  have hh : X.A.in1.in1.in1.handled = none := by simp [I1.ok.hd hc]
  have fin : ∀ (h' : Heap) (tk : Nat), TxAt X.prog X.w h' s1.heap.objs.size (dedS xs) → (∀ b o, s1.heap.get? b = some o → h'.get? b = some o) →
      wpAny (model X.prog X.w) X.A (spliced (backTo pos (starEach [] X.env))) (fun vs s₂ => wpAny (model X.prog X.w) X.A (call (.builtin "len") (Value.ref s1.heap.objs.size :: vs)) (EP X pins σ Q) X.xe s₂) X.xe { s1 with heap := h', toks := tk } := fun h' tk x hk => by
    refine PyProof.Rows.args_nil ?_
    obtain ⟨o, es, ep, t, ho, hex, hd, _, _, _, hf, hn⟩ := x
    have I2 : Inv X pins σ H1 { s1 with heap := h', toks := tk } := I1.kept hk
    have few := ded_len xs
    refine call_len_set ho hex hd hf (by rw [hn]; omega) ⟨.int (dedS xs).length, H1, I2.tok _, ⟨_, by rw [hn]⟩, q1⟩
  rcases hq with hq | hq
  · obtain ⟨its, r, pl, _⟩ := I1.list hq
    obtain ⟨o, e, hcls, _⟩ := id pl.isList
    exact set_core e hcls F.sub_list_set F.sub_list_frozenset (by decide) hz (comes_list hh pl.isList (by simpa using strsAre_of r)) fin
  · obtain ⟨its, r, pl, _⟩ := I1.tuple hq
    obtain ⟨o, e, hcls, _⟩ := id (show s1.heap.IsTuple l its.toArray from pl)
    exact set_core e hcls F.sub_tuple_set F.sub_tuple_frozenset (by decide) hz (comes_tuple hh (show s1.heap.IsTuple l its.toArray from pl) (by simpa using strsAre_of r)) fin
end
end PM
end

section
set_option Elab.async false
set_option linter.all false
set_option maxRecDepth 100000
set_option maxHeartbeats 2000000
/-! PMBi: built-in functions by data; isinstance. -/
namespace PM
open PySem PySem.Spec PyProof.Rows L2
section
variable {K : PySem.W.Frag} {ca : Str → Option Addr} {σ : L2.St} {e : Env} {H H' : Hp} {F F' W W' : Fs} {own : Nat → List Addr}
inductive SeeFs (K : PySem.W.Frag) (H : Hp) (F : Fs) : List V → List D → Prop
  | nil : SeeFs K H F [] []
  | cons {u : V} {us : List V} {x : D} {xs : List D} : SeeF K H F u x → SeeFs K H F us xs → SeeFs K H F (u :: us) (x :: xs)
theorem RVs.seeFs (R : Rel K ca σ H e F own) : ∀ {vs : List Val} {us : List V} {fp : List Addr} {xs : List D}, RVs K ca σ H F W us vs fp → PM.sees e vs = some xs → SeeFs K H F us xs
  | [], us, fp, xs, h, s => by
    cases h
    cases s
    exact .nil
  | v :: vs, us, fp, xs, h, s => by
    cases h with
    | cons h r d =>
      unfold PM.sees at s
      cases h1 : PM.see e v with
      | none => rw [h1] at s; cases s
      | some x =>
        cases h2 : PM.sees e vs with
        | none => rw [h1, h2] at s; cases s
        | some ys =>
          rw [h1, h2] at s
          cases s
          exact .cons (h.seeF R h1) (RVs.seeFs R r h2)
theorem SeeF.items {u : V} {x : D} {xs : List D} (h : SeeF K H F u x) (e : PM.items x = some xs) : ∃ p us, u = .ref p ∧ (SqL K H p us ∨ SqT K H p us) ∧ Dens K H F us xs := by
  cases x with
  | list ds =>
    cases e
    obtain ⟨p, us, rfl, hp, d⟩ := h.list
    exact ⟨p, us, rfl, .inl (.inl hp), d⟩
  | tuple ds =>
    cases e
    obtain ⟨p, us, rfl, hp, d⟩ := h.tuple
    exact ⟨p, us, rfl, .inr hp, d⟩
  | _ => cases e
end
abbrev rB (K : PySem.W.Frag) (f : List D → Option Val) : List V → Hp → VK → Prop := fun us H Q => ∃ F ds v, SeeFs K H F us ds ∧ f ds = some v ∧ ∀ u H', Made K H F v u H' → Q u H'
theorem SeeFs.one {K : PySem.W.Frag} {H : Hp} {F : Fs} {us : List V} {x : D} (h : SeeFs K H F us [x]) : ∃ u, us = [u] ∧ SeeF K H F u x := by
  cases h with
  | cons h r => cases r; exact ⟨_, rfl, h⟩
theorem SeeFs.two {K : PySem.W.Frag} {H : Hp} {F : Fs} {us : List V} {x y : D} (h : SeeFs K H F us [x, y]) : ∃ u v, us = [u, v] ∧ SeeF K H F u x ∧ SeeF K H F v y := by
  cases h with
  | cons h r => cases r with | cons h' r => cases r; exact ⟨_, _, rfl, h, h'⟩
/-! ### what the functions tell, each once -/
theorem maxL_ok : ∀ {ns : List Int} {m : Int}, maxL ns = some m → m ∈ ns ∧ ∀ y ∈ ns, y ≤ m
  | [], m, h => by cases h
  | x :: r, m, h => by
    have key : ∀ (r : List Int) (x : Int), (r.foldl (fun a b => if a < b then b else a) x = x ∨ r.foldl (fun a b => if a < b then b else a) x ∈ r) ∧ x ≤ r.foldl (fun a b => if a < b then b else a) x ∧ ∀ y ∈ r, y ≤ r.foldl (fun a b => if a < b then b else a) x := fun r => by
      induction r with
      | nil => intro x; simp
      | cons z r ih =>
        intro x
        rw [List.foldl_cons]
        obtain ⟨h1, h2, h3⟩ := ih (if x < z then z else x)
        refine ⟨?_, ?_, fun y hy => ?_⟩
        · rcases h1 with h1 | h1
          · rw [h1]
            by_cases q : x < z
            · simp [q]
            · simp [q]
          · exact .inr (List.mem_cons_of_mem _ h1)
        · refine Int.le_trans ?_ h2
          split <;> omega
        · rcases List.mem_cons.mp hy with rfl | hy
          · refine Int.le_trans ?_ h2
            split <;> omega
          · exact h3 y hy
    cases h
    obtain ⟨h1, h2, h3⟩ := key r x
    exact ⟨h1.elim (fun q => by rw [q]; exact List.mem_cons_self) (List.mem_cons_of_mem _), fun y hy => (List.mem_cons.mp hy).elim (fun q => q ▸ h2) (h3 y)⟩
theorem minL_ok : ∀ {ns : List Int} {m : Int}, minL ns = some m → m ∈ ns ∧ ∀ y ∈ ns, m ≤ y
  | [], m, h => by cases h
  | x :: r, m, h => by
    have key : ∀ (r : List Int) (x : Int), (r.foldl (fun a b => if b < a then b else a) x = x ∨ r.foldl (fun a b => if b < a then b else a) x ∈ r) ∧ r.foldl (fun a b => if b < a then b else a) x ≤ x ∧ ∀ y ∈ r, r.foldl (fun a b => if b < a then b else a) x ≤ y := fun r => by
      induction r with
      | nil => intro x; simp
      | cons z r ih =>
        intro x
        rw [List.foldl_cons]
        obtain ⟨h1, h2, h3⟩ := ih (if z < x then z else x)
        refine ⟨?_, ?_, fun y hy => ?_⟩
        · rcases h1 with h1 | h1
          · rw [h1]
            by_cases q : z < x
            · simp [q]
            · simp [q]
          · exact .inr (List.mem_cons_of_mem _ h1)
        · refine Int.le_trans h2 ?_
          split <;> omega
        · rcases List.mem_cons.mp hy with rfl | hy
          · refine Int.le_trans h2 ?_
            split <;> omega
          · exact h3 y hy
    cases h
    obtain ⟨h1, h2, h3⟩ := key r x
    exact ⟨h1.elim (fun q => by rw [q]; exact List.mem_cons_self) (List.mem_cons_of_mem _), fun y hy => (List.mem_cons.mp hy).elim (fun q => q ▸ h2) (h3 y)⟩
theorem insI_perm (x : Int) : ∀ l : List Int, (insI x l).Perm (x :: l)
  | [] => .refl _
  | y :: r => by
    unfold insI
    split
    · exact .refl _
    · exact ((insI_perm x r).cons y).trans (.swap x y r)
theorem sortI_perm : ∀ l : List Int, (sortI l).Perm l
  | [] => .refl _
  | x :: r => (insI_perm x _).trans ((sortI_perm r).cons x)
theorem insI_pw (x : Int) : ∀ {l : List Int}, l.Pairwise (· ≤ ·) → (insI x l).Pairwise (· ≤ ·)
  | [], _ => by simp [insI]
  | y :: r, h => by
    unfold insI
    have h1 := List.pairwise_cons.mp h
    split
    · rename_i q
      refine List.pairwise_cons.mpr ⟨fun z hz => ?_, h⟩
      rcases List.mem_cons.mp hz with rfl | hz
      · exact q
      · exact Int.le_trans q (h1.1 z hz)
    · rename_i q
      refine List.pairwise_cons.mpr ⟨fun z hz => ?_, insI_pw x h1.2⟩
      rcases List.mem_cons.mp ((insI_perm x r).mem_iff.mp hz) with rfl | hz
      · omega
      · exact h1.1 z hz
theorem sortI_pw : ∀ l : List Int, (sortI l).Pairwise (· ≤ ·)
  | [] => .nil
  | x :: r => insI_pw x (sortI_pw r)
theorem perm_unique {α : Type} {le : α → α → Prop} (anti : ∀ a b, le a b → le b a → a = b) : ∀ {l m : List α}, l.Perm m → l.Pairwise le → m.Pairwise le → l = m
  | [], m, p, _, _ => by rw [List.nil_perm.mp p]
  | x :: l, [], p, _, _ => by have := p.length_eq; simp at this
  | x :: l, y :: m, p, h, g => by
    obtain ⟨h1, h2⟩ := List.pairwise_cons.mp h
    obtain ⟨g1, g2⟩ := List.pairwise_cons.mp g
    have e : x = y := by
      rcases List.mem_cons.mp (p.mem_iff.mp List.mem_cons_self) with e | hx
      · exact e
      · rcases List.mem_cons.mp (p.mem_iff.mpr List.mem_cons_self) with e | hy
        · exact e.symm
        · exact anti x y (h1 y hy) (g1 x hx)
    subst e
    rw [perm_unique anti (List.perm_cons x |>.mp p) h2 g2]
section
variable {X : Cx}
theorem crB_len : CallR X (.builtin "len") (rB X.K (biD .len)) := by
  intro pins s σ H xs us Q I r ⟨F, ds, v, hs, e, q⟩
  cases ds with
  | nil => cases e
  | cons a t =>
    cases t with
    | cons _ _ => cases a <;> cases e
    | nil =>
      obtain ⟨u, rfl, h⟩ := hs.one
      cases a with
      | str z =>
        have e : (if z.length ≤ lineN then some (Val.d (.int z.length)) else none) = some v := e
        split at e
        · rename_i hl
          cases e
          obtain rfl := h.str
          exact call_len pins s σ H _ us Q I r ⟨_, _, rfl, ⟨hl, rfl⟩, q _ _ (.here (.int _))⟩
        · cases e
      | list zs =>
        cases e
        obtain ⟨p, ws, rfl, hp, d⟩ := h.list
        exact call_len pins s σ H _ us Q I r ⟨_, _, rfl, .inl ⟨ws, .inl hp, rfl⟩, by rw [d.len]; exact q _ _ (.here (.int _))⟩
      | tuple zs =>
        cases e
        obtain ⟨p, ws, rfl, hp, d⟩ := h.tuple
        exact call_len pins s σ H _ us Q I r ⟨_, _, rfl, .inr ⟨ws, hp, rfl⟩, by rw [d.len]; exact q _ _ (.here (.int _))⟩
      | dict zs =>
        cases e
        obtain ⟨p, ws, rfl, hp, d⟩ := h.dict
        have l : ws.length = zs.length := by
          exact d.len
        obtain ⟨u, rfl, ru⟩ := vals1 r
        cases ru
        exact d_len I hp fun t s' I' => ⟨.int ws.length, H, I', ⟨t, rfl⟩, by rw [l]; exact q _ _ (.here (.int _))⟩
      | _ => cases e
theorem crB_all (hc : X.calm = true) : CallR X (.builtin "all") (rB X.K (biD .all)) := by
  intro pins s σ H xs us Q I r ⟨F, ds, v, hs, e, q⟩
  match ds, e with
  | [.list zs], e =>
    obtain ⟨u, rfl, h⟩ := hs.one
    obtain ⟨bs, hb, rfl⟩ := Option.map_eq_some_iff.mp (show (boolsD zs).map (fun bs => Val.d (.bool (bs.all id))) = some v from e)
    obtain ⟨p, ws, rfl, hp, d⟩ := h.list
    obtain rfl := d.bools hb
    exact cr_all hc pins s σ H _ us Q I r ⟨p, bs, rfl, .inl hp, q _ _ (.here (.bl _))⟩
theorem crB_any (hc : X.calm = true) : CallR X (.builtin "any") (rB X.K (biD .any)) := by
  intro pins s σ H xs us Q I r ⟨F, ds, v, hs, e, q⟩
  match ds, e with
  | [.list zs], e =>
    obtain ⟨u, rfl, h⟩ := hs.one
    obtain ⟨bs, hb, rfl⟩ := Option.map_eq_some_iff.mp (show (boolsD zs).map (fun bs => Val.d (.bool (bs.any id))) = some v from e)
    obtain ⟨p, ws, rfl, hp, d⟩ := h.list
    obtain rfl := d.bools hb
    exact cr_any hc pins s σ H _ us Q I r ⟨p, bs, rfl, .inl hp, q _ _ (.here (.bl _))⟩
theorem crB_sum (hc : X.calm = true) : CallR X (.builtin "sum") (rB X.K (biD .sum)) := by
  intro pins s σ H xs us Q I r ⟨F, ds, v, hs, e, q⟩
  match ds, e with
  | [.list zs], e =>
    obtain ⟨u, rfl, h⟩ := hs.one
    obtain ⟨bs, hb, rfl⟩ := Option.map_eq_some_iff.mp (show (intsD zs).map (fun ns => Val.d (.int ns.sum)) = some v from e)
    obtain ⟨p, ws, rfl, hp, d⟩ := h.list
    obtain rfl := d.ints hb
    exact cr_sum hc pins s σ H _ us Q I r ⟨p, bs, rfl, .inl hp, q _ _ (.here (.int _))⟩
theorem crB_max (hc : X.calm = true) : CallR X (.builtin "max") (rB X.K (biD .max)) := by
  intro pins s σ H xs us Q I r ⟨F, ds, v, hs, e, q⟩
  match ds, e with
  | [.list zs], e =>
    obtain ⟨u, rfl, h⟩ := hs.one
    obtain ⟨bs, hb, e⟩ := Option.bind_eq_some_iff.mp (show (intsD zs).bind (fun ns => (maxL ns).map fun m => Val.d (.int m)) = some v from e)
    obtain ⟨M, hM, rfl⟩ := Option.map_eq_some_iff.mp e
    obtain ⟨p, ws, rfl, hp, d⟩ := h.list
    obtain rfl := d.ints hb
    obtain ⟨m1, m2⟩ := maxL_ok hM
    refine cr_max hc pins s σ H _ us Q I r ⟨p, bs, rfl, .inl hp, List.length_pos_of_mem m1, fun m h1 h2 => ?_⟩
    obtain rfl : m = M := Int.le_antisymm (m2 m h1) (h2 M m1)
    exact q _ _ (.here (.int _))
  | [.int i, .int j], e =>
    cases e
    obtain ⟨u, w, rfl, h1, h2⟩ := hs.two
    obtain rfl := h1.int
    obtain rfl := h2.int
    exact call_max2 hc pins s σ H _ us Q I r ⟨i, j, rfl, q _ _ (.here (.int _))⟩
theorem crB_min (hc : X.calm = true) : CallR X (.builtin "min") (rB X.K (biD .min)) := by
  intro pins s σ H xs us Q I r ⟨F, ds, v, hs, e, q⟩
  match ds, e with
  | [.list zs], e =>
    obtain ⟨u, rfl, h⟩ := hs.one
    obtain ⟨bs, hb, e⟩ := Option.bind_eq_some_iff.mp (show (intsD zs).bind (fun ns => (minL ns).map fun m => Val.d (.int m)) = some v from e)
    obtain ⟨M, hM, rfl⟩ := Option.map_eq_some_iff.mp e
    obtain ⟨p, ws, rfl, hp, d⟩ := h.list
    obtain rfl := d.ints hb
    obtain ⟨m1, m2⟩ := minL_ok hM
    refine cr_min hc pins s σ H _ us Q I r ⟨p, bs, rfl, .inl hp, List.length_pos_of_mem m1, fun m h1 h2 => ?_⟩
    obtain rfl : m = M := Int.le_antisymm (h2 M m1) (m2 m h1)
    exact q _ _ (.here (.int _))
  | [.int i, .int j], e =>
    cases e
    obtain ⟨u, w, rfl, h1, h2⟩ := hs.two
    obtain rfl := h1.int
    obtain rfl := h2.int
    exact call_min2 hc pins s σ H _ us Q I r ⟨i, j, rfl, q _ _ (.here (.int _))⟩
theorem crB_abs : CallR X (.builtin "abs") (rB X.K (biD .abs)) := by
  intro pins s σ H xs us Q I r ⟨F, ds, v, hs, e, q⟩
  match ds, e with
  | [.int i], e =>
    cases e
    obtain ⟨u, rfl, h⟩ := hs.one
    obtain rfl := h.int
    exact call_abs pins s σ H _ us Q I r ⟨i, rfl, q _ _ (.here (.int _))⟩
theorem crB_int : CallR X (.type "int") (rB X.K (biD .int)) := by
  intro pins s σ H xs us Q I r ⟨F, ds, v, hs, e, q⟩
  match ds, e with
  | [.int i], e =>
    cases e
    obtain ⟨u, rfl, h⟩ := hs.one
    obtain rfl := h.int
    exact call_int1 pins s σ H _ us Q I r (.inl ⟨i, rfl, q _ _ (.here (.int _))⟩)
  | [.bool i], e =>
    cases e
    obtain ⟨u, rfl, h⟩ := hs.one
    obtain rfl := h.bl
    exact call_int1 pins s σ H _ us Q I r (.inr ⟨i, rfl, q _ _ (.here (.int _))⟩)
theorem crB_str : CallR X (.type "str") (rB X.K (biD .str)) := by
  intro pins s σ H xs us Q I r ⟨F, ds, v, hs, e, q⟩
  match ds, e with
  | [.int i], e =>
    have e : (if i.natAbs.log2 < 1920 then some (Val.d (.str (toString i : String))) else none) = some v := e
    split at e
    · rename_i hl
      cases e
      obtain ⟨u, rfl, h⟩ := hs.one
      obtain rfl := h.int
      exact call_str_int pins s σ H _ us Q I r ⟨i, rfl, hl, q _ _ (.here (.str _))⟩
    · cases e
theorem crB_list : CallR X (.type "list") (rB X.K (biD .list)) := by
  intro pins s σ H xs us Q I r ⟨F, ds, v, hs, e, q⟩
  match ds, e with
  | [a], e =>
    obtain ⟨zs, hz, rfl⟩ := Option.map_eq_some_iff.mp (show (items a).map (fun xs => Val.ol (xs.map .d)) = some v from e)
    obtain ⟨u, rfl, h⟩ := hs.one
    obtain ⟨p, ws, rfl, hp, d⟩ := h.items hz
    exact call_list_of pins s σ H _ us Q I r ⟨p, ws, rfl, hp, fun l hl => q _ _ (.lst hl d)⟩
theorem crB_tuple : CallR X (.type "tuple") (rB X.K (biD .tuple)) := by
  intro pins s σ H xs us Q I r ⟨F, ds, v, hs, e, q⟩
  match ds, e with
  | [a], e =>
    obtain ⟨zs, hz, rfl⟩ := Option.map_eq_some_iff.mp (show (items a).map (fun xs => Val.d (.tuple xs)) = some v from e)
    obtain ⟨u, rfl, h⟩ := hs.one
    obtain ⟨p, ws, rfl, hp, d⟩ := h.items hz
    refine call_tuple_of pins s σ H _ us Q I r ⟨p, ws, rfl, ?_⟩
    rcases hp with hp | hp
    · exact .inl ⟨hp, fun l hl => q _ _ (.tup hl d)⟩
    · exact .inr ⟨hp, q _ _ (.here (.tup hp d))⟩
/-! ### sorted texts -/
theorem ltS_irrefl (x : Str) : ltS x x = false := by unfold ltS; simp
theorem ltS_trans {x y z : Str} (h : ltS x y = true) (g : ltS y z = true) : ltS x z = true := by
  unfold ltS at *
  rw [decide_eq_true_eq] at *
  exact List.lt_trans h g
theorem ltS_total {x y : Str} (h : ltS x y = false) (g : ltS y x = false) : x = y := by
  unfold ltS at *
  rw [decide_eq_false_iff_not] at *
  have e : x.cps.toList = y.cps.toList := List.le_antisymm (List.not_lt.mp g) (List.not_lt.mp h)
  cases x
  cases y
  simp only [Str.mk.injEq]
  exact Array.toList_inj.mp e
theorem leS_total (x y : Str) : leS x y = true ∨ leS y x = true := by
  unfold leS
  cases h : ltS y x with
  | false => exact .inl rfl
  | true =>
    cases g : ltS x y with
    | false => exact .inr rfl
    | true => have := ltS_trans h g; rw [ltS_irrefl] at this; cases this
theorem leS_trans {x y z : Str} (h : leS x y = true) (g : leS y z = true) : leS x z = true := by
  unfold leS at *
  rw [Bool.not_eq_true'] at *
  cases q : ltS z x with
  | false => rfl
  | true =>
    cases q2 : ltS x y with
    | true => rw [ltS_trans q q2] at g; cases g
    | false => rw [ltS_total q2 h, g] at q; cases q
theorem leS_anti {x y : Str} (h : leS x y = true) (g : leS y x = true) : x = y := by
  unfold leS at *
  rw [Bool.not_eq_true'] at *
  exact ltS_total g h
theorem insS_perm (x : Str) : ∀ l : List Str, (insS x l).Perm (x :: l)
  | [] => .refl _
  | y :: r => by
    unfold insS
    split
    · exact .refl _
    · exact ((insS_perm x r).cons y).trans (.swap x y r)
theorem sortS_perm : ∀ l : List Str, (sortS l).Perm l
  | [] => .refl _
  | x :: r => (insS_perm x _).trans ((sortS_perm r).cons x)
theorem insS_pw (x : Str) : ∀ {l : List Str}, l.Pairwise (fun a b => leS a b = true) → (insS x l).Pairwise (fun a b => leS a b = true)
  | [], _ => by simp [insS]
  | y :: r, h => by
    unfold insS
    have h1 := List.pairwise_cons.mp h
    split
    · rename_i q
      refine List.pairwise_cons.mpr ⟨fun z hz => ?_, h⟩
      rcases List.mem_cons.mp hz with rfl | hz
      · exact q
      · exact leS_trans q (h1.1 z hz)
    · rename_i q
      refine List.pairwise_cons.mpr ⟨fun z hz => ?_, insS_pw x h1.2⟩
      rcases List.mem_cons.mp ((insS_perm x r).mem_iff.mp hz) with rfl | hz
      · exact (leS_total z y).resolve_left q
      · exact h1.1 z hz
theorem sortS_pw : ∀ l : List Str, (sortS l).Pairwise (fun a b => leS a b = true)
  | [] => .nil
  | x :: r => insS_pw x (sortS_pw r)
theorem rising_pw : ∀ {r : List Str} {p : Str}, risingS p r = true → (p :: r).Pairwise (fun a b => leS a b = true)
  | [], p, _ => by simp
  | x :: r, p, h => by
    unfold risingS at h
    rw [Bool.and_eq_true] at h
    have h1 : leS p x = true := by
      unfold leS ltS
      rw [← ltCps_eq]
      exact h.1
    have ih := rising_pw h.2
    refine List.pairwise_cons.mpr ⟨fun z hz => ?_, ih⟩
    rcases List.mem_cons.mp hz with rfl | hz
    · exact h1
    · exact leS_trans h1 ((List.pairwise_cons.mp ih).1 z hz)
theorem sorted_pw : ∀ {l : List Str}, sortedS l = true → l.Pairwise (fun a b => leS a b = true)
  | [], _ => .nil
  | x :: r, h => rising_pw h
theorem crB_sorted : CallR X (.builtin "sorted") (rB X.K (biD .sorted)) := by
  intro pins s σ H xs us Q I r ⟨F, ds, v, hs, e, q⟩
  match ds, e with
  | [.list zs], e =>
    obtain ⟨u, rfl, h⟩ := hs.one
    obtain ⟨p, ws, rfl, hp, d⟩ := h.list
    have e : (match intsD zs with
      | some ns => some (olI (sortI ns))
      | none => match strsD zs with
        | some ss => if ss.length < 64 then some (olS (sortS ss)) else none
        | none => none) = some v := e
    cases hi : intsD zs with
    | some ns =>
      rw [hi] at e
      cases e
      obtain rfl := d.ints hi
      refine cr_sortedI pins s σ H _ us Q I r ⟨p, ns, rfl, .inl hp, fun ns' l h1 h2 hl => ?_⟩
      obtain rfl : ns' = sortI ns := perm_unique (fun a b => Int.le_antisymm) (h1.trans (sortI_perm ns).symm) h2 (sortI_pw ns)
      have := Made.lst (K := X.K) (F := F) (H := H) hl (Dens.ofInts (sortI ns))
      rw [List.map_map] at this
      exact q _ _ this
    | none =>
      rw [hi] at e
      dsimp only at e
      cases ht : strsD zs with
      | none => rw [ht] at e; cases e
      | some ss =>
        rw [ht] at e
        dsimp only at e
        split at e
        · rename_i h64
          cases e
          obtain rfl := d.strs ht
          refine cr_sortedS pins s σ H _ us Q I r ⟨p, ss, rfl, .inl hp, h64, fun ns' l h1 h2 hl => ?_⟩
          obtain rfl : ns' = sortS ss := perm_unique (fun a b => leS_anti) (h1.trans (sortS_perm ss).symm) (sorted_pw h2) (sortS_pw ss)
          have := Made.lst (K := X.K) (F := F) (H := H) hl (Dens.ofStrs (sortS ss))
          rw [List.map_map] at this
          exact q _ _ this
        · cases e
end
section
variable {X : Cx} {ca : Str → Option Addr} {Wx : Wish} {c : Ctx} {x y : Expr} {xs : List Expr} {es : List ME} {a : ME} {pos p p2 : Pos} {nm : Str} {id : String} {b : Bi}
theorem bi_w {f : List D → Option Val} {g : List Val → Env → Res Val} (hg : ∀ vs e, g vs e = match sees e vs with
    | some ds => opt (f ds) e
    | none => .no) {σ : L2.St} {H : Hp} {Q : VK} {e : Env} {F : Fs} {own : Nat → List Addr} (R : Rel X.K ca σ H e F own) (P : PR ((evs c es e).bind g) (QV X.K ca σ H F (Ow own) Q) (QX X.K ca Wx σ H F (Ow own))) :
    tIs X.K ca Wx c es σ H (fun us H1 => rB X.K f us H1 Q) :=
  rd_list (r := fun us H1 => rB X.K f us H1 Q) Ext.refl R P fun vs e2 us H2 F2 own2 fp R2 V2 N2 E2 E P => by
    rw [hg] at P
    cases h1 : sees e2 vs with
    | none => rw [h1] at P; exact P.elim
    | some ds =>
      rw [h1] at P
      obtain ⟨v, hv, P⟩ := PR.opt P
      exact ⟨F2, ds, v, RVs.seeFs R2 V2 h1, hv, QV.made P R2 E⟩
theorem pm_biB (hc : CallR X (.builtin id) (rB X.K (biD b))) (hg : Gl X nm) (hm : X.mg nm = none) (hv : bootBuiltins nm = some (.builtin id)) (hn : nm ≠ "__name__") (hdb : (nm == ("__debug__" : Str)) = false) (ha : PA X (x :: xs) (tIs X.K ca Wx c es))
    (he : starEach (x :: xs) X.env = (false, eval x X.env) :: starEach xs X.env) (hpl : (backTo pos (starEach xs X.env)).any (·.1) = false) : PE X (.Call (.Name nm p) (x :: xs) [] pos) (tI X.K ca Wx c (.bi b es)) :=
  (pe_callB hc hg hm hv ha hn hdb he hpl).weak fun σ H Q ⟨e, F, own, R, P⟩ => bi_w (fun _ _ => rfl) R P
theorem pm_biT (hc : CallR X (.type id) (rB X.K (biD b))) (hg : Gl X nm) (hm : X.mg nm = none) (hv : bootBuiltins nm = some (.type id)) (hn : nm ≠ "__name__") (hdb : (nm == ("__debug__" : Str)) = false) (ha : PA X (x :: xs) (tIs X.K ca Wx c es))
    (he : starEach (x :: xs) X.env = (false, eval x X.env) :: starEach xs X.env) (hpl : (backTo pos (starEach xs X.env)).any (·.1) = false) : PE X (.Call (.Name nm p) (x :: xs) [] pos) (tI X.K ca Wx c (.bi b es)) :=
  (pe_callTy hc hg hm hv ha hn hdb he hpl).weak fun σ H Q ⟨e, F, own, R, P⟩ => bi_w (fun _ _ => rfl) R P
theorem PR.one' {a : ME} {e : Env} {g : List Val → Env → Res Val} {k : Val → Env → Prop} {kx : Ex → Env → Prop} (h : PR ((evs c [a] e).bind g) k kx) : PR ((ev c a e).bind fun v e1 => g [v] e1) k kx := by
  have h : PR (((ev c a e).bind fun v e1 => (Res.ok [] e1).bind fun vs e2 => .ok (v :: vs) e2).bind g) k kx := h
  cases q : ev c a e with
  | ok v e1 => rw [q] at h; exact h
  | ex x e1 => rw [q] at h; exact h
  | no => rw [q] at h; exact h
theorem pm_lenset {q : Pos} (hc : X.calm = true) (hg : Gl X "len") (hm : X.mg "len" = none) (hg2 : Gl X "set") (hm2 : X.mg "set" = none) (ha : PE X x (tI X.K ca Wx c a)) (na : starEach [x] X.env = (false, eval x X.env) :: starEach [] X.env) :
    PE X (.Call (.Name "len" p) [.Call (.Name "set" p2) [x] [] q] [] pos) (tI X.K ca Wx c (.bi .lenset [a])) :=
  (pe_lenS hc hg hm hg2 hm2 ha na).weak fun σ H Q ⟨e, F, own, R, P⟩ => rd_one (r := fun u H1 => ∃ l, ∃ xs : List Str, u = .ref l ∧ (SqL X.K H1 l (xs.map V.str) ∨ SqT X.K H1 l (xs.map V.str)) ∧ xs.length < 1000 ∧ Q (.int (dedS xs).length) H1) R (PR.one' P) fun va e2 u H2 F2 own2 fp R2 V2 N2 E2 P => by
    have P : PR (match sees e2 [va] with
      | some ds => opt (biD .lenset ds) e2
      | none => .no) _ _ := P
    unfold sees at P
    cases h1 : see e2 va with
    | none => rw [h1] at P; exact P.elim
    | some z =>
      rw [h1] at P
      obtain ⟨v, hv, P⟩ := PR.opt (show PR (opt (biD .lenset [z]) e2) _ _ from P)
      obtain ⟨zs, hz, hv⟩ := Option.bind_eq_some_iff.mp (show (items z).bind (fun xs => (strsD xs).bind fun ss => if ss.length < 1000 then some (Val.d (.int (dedS ss).length)) else none) = some v from hv)
      obtain ⟨ss, hs, hv⟩ := Option.bind_eq_some_iff.mp hv
      split at hv
      · rename_i hl
        cases hv
        obtain ⟨l, us, rfl, hq, d⟩ := (V2.seeF R2 h1).items hz
        obtain rfl := d.strs hs
        exact ⟨l, ss, rfl, hq, hl, QV.scal P R2 E2 (.int _)⟩
      · cases hv
/-! ### isinstance -/
def TN : List String := ["NoneType", "bool", "int", "str", "list", "tuple", "dict", "ValueError", "Exception", "object"]
def TD : List String := ["NoneType", "bool", "int", "str", "list", "tuple", "dict"]
def isT (t n : String) : Bool := t == n || n == "object" || (t == "bool" && n == "int")
theorem kit_bt (K : PySem.W.Frag) : (TD.all fun t => TN.all fun n => PySem.W.kitOne K (.type t) (.type n) == some (isT t n)) = true := by
  unfold TD TN
  simp only [List.all_cons, List.all_nil]
  unfold PySem.W.kitOne PySem.W.kitCls
  kernel_rfl
def tyNm : D → String
  | .none => "NoneType"
  | .bool _ => "bool"
  | .int _ => "int"
  | .str _ => "str"
  | .list _ => "list"
  | .tuple _ => "tuple"
  | .dict _ => "dict"
theorem tyNm_in (x : D) : tyNm x ∈ TD := by cases x <;> simp [tyNm, TD]
theorem SeeF.ty {K : PySem.W.Frag} {H : Hp} {F : Fs} {u : V} {x : D} (h : SeeF K H F u x) : TyX K H u (.type (tyNm x)) := by
  cases x with
  | none => obtain rfl := h.non; exact .base .non
  | bool _ => obtain rfl := h.bl; exact .base (.bl _)
  | int _ => obtain rfl := h.int; exact .base (.int _)
  | str _ => obtain rfl := h.str; exact .base (.str _)
  | list _ =>
    obtain ⟨p, us, rfl, hp, d⟩ := h.list
    rcases hp with hp | ⟨o, hp⟩
    · exact .base (.lst hp)
    · exact .base (.frz hp)
  | tuple _ =>
    obtain ⟨p, us, rfl, hp, d⟩ := h.tuple
    rcases hp with (hp | ⟨o, hp⟩) | hp
    · exact .base (.tup hp)
    · exact .fTuple hp
    · obtain ⟨o, its, n, h1, h2, _⟩ := hp
      exact .kTuple h1 h2
  | dict _ =>
    obtain ⟨p, us, rfl, hp, d⟩ := h.dict
    rcases hp with hp | ⟨o, hp⟩
    · exact .base (.dK hp)
    · exact .fDict hp
end
end PM
end

section
set_option Elab.async false
set_option linter.all false
set_option maxRecDepth 100000
set_option maxHeartbeats 2000000
/-! PMIsi: isinstance of data and of caught exceptions. -/
namespace PM
open PySem PySem.Spec PyProof.Rows L2
/-- what the classes must say -/
structure ClsK (K : PySem.W.Frag) (ca : Str → Option Addr) (sub : Str → Str → Bool) : Prop where
  exc : ∀ c C, ca c = some C → ExcC K C
  ecl : ∀ c C c' C', ca c = some C → ca c' = some C' → PySem.W.kitOne K (.ref C) (.ref C') = some (sub c c')
  ebt : ∀ c C n, ca c = some C → n ∈ TN → PySem.W.kitOne K (.ref C) (.type n) = some (excBases.contains n)
  dcl : ∀ t c C, t ∈ TD → ca c = some C → PySem.W.kitOne K (.type t) (.ref C) = some false
inductive TyA (K : PySem.W.Frag) (H : Hp) : V → Value → Prop
  | x {u : V} {t : Value} : TyX K H u t → TyA K H u t
  | e {a C : Addr} : H a = some (exO (.ref C) none a) → ExcC K C → TyA K H (.ref a) (.ref C)
section
variable {X : Cx} {pins : List (Addr × Obj)} {σ : L2.St} {H : Hp} {s : Shared}
theorem kit_ofA {x : V} {u t : Value} (I : Inv X pins σ H s) (rx : RelV x u) (ty : TyA X.K H x t) : ∃ P : Heap → Prop, PySem.W.KitX X.K u t P ∧ P s.heap ∧ u ≠ .builtin "__main__.__loader__#opaque" := by
  cases ty with
  | x ty => exact kit_of I rx ty
  | @e a C h F =>
    cases rx
    obtain ⟨⟨oe, vs, he, hz, hd⟩, _⟩ := (show ObjOk X.prog X.w H s.heap a (exO (.ref C) none a) from I.hok a _ h)
    refine ⟨_, PySem.W.handS_kitx_exc (ox := oe) F.hg F.hk F.hs F.hd F.ha F.hn F.ht F.hm, ?_, fun z => nomatch z⟩
    obtain ⟨oc, od, oda, osl⟩ := oe
    obtain ⟨h1, h2⟩ := hz
    dsimp only at h1 h2 hd
    subst h1 h2 hd
    exact ⟨he, rfl, rfl, trivial⟩
theorem call_isA : CallR X (.builtin "isinstance") (fun xs H Q => ∃ (x c : V) (t u : Value) (b : Bool), xs = [x, c] ∧ ClsV c u ∧ TyA X.K H x t ∧ PySem.W.kitOne X.K t u = some b ∧ Q (.bl b) H) := by
  intro pins s σ H xs us Q I r h
  obtain ⟨x, c, t, u, b, rfl, k, ty, e, q⟩ := h
  obtain ⟨u1, u2, rfl, r1, r2⟩ := vals2 r
  have e2 := k.eq r2
  subst e2
  obtain ⟨P, Z, p, hx⟩ := kit_ofA I r1 ty
  exact PySem.W.kia_one Z I.kIn p e hx fun tk => ⟨.bl b, H, I.tok tk, rfl, q⟩
theorem call_isTA : CallR X (.builtin "isinstance") (fun xs H Q => ∃ (x : V) (tp : Addr) (cs : List V) (t : Value) (us : List Value) (b : Bool), xs = [x, .ref tp] ∧ H tp = some (.tup cs) ∧ Paired ClsV cs us ∧ TyA X.K H x t ∧ PySem.W.kitAny X.K t us = some b ∧ Q (.bl b) H) := by
  intro pins s σ H xs us Q I r h
  obtain ⟨x, tp, cs, t, ws, b, rfl, hT, k, ty, e, q⟩ := h
  obtain ⟨u1, u2, rfl, r1, r2⟩ := vals2 r
  cases (show u2 = Value.ref tp from r2)
  obtain ⟨P, Z, p, hx⟩ := kit_ofA I r1 ty
  obtain ⟨_, its, rv, o, h1, h2, n, h3⟩ := (show ObjOk X.prog X.w H s.heap tp (.tup cs) from I.hok tp _ hT)
  have e3 := ClsV.all k rv
  subst e3
  obtain ⟨oc, od, dt, sl⟩ := o
  simp only at h2 h3
  subst h2 h3
  exact PySem.W.kia_tup Z I.kIn p h1 e hx fun tk => ⟨.bl b, H, I.tok tk, rfl, q⟩
end
/-- the value of a class that is named -/
def tyV (ca : Str → Option Addr) : Ty → Option V
  | .bt n => if n ∈ TN then some (.ty n) else none
  | .cl c => (ca c).map V.ref
def tyU : V → Value
  | .ty n => .type n
  | .ref C => .ref C
  | _ => .none
theorem tyV_cls {ca : Str → Option Addr} {t : Ty} {v : V} (h : PM.tyV ca t = some v) : ClsV v (tyU v) := by
  cases t with
  | bt n =>
    have h : (if n ∈ TN then some (V.ty n) else none) = some v := h
    split at h
    · cases h; exact .ty n
    · cases h
  | cl c =>
    obtain ⟨C, _, rfl⟩ := Option.map_eq_some_iff.mp (show (ca c).map V.ref = some v from h)
    exact .own C
section
variable {K : PySem.W.Frag} {ca : Str → Option Addr} {sub : Str → Str → Bool}
theorem isiD_eq (x : D) {n : String} (h : n ∈ TN) : isiD x n = isT (tyNm x) n := by
  cases x <;> (simp only [isiD, isT, tyNm]; revert h; simp only [TN, List.mem_cons, List.not_mem_nil, or_false]; rintro (rfl | rfl | rfl | rfl | rfl | rfl | rfl | rfl | rfl | rfl) <;> decide)
theorem kit_dat (F : ClsK K ca sub) (x : D) {t : Ty} {v : V} (h : PM.tyV ca t = some v) : PySem.W.kitOne K (.type (tyNm x)) (tyU v) = some (tyD t x) := by
  cases t with
  | bt n =>
    have h : (if n ∈ TN then some (V.ty n) else none) = some v := h
    split at h
    · rename_i hn
      cases h
      have k := List.all_eq_true.mp (List.all_eq_true.mp (kit_bt K) _ (tyNm_in x)) _ hn
      rw [show tyD (.bt n) x = isiD x n from rfl, isiD_eq x hn]
      exact beq_iff_eq.mp k
    · cases h
  | cl c =>
    obtain ⟨C, hC, rfl⟩ := Option.map_eq_some_iff.mp (show (ca c).map V.ref = some v from h)
    exact F.dcl _ c C (tyNm_in x) hC
theorem kit_exc (F : ClsK K ca sub) {c : Str} {C : Addr} (hc : ca c = some C) {t : Ty} {v : V} (h : PM.tyV ca t = some v) : PySem.W.kitOne K (.ref C) (tyU v) = some (tyE sub c t) := by
  cases t with
  | bt n =>
    have h : (if n ∈ TN then some (V.ty n) else none) = some v := h
    split at h
    · rename_i hn
      cases h
      exact F.ebt c C n hc hn
    · cases h
  | cl c' =>
    obtain ⟨C', hC, rfl⟩ := Option.map_eq_some_iff.mp (show (ca c').map V.ref = some v from h)
    exact F.ecl c C c' C' hc hC
theorem kit_any {t : Value} {f : Ty → Bool} : ∀ {ts : List Ty} {vs : List V}, (∀ ty v, PM.tyV ca ty = some v → PySem.W.kitOne K t (tyU v) = some (f ty)) → ts.mapM (PM.tyV ca) = some vs → PySem.W.kitAny K t (vs.map tyU) = some (ts.any f)
  | [], vs, _, h => by cases h; rfl
  | ty :: ts, vs, k, h => by
    rw [List.mapM_cons] at h
    obtain ⟨v, hv, h⟩ := Option.bind_eq_some_iff.mp h
    obtain ⟨ws, hw, h⟩ := Option.bind_eq_some_iff.mp h
    cases h
    rw [List.map_cons]
    unfold PySem.W.kitAny
    rw [k ty v hv, List.any_cons]
    cases q : f ty with
    | true => rfl
    | false => exact kit_any k hw
end
section
variable {X : Cx} {ca : Str → Option Addr} {Wx : Wish} {c : Ctx} {x y : Expr} {es : List ME} {a : ME} {pos p p2 : Pos}
/-- the seen value and its answers -/
theorem isi_seen {σ : L2.St} {e : Env} {H : Hp} {F W : Fs} {own : Nat → List Addr} {u : V} {v : Val} {fp : List Addr} {ts : List Ty} {b : Bool} (G : ClsK X.K ca c.sub) (R : Rel X.K ca σ H e F own) (h : RV X.K ca σ H F W u v fp) (s : isiV c e v ts = some b) :
    ∃ t f, TyA X.K H u t ∧ (∀ ty v, PM.tyV ca ty = some v → PySem.W.kitOne X.K t (tyU v) = some (f ty)) ∧ b = ts.any f := by
  have dat : (PM.see e v).map (fun x => ts.any fun t => tyD t x) = some b → ∃ t f, TyA X.K H u t ∧ (∀ ty v, PM.tyV ca ty = some v → PySem.W.kitOne X.K t (tyU v) = some (f ty)) ∧ b = ts.any f := fun s => by
    obtain ⟨z, hz, rfl⟩ := Option.map_eq_some_iff.mp s
    exact ⟨_, fun t => tyD t z, .x (h.seeF R hz).ty, fun ty v hv => kit_dat G z hv, rfl⟩
  cases v with
  | ex cc fs =>
    cases fs with
    | cons _ _ => cases s
    | nil =>
    cases s
    cases h with
    | val r _ _ =>
      cases r with
      | @ex a C _ _ d hc ha hx =>
        rcases hx with ⟨_, rfl⟩ | ⟨ne, _⟩
        · exact ⟨_, fun t => tyE c.sub cc t, .e ha (G.exc _ _ hc), fun ty v hv => kit_exc G hc hv, rfl⟩
        · exact absurd rfl ne
  | d z => exact dat s
  | ol z => exact dat s
  | od z => exact dat s
  | pk z => exact dat s
theorem mapM_len {α β : Type} {f : α → Option β} : ∀ {l : List α} {m : List β}, l.mapM f = some m → m.length = l.length
  | [], m, h => by cases h; rfl
  | x :: l, m, h => by
    rw [List.mapM_cons] at h
    obtain ⟨v, hv, h⟩ := Option.bind_eq_some_iff.mp h
    obtain ⟨ws, hw, h⟩ := Option.bind_eq_some_iff.mp h
    cases h
    rw [List.length_cons, List.length_cons, mapM_len hw]
theorem paired {ca : Str → Option Addr} : ∀ {ts : List Ty} {vs : List V}, ts.mapM (PM.tyV ca) = some vs → Paired ClsV vs (vs.map tyU)
  | [], vs, h => by cases h; exact .nil
  | t :: ts, vs, h => by
    rw [List.mapM_cons] at h
    obtain ⟨v, hv, h⟩ := Option.bind_eq_some_iff.mp h
    obtain ⟨ws, hw, h⟩ := Option.bind_eq_some_iff.mp h
    cases h
    exact .cons (tyV_cls hv) (paired hw)
/-- isinstance(x, T) -/
theorem pm_isi1 {t : Ty} {v : V} (G : ClsK X.K ca c.sub) (hg : Gl X "isinstance") (hm : X.mg "isinstance" = none) (ha : PE X x (tI X.K ca Wx c a)) (hy : PE X y (tC v)) (hv : PM.tyV ca t = some v)
    (he : starEach [x, y] X.env = (false, eval x X.env) :: starEach [y] X.env) (he2 : starEach [y] X.env = (false, eval y X.env) :: starEach [] X.env) (hpl : (backTo pos (starEach [y] X.env)).any (·.1) = false) :
    PE X (.Call (.Name "isinstance" p) [x, y] [] pos) (tI X.K ca Wx c (.isi a [t])) :=
  (pe_callB call_isA hg hm boot_isinstance (pa_cons ha (pa_cons hy pa_nil he2) he) (by decide) (by decide) he hpl).weak fun σ H Q ⟨e, F, own, R, P⟩ => by
    refine rd_one (r := fun u H1 => ∃ (x c : V) (t u' : Value) (b : Bool), [u, v] = [x, c] ∧ ClsV c u' ∧ TyA X.K H1 x t ∧ PySem.W.kitOne X.K t u' = some b ∧ Q (.bl b) H1) R P fun va e2 u H2 F2 own2 fp R2 V2 N2 E2 P => ?_
    obtain ⟨w, hw, P⟩ := PR.opt P
    obtain ⟨b, hb, rfl⟩ := Option.map_eq_some_iff.mp hw
    obtain ⟨ty, f, h1, h2, rfl⟩ := isi_seen G R2 V2 hb
    exact ⟨u, v, ty, tyU v, f t, rfl, tyV_cls hv, h1, h2 t v hv, by simpa using QV.scal P R2 E2 (.bl _)⟩
/-- isinstance(x, (T, ..)) -/
theorem pm_isiT {ts : List Ty} {vs : List V} {ys : List Expr} {k : Nat} {te : TA} (G : ClsK X.K ca c.sub) (hg : Gl X "isinstance") (hm : X.mg "isinstance" = none) (ha : PE X x (tI X.K ca Wx c a)) (hy : PA X ys te) (hte : ∀ σ H Q, Q vs H → te σ H Q) (hv : ts.mapM (PM.tyV ca) = some vs) (hl : vs.length ≤ sizeLine)
    (he : starEach [x, .Tuple ys k p2] X.env = (false, eval x X.env) :: starEach [.Tuple ys k p2] X.env) (he2 : starEach [.Tuple ys k p2] X.env = (false, eval (.Tuple ys k p2) X.env) :: starEach [] X.env) (hpl : (backTo pos (starEach [.Tuple ys k p2] X.env)).any (·.1) = false) :
    PE X (.Call (.Name "isinstance" p) [x, .Tuple ys k p2] [] pos) (tI X.K ca Wx c (.isi a ts)) :=
  (pe_callB call_isTA hg hm boot_isinstance (pa_cons ha (pa_cons (pe_tup hy) pa_nil he2) he) (by decide) (by decide) he hpl).weak fun σ H Q ⟨e, F, own, R, P⟩ => by
    refine rd_one (r := fun u H1 => tTup te σ H1 fun w H2 => ∃ (x : V) (tp : Addr) (cs : List V) (t : Value) (us : List Value) (b : Bool), [u, w] = [x, .ref tp] ∧ H2 tp = some (.tup cs) ∧ Paired ClsV cs us ∧ TyA X.K H2 x t ∧ PySem.W.kitAny X.K t us = some b ∧ Q (.bl b) H2) R P fun va e2 u H2 F2 own2 fp R2 V2 N2 E2 P => ?_
    obtain ⟨w, hw, P⟩ := PR.opt P
    obtain ⟨b, hb, rfl⟩ := Option.map_eq_some_iff.mp hw
    refine hte _ _ _ ⟨hl, fun q hq => ?_⟩
    have R3 := R2.alloc (p := q) (o := .tup vs) hq
    have E3 : Ext H2 F2 (Ow own2) (upd H2 q (.tup vs)) F2 (Ow own2) := Ext.alloc hq
    obtain ⟨ty, f, h1, h2, rfl⟩ := isi_seen G R3 (V2.ext E3 R2.wok) hb
    exact ⟨u, q, vs, ty, vs.map tyU, ts.any f, rfl, upd_same, paired hv, h1, kit_any h2 hv, QV.scal P R3 (E2.trans E3) (.bl _)⟩
end
end PM
end

section
set_option Elab.async false
set_option linter.all false
set_option maxRecDepth 100000
set_option maxHeartbeats 2000000
/-! PMMt: methods; what a slot owns, changed. -/
namespace PM
open PySem PySem.Spec PyProof.Rows L2
section
variable {K : PySem.W.Frag} {ca : Str → Option Addr} {σ : L2.St} {e : Env} {H H' : Hp} {F F' W W' : Fs} {own : Nat → List Addr}
theorem VRs.appD : ∀ {us : List V} {vs : List Val} {fp : List Addr} {ws : List V} {ds : List D}, VRs K ca H F us vs fp → Dens K H F ws ds → VRs K ca H F (us ++ ws) (vs ++ ds.map .d) fp
  | _, _, _, _, _, .nil, d => d.vrs
  | _, _, _, _, _, .cons h r, d => .cons h (VRs.appD r d)
theorem Rel.mutL {i : Nat} {vs : List Val} (R : Rel K ca σ H e F own) (h : getS e i = some (.ol vs)) : ∃ p us fp, σ[i]? = some (some (.ref p)) ∧ H p = some (.lst us) ∧ own i = p :: fp ∧ VRs K ca H F us vs fp ∧
    ∀ us' vs', (VRs K ca H F us' vs' fp) → Rel K ca σ (upd H p (.lst us')) (e.set i (some (.ol vs'))) F own ∧ Ext H F (Ow own) (upd H p (.lst us')) F (Ow own) := by
  obtain ⟨u, hu, r⟩ := R.slot i _ h
  generalize hfp : own i = fpi at r
  cases r with
  | @ol p us _ fp hp r =>
    refine ⟨p, us, fp, hu, hp, rfl, r, fun us' vs' r' => ?_⟩
    have nd : (p :: fp).Nodup := hfp ▸ R.nd i
    have np : p ∉ fp := (List.nodup_cons.mp nd).1
    have mi : p ∈ own i := by rw [hfp]; exact List.mem_cons_self
    have E : Ext H F (fun a => a = p) (upd H p (.lst us')) F (fun a => a = p) := Ext.upd rfl
    have w : Wok H F (fun a => a = p) := fun a z => by subst z; exact ⟨R.nf i _ mi, .inl ⟨_, hp⟩⟩
    have r2 : VRs K ca (upd H p (.lst us')) F us' vs' fp := r'.ext E w fun a m z => np (z ▸ m)
    have al : ∀ a, F a → (upd H p (.lst us')) a ≠ none := fun a f => by
      by_cases q : a = p
      · subst q; rw [upd_same]; exact fun z => nomatch z
      · rw [upd_ne q]; exact R.al a f
    have R2 := R.put (i := i) (u := .ref p) (v := .ol vs') (fp := p :: fp) (W := fun a => a ∈ own i) (W' := fun _ => False) (F' := F) (H' := upd H p (.lst us')) (List.getElem?_eq_some_iff.mp hu).1
      (E.widen (U := fun a => a ∈ own i) (U' := fun _ => False) (fun a z => by subst z; exact mi) fun _ z => z.elim)
      (fun a m => R.wok a ⟨i, m⟩) (fun j a ne m z => ne (R.dj j i a m z)) (.ol upd_same r2) nd (fun a m => ⟨R.nf i a (hfp ▸ m), .inl (hfp ▸ m)⟩) al
    rw [σset_self hu] at R2
    have eo : (fun j => if j = i then p :: fp else own j) = own := by
      funext j
      by_cases q : j = i
      · subst q; rw [if_pos rfl, hfp]
      · rw [if_neg q]
    rw [eo] at R2
    exact ⟨R2, E.widen (fun a z => by subst z; exact ⟨i, mi⟩) fun a z => .inl z⟩
theorem Dens.dropLast {us : List V} {ds : List D} (h : Dens K H F us ds) : Dens K H F us.dropLast ds.dropLast := by
  rw [List.dropLast_eq_take, List.dropLast_eq_take, h.len]
  exact h.take _
theorem Dens.set {us : List V} {ds : List D} {u : V} {x : D} : ∀ {j : Nat}, Dens K H F us ds → Den K H F u x → Dens K H F (us.set j u) (ds.set j x)
  | _, .nil, _ => .nil
  | 0, .cons _ r, d => .cons d r
  | j + 1, .cons h r, d => .cons h (Dens.set r d)
end
section
variable {X : Cx} {ca : Str → Option Addr} {Wx : Wish} {c : Ctx} {x y : Expr} {xs : List Expr} {es : List ME} {a : ME} {pos apos : Pos} {nm : Str} {i : Nat}
/-- extend by a list that is read -/
theorem mt_extendR : MtM X "list.extend" (fun x vs H Q => ∃ l b xs zs, x = .ref l ∧ vs = [.ref b] ∧ H l = some (.lst xs) ∧ Rd H b (.lst zs) ∧ xs.length + zs.length ≤ sizeLine ∧ Q .non (upd H l (.lst (xs ++ zs)))) := by
  intro pins s σ H x vs v us Q I rx rv h
  obtain ⟨l, b, xs, zs, rfl, rfl, hH, hB, hz, q⟩ := h
  cases rx
  obtain ⟨u, rfl, ru⟩ := rv.one
  cases ru
  obtain ⟨z, its, n, r, hl, e⟩ := I.lstM hH
  obtain ⟨z2, its2, n2, r2, e2⟩ := hB.ok I.hok
  have hl2 := r2.length
  have hsz : its.toArray.size + its2.toArray.size ≤ sizeLine := by rw [List.size_toArray, List.size_toArray]; omega
  have hlong : ¬ (!its.toArray.isEmpty && Builtin.List.listTooLong (its.toArray.size + its2.toArray.size)) = true := by
    rw [notLongL hsz, Bool.and_false]
    exact Bool.false_ne_true
  refine call_meets PySem.F.slot_list_extend ⟨_, e, rfl⟩ PySem.F.entry_list_extend (PySem.F.args_list_extend_2 _ _)
    (AutoSeq1.list_extend_list_list_0 l its.toArray n b its2.toArray n2 hlong (by rw [List.size_toArray]; omega) (by omega)) ⟨e, e2, ?_⟩
  refine ⟨.non, _, I.lset (its' := its ++ its2) hH e (by simp) (r.append r2) ?_, rfl, q⟩
  rw [List.length_append]
  omega
/-- what a list method makes of it -/
def MuR (K : PySem.W.Frag) (ca : Str → Option Addr) (m : Mu) (r : V → List V → Hp → VK → Prop) : Prop := ∀ (H : Hp) (F : Fs) (p : Addr) (us ws : List V) (vs : List Val) (fp : List Addr) (ds : List D) (w o' : Val) (Q : VK), H p = some (.lst us) → VRs K ca H F us vs fp → Dens K H F ws ds → muV m (.ol vs) ds = some (w, o') →
  (∀ u us' vs' x, o' = .ol vs' → w = .d x → Den K H F u x → VRs K ca H F us' vs' fp → Q u (upd H p (.lst us'))) → r (.ref p) ws H Q
theorem mu_append : MuR X.K ca .append rAppend := by
  intro H F p us ws vs fp ds w o' Q hp r d hm q
  match ds, hm with
  | [x], hm =>
    have hm : (if vs.length < lineN then some (Val.d .none, Val.ol (vs ++ [.d x])) else none) = some (w, o') := hm
    split at hm
    · rename_i hl
      cases hm
      have l := d.len
      match ws, l with
      | [y], _ =>
        exact ⟨p, us, y, rfl, rfl, hp, by rw [r.len]; exact hl, q .non _ _ .none rfl rfl .non (r.appD d)⟩
    · cases hm
theorem mu_extend : MuR X.K ca .extend (fun x vs H Q => ∃ l b xs zs, x = .ref l ∧ vs = [.ref b] ∧ H l = some (.lst xs) ∧ Rd H b (.lst zs) ∧ xs.length + zs.length ≤ sizeLine ∧ Q .non (upd H l (.lst (xs ++ zs)))) := by
  intro H F p us ws vs fp ds w o' Q hp r d hm q
  match ds, hm with
  | [.list zs], hm =>
    have hm : (if vs.length + zs.length ≤ lineN then some (Val.d .none, Val.ol (vs ++ zs.map .d)) else none) = some (w, o') := hm
    split at hm
    · rename_i hl
      cases hm
      cases d with
      | cons d t =>
        cases t
        cases d with
        | lst hf dd => exact ⟨p, _, us, _, rfl, rfl, hp, hf.rd, by rw [r.len, dd.len]; exact hl, q .non _ _ .none rfl rfl .non (r.appD dd)⟩
    · cases hm
theorem mu_pop : MuR X.K ca .pop rPop := by
  intro H F p us ws vs fp ds w o' Q hp r d hm q
  match ds, hm with
  | [], hm =>
    obtain ⟨es, he, hm⟩ := Option.bind_eq_some_iff.mp (show (allD vs).bind (fun ds => match ds.getLast? with
      | some x => some (Val.d x, Val.ol (ds.dropLast.map .d))
      | none => none) = some (w, o') from hm)
    cases hx : es.getLast? with
    | none => rw [hx] at hm; cases hm
    | some x =>
      rw [hx] at hm
      cases hm
      cases d
      obtain ⟨dd, rfl⟩ := r.dens he
      rw [List.getLast?_eq_getElem?] at hx
      obtain ⟨u, hu, du⟩ := dd.get hx
      exact ⟨p, us, u, rfl, rfl, hp, by rw [dd.len]; exact hu, q u _ _ x rfl rfl du dd.dropLast.vrs⟩
theorem mu_clear : MuR X.K ca .clear rClear := by
  intro H F p us ws vs fp ds w o' Q hp r d hm q
  match ds, hm with
  | [], hm =>
    obtain ⟨es, he, hm⟩ := Option.map_eq_some_iff.mp (show (allD vs).map (fun _ => (Val.d .none, Val.ol [])) = some (w, o') from hm)
    cases hm
    cases d
    obtain ⟨dd, rfl⟩ := r.dens he
    exact ⟨p, us, rfl, rfl, hp, q .non _ _ .none rfl rfl .non .nil⟩
theorem mu_w {m : Mu} {r : V → List V → Hp → VK → Prop} (hr : MuR X.K ca m r) (hl : ∀ o ds, muV m o ds ≠ none → ∃ vs, o = .ol vs) (ho : ∀ o ds w o', muV m o ds = some (w, o') → ∃ x vs', w = .d x ∧ o' = .ol vs') {σ : L2.St} {H : Hp} {Q : VK}
    (h : tI X.K ca Wx c (.mu m i es) σ H Q) : tVar i σ H fun x H1 => (∃ p us, x = .ref p ∧ H1 p = some (.lst us)) ∧ tIs X.K ca Wx c es σ H1 fun us H2 => r x us H2 Q := by
  obtain ⟨e, F, own, R, P⟩ := h
  have P : PR (if isOl (getS e i) = true then (evs c es e).bind fun vs e1 => match takes e1 vs with
    | some (ds, e2) => match getS e2 i with
      | some o => match muV m o ds with
        | some (r, o') => .ok r (e2.set i (some o'))
        | none => .no
      | none => .no
    | none => .no
    else .no) _ _ := P
  split at P
  · rename_i h0
    cases h1 : getS e i with
    | none => rw [h1] at h0; cases h0
    | some o =>
      cases o with
      | ol vs0 =>
        obtain ⟨p, us0, fp0, hu, hp, _⟩ := R.mutL h1
        refine ⟨.ref p, hu, ⟨p, us0, rfl, hp⟩, rd_list (r := fun us H2 => r (.ref p) us H2 Q) Ext.refl R P fun vs e2 us H2 F2 own2 fp R2 V2 N2 E2 E P => ?_⟩
        cases h2 : takes e2 vs with
        | none => rw [h2] at P; exact P.elim
        | some q =>
          obtain ⟨ds, e3⟩ := q
          rw [h2] at P
          dsimp only at P
          cases h3 : getS e3 i with
          | none => rw [h3] at P; exact P.elim
          | some o =>
            rw [h3] at P
            dsimp only at P
            cases h4 : muV m o ds with
            | none => rw [h4] at P; exact P.elim
            | some q =>
              obtain ⟨w, o'⟩ := q
              rw [h4] at P
              dsimp only at P
              obtain ⟨F3, own3, R3, D3, E3⟩ := V2.takes R2 h2
              obtain ⟨vs3, rfl⟩ := hl o ds (by rw [h4]; exact fun z => nomatch z)
              obtain ⟨p', us3, fp3, hu3, hp3, ho3, r3, mk⟩ := R3.mutL h3
              rw [hu] at hu3
              cases hu3
              obtain ⟨x, vs', rfl, rfl⟩ := ho _ _ _ _ h4
              refine hr H2 F3 p us3 us vs3 fp3 ds _ _ Q hp3 r3 D3 h4 fun u us' vs'' y eo ew du r' => ?_
              cases eo
              cases ew
              obtain ⟨R4, E4⟩ := mk us' vs' r'
              exact QV.scal P R4 (((E.addT N2).trans E3).trans E4) (du.ext E4 R3.wok)
      | _ => rw [h1] at h0; cases h0
  · exact P.elim
theorem pm_mu {id : String} {m : Mu} {r : V → List V → Hp → VK → Prop} (hr : MuR X.K ca m r) (hl : ∀ o ds, muV m o ds ≠ none → ∃ vs, o = .ol vs) (ho : ∀ o ds w o', muV m o ds = some (w, o') → ∃ x vs', w = .d x ∧ o' = .ol vs')
    (slot : Slot "list" nm id) (hty : typeOf (.builtin id) = pure (.type "method_descriptor")) (hm : MtM X id r) (hx : PE X x (tVar i)) (ha : PA X (y :: xs) (tIs X.K ca Wx c es))
    (hbase : attributeBase x nm X.env (eval x X.env) = eval x X.env)
    (hfew : ((backTo pos (starEach (y :: xs) X.env)).all (fun x => !x.1) && (backToKw pos (keywordEach [] X.env)).all (fun x => x.1.isSome)
      && decide ((y :: xs).length + ([] : List Keyword).length + (if ([] : List Keyword).isEmpty then 0 else 1) < 30)) = true)
    (hline : (apos.endLine == pos.line) = true) (hs : starEach (y :: xs) X.env = (false, eval y X.env) :: starEach xs X.env) (hplain : (backTo pos (starEach xs X.env)).any (·.1) = false) :
    PE X (.Call (.Attribute x nm apos) (y :: xs) [] pos) (tI X.K ca Wx c (.mu m i es)) :=
  (pe_bm (T := "list") PySem.F.plainAttrs_list slot hty hm hx ha hbase hfew hline hs hplain).weak fun σ H Q h => by
    obtain ⟨v, hv, ⟨p, us, rfl, hp⟩, t⟩ := mu_w hr hl ho h
    exact ⟨_, hv, .inl ⟨rfl, _, .inl (.inl hp)⟩, t⟩
theorem pm_mu0 {id : String} {m : Mu} {r : V → List V → Hp → VK → Prop} (hr : MuR X.K ca m r) (hl : ∀ o ds, muV m o ds ≠ none → ∃ vs, o = .ol vs) (ho : ∀ o ds w o', muV m o ds = some (w, o') → ∃ x vs', w = .d x ∧ o' = .ol vs')
    (slot : Slot "list" nm id) (hty : typeOf (.builtin id) = pure (.type "method_descriptor")) (hm : MtM X id r) (hx : PE X x (tVar i))
    (hbase : attributeBase x nm X.env (eval x X.env) = eval x X.env) (hline : (apos.endLine == pos.line) = true) :
    PE X (.Call (.Attribute x nm apos) [] [] pos) (tI X.K ca Wx c (.mu m i [])) :=
  (pe_bm0 (T := "list") PySem.F.plainAttrs_list slot hty hm hx hbase hline).weak fun σ H Q h => by
    obtain ⟨v, hv, ⟨p, us, rfl, hp⟩, e, F, own, R, P⟩ := mu_w hr hl ho h
    exact ⟨_, hv, .inl ⟨rfl, _, .inl (.inl hp)⟩, P [] H F own [] R .nil (fun a m => by cases m) Ext.refl⟩
end
end PM
end

section
set_option Elab.async false
set_option linter.all false
set_option maxRecDepth 100000
set_option maxHeartbeats 2000000
/-! PMMt2: methods of texts; stores into lists; name op= e; raise; try; a, b = x, y. -/
namespace PM
open PySem PySem.Spec PyProof.Rows L2
section
variable {X : Cx} {ca : Str → Option Addr} {Wx : Wish} {c : Ctx} {x y z : Expr} {xs : List Expr} {es : List ME} {a b : ME} {pos apos : Pos} {nm : Str} {i : Nat}
theorem pm_mt1 {id : String} {m : Mt} {r : V → List V → Hp → VK → Prop} (hr : ∀ (H : Hp) (F : Fs) (t : Str) (u : V) (d : D) (v : Val) (Q : VK), SeeF X.K H F u d → mtD m (.str t) [d] = some v → (∀ u H', Made X.K H F v u H' → Q u H') → r (.str t) [u] H Q)
    (slot : Slot "str" nm id) (hty : typeOf (.builtin id) = pure (.type "method_descriptor")) (hm : MtR X id r) (ho : PE X x (tI X.K ca Wx c a)) (ha : PE X y (tI X.K ca Wx c b))
    (hs : starEach [y] X.env = [(false, eval y X.env)]) (hbase : attributeBase x nm X.env (eval x X.env) = eval x X.env) (hline : (apos.endLine == pos.line) = true) :
    PE X (.Call (.Attribute x nm apos) [y] [] pos) (tI X.K ca Wx c (.mt m a [b])) :=
  (pe_m1 slot hty hm ho ha hs hbase hline).weak fun σ H Q ⟨e, F, own, R, P⟩ => by
    refine rd_one (r := fun u H1 => (∃ a, u = .str a) ∧ tI X.K ca Wx c b σ H1 fun y H2 => r u [y] H2 Q) R P fun va e1 u H1 F1 own1 fp1 R1 V1 N1 E1 P => ?_
    cases va with
    | d q =>
      cases q with
      | str t =>
        obtain rfl := (V1.seeF R1 (x := .str t) rfl).str
        refine ⟨⟨t, rfl⟩, rd_next (r := fun y H2 => r (.str t) [y] H2 Q) E1 R1 (PR.one' (g := fun vs e2 => match sees e2 vs with
          | some ds => opt (mtD m (.str t) ds) e2
          | none => .no) P) fun vb e2 w H2 F2 own2 fp2 R2 V2 N2 E2 E P => ?_⟩
        have P : PR (match sees e2 [vb] with
          | some ds => opt (mtD m (.str t) ds) e2
          | none => .no) _ _ := P
        unfold sees at P
        cases h1 : see e2 vb with
        | none => rw [h1] at P; exact P.elim
        | some d =>
          rw [h1] at P
          obtain ⟨v, hv, P⟩ := PR.opt (show PR (opt (mtD m (.str t) [d]) e2) _ _ from P)
          exact hr H2 F2 t w d v Q (V2.seeF R2 h1) hv (QV.made P R2 E)
      | _ => exact P.elim
    | _ => exact P.elim
theorem pm_mt0 {id : String} {m : Mt} {r : V → List V → Hp → VK → Prop} (hr : ∀ (H : Hp) (F : Fs) (t : Str) (v : Val) (Q : VK), mtD m (.str t) [] = some v → (∀ u H', Made X.K H F v u H' → Q u H') → r (.str t) [] H Q)
    (slot : Slot "str" nm id) (hty : typeOf (.builtin id) = pure (.type "method_descriptor")) (hm : MtR X id r) (ho : PE X x (tI X.K ca Wx c a))
    (hbase : attributeBase x nm X.env (eval x X.env) = eval x X.env) (hline : (apos.endLine == pos.line) = true) :
    PE X (.Call (.Attribute x nm apos) [] [] pos) (tI X.K ca Wx c (.mt m a [])) :=
  (pe_m0 slot hty hm ho hbase hline).weak fun σ H Q ⟨e, F, own, R, P⟩ => by
    refine rd_one (r := fun u H1 => (∃ a, u = .str a) ∧ r u [] H1 Q) R P fun va e1 u H1 F1 own1 fp1 R1 V1 N1 E1 P => ?_
    cases va with
    | d q =>
      cases q with
      | str t =>
        obtain rfl := (V1.seeF R1 (x := .str t) rfl).str
        obtain ⟨v, hv, P⟩ := PR.opt (show PR (opt (mtD m (.str t) []) e1) _ _ from P)
        exact ⟨⟨t, rfl⟩, hr H1 F1 t v Q hv (QV.made P R1 E1)⟩
      | _ => exact P.elim
    | _ => exact P.elim
theorem pm_join (ho : PE X x (tI X.K ca Wx c a)) (ha : PE X y (tI X.K ca Wx c b)) (hs : starEach [y] X.env = [(false, eval y X.env)]) (hbase : attributeBase x "join" X.env (eval x X.env) = eval x X.env) (hline : (apos.endLine == pos.line) = true) :
    PE X (.Call (.Attribute x "join" apos) [y] [] pos) (tI X.K ca Wx c (.mt .join a [b])) :=
  pm_mt1 (fun H F t u d v Q h e q => by
    obtain ⟨zs, hz, e⟩ := Option.bind_eq_some_iff.mp (show (items d).bind (fun xs => (strsD xs).bind fun ss => if (ss.map (·.length)).sum + ss.length * t.length ≤ 16777216 then some (Val.d (.str (Txt.join t ss))) else none) = some v from e)
    obtain ⟨ss, hss, e⟩ := Option.bind_eq_some_iff.mp e
    split at e
    · rename_i hl
      cases e
      obtain ⟨p, us, rfl, hp, d⟩ := h.items hz
      obtain rfl := d.strs hss
      exact ⟨t, p, ss, rfl, rfl, hp, hl, q _ _ (.here (.str _))⟩
    · cases e) PySem.F.slot_str_join PySem.F.type_str_join mt_join ho ha hs hbase hline
theorem pm_upper (ho : PE X x (tI X.K ca Wx c a)) (hbase : attributeBase x "upper" X.env (eval x X.env) = eval x X.env) (hline : (apos.endLine == pos.line) = true) :
    PE X (.Call (.Attribute x "upper" apos) [] [] pos) (tI X.K ca Wx c (.mt .upper a [])) :=
  pm_mt0 (fun H F t v Q e q => by
    have e : (if t.length ≤ 5592405 then some (Val.d (.str (Txt.upper t))) else none) = some v := e
    split at e
    · rename_i hl
      cases e
      exact ⟨t, rfl, rfl, hl, q _ _ (.here (.str _))⟩
    · cases e) PySem.F.slot_str_upper PySem.F.type_str_upper mt_upper ho hbase hline
/-! ### xs[i] = v -/
theorem s_setixL {k : ME} (hv : PE X y (tI X.K ca Wx c a)) (hx : PE X x (tVar i)) (hk : PE X z (tI X.K ca Wx c k)) (hs : swapsWithSole [.Subscript x z apos] y pos.line X.env = pure false) (hw : swappedStores [.Subscript x z apos] y X.env = pure none)
    (h1 : (assignEach [.Subscript x z apos] X.env).map (·.2) = [assign (.Subscript x z apos) X.env])
    (hasg : ∀ v, assign (.Subscript x z apos) X.env v = (do
      let ov ← holding [v] (eval x X.env)
      let iv ← holding [v, ov] (eval z X.env)
      standAt apos
      holding [v, ov, iv] (setItem ov iv v)
      release [v, ov, iv] [])) :
    PS X (.Assign [.Subscript x z apos] y pos) (tM X.K ca Wx c (.setix i k a)) :=
  (ps_asg hv (pg_sub hx hk set_list hasg) hs hw h1).weak fun D σ H ⟨e, F, own, R, P⟩ =>
    sd_one (r := fun u H1 => gSub (tVar i) (tI X.K ca Wx c k) rSetL u σ H1 D.nx) R P fun va e2 u H2 F2 own2 fp R2 V2 N2 E2 P => by
      cases h1 : take e2 va with
      | none => rw [h1] at P; exact P.elim
      | some q =>
        obtain ⟨d, e3⟩ := q
        rw [h1] at P
        dsimp only at P
        obtain ⟨F3, own3, R3, D3, E3⟩ := V2.take R2 h1
        have E23 := (E2.addT N2).trans E3
        split at P
        · rename_i h0
          cases hi : getS e3 i with
          | none => rw [hi] at h0; cases h0
          | some o =>
            cases o with
            | ol vs0 =>
              obtain ⟨p, us0, fp0, hu, hp, _⟩ := R3.mutL hi
              refine ⟨.ref p, hu, sd_next (r := fun w H4 => rSetL (.ref p) w u H4 fun H5 => D.nx σ H5) E23 R3 P fun vk e4 w H4 F4 own4 fp4 R4 V4 N4 E4 P => ?_⟩
              have P : GoF X.K ca Wx c σ H F (Ow own) D (match see e4 vk, getS e4 i with
                | some kd, some o => match setIx o kd d with
                  | some o' => .ok .nx (e4.set i (some o'))
                  | none => .no
                | _, _ => .no) := P
              cases hk : see e4 vk with
              | none => rw [hk] at P; exact P.elim
              | some kd =>
                cases ho : getS e4 i with
                | none => rw [hk, ho] at P; exact P.elim
                | some o =>
                  rw [hk, ho] at P
                  dsimp only at P
                  cases hx : setIx o kd d with
                  | none => rw [hx] at P; exact P.elim
                  | some o' =>
                    rw [hx] at P
                    cases o with
                    | ol vs =>
                      obtain ⟨ds, hd, hx⟩ := Option.bind_eq_some_iff.mp (show (allD vs).bind (fun ds => match kd with
                        | .int i => (L2.ixN ds.length i).map fun j => Val.ol ((ds.set j d).map .d)
                        | _ => none) = some o' from hx)
                      cases kd with
                      | int n =>
                        obtain ⟨j, hj, rfl⟩ := Option.map_eq_some_iff.mp (show (L2.ixN ds.length n).map (fun j => Val.ol ((ds.set j d).map .d)) = some o' from hx)
                        obtain ⟨p', us, fpx, hu4, hp4, ho4, r4, mk⟩ := R4.mutL ho
                        rw [hu] at hu4
                        cases hu4
                        obtain ⟨dd, rfl⟩ := r4.dens hd
                        obtain rfl := (V4.seeF R4 hk).int
                        have du := D3.ext E4 R3.wok
                        obtain ⟨R5, E5⟩ := mk (us.set j u) _ (dd.set du).vrs
                        exact ⟨p, us, n, j, rfl, rfl, hp4, by rw [dd.len]; exact hj, P σ _ F4 own4 .refl R5 ((E23.trans E4).trans E5)⟩
                      | _ => cases hx
                    | _ => cases hx
            | _ => rw [hi] at h0; cases h0
        · exact P.elim
end
end PM
end

section
set_option Elab.async false
set_option linter.all false
set_option maxRecDepth 100000
set_option maxHeartbeats 2000000
/-! PMMt3: name op= e; a, b = x, y; raise; try: .. except C as n: y = n. -/
namespace PM
open PySem PySem.Spec PyProof.Rows L2
section
variable {K : PySem.W.Frag} {ca : Str → Option Addr} {c : Ctx} {σ : L2.St} {e e' : Env} {H H' : Hp} {F F' W W' : Fs} {own : Nat → List Addr}
theorem RVs.stowAll : ∀ {vs : List Val} {us : List V} {fp : List Addr} {vs' : List Val} {e e' : Env} {F : Fs} {own : Nat → List Addr}, Rel K ca σ H e F own → RVs K ca σ H F (Ow own) us vs fp → PM.stowAll e vs = some (vs', e') →
    ∃ F' own' fp', Rel K ca σ H e' F' own' ∧ VRs K ca H F' us vs' fp' ∧ fp'.Nodup ∧ (∀ a ∈ fp', ¬ F' a ∧ ¬ Ow own' a) ∧ (∀ a ∈ fp', a ∈ fp) ∧ Ext H F (fun a => Ow own a ∨ a ∈ fp) H F' (Ow own')
  | [], us, fp, vs', e, e', F, own, R, h, t => by
    cases h
    cases t
    exact ⟨F, own, [], R, .nil, .nil, fun a m => (by cases m), fun a m => (by cases m), Ext.same fun a z => .inl (.inl z)⟩
  | v :: vs, us, fp, vs', e, e', F, own, R, h, t => by
    cases h with
    | @cons u us v vs fp gp h r d =>
      obtain ⟨⟨v', e1⟩, h1, t⟩ := Option.bind_eq_some_iff.mp (show (PM.stow e v).bind (fun p => (PM.stowAll p.2 vs).map fun q => (p.1 :: q.1, q.2)) = some (vs', e') from t)
      obtain ⟨⟨ws, e2⟩, h2, t⟩ := Option.map_eq_some_iff.mp t
      cases t
      obtain ⟨F1, own1, fp1, R1, r1, n1, f1, s1, E1⟩ := h.stow R h1
      have w1 := R.wok.addT h
      have rr : RVs K ca σ H F1 (Ow own1) us vs gp := (r.widen (gp := fp) fun a m z => d a z m).ext E1 w1
      obtain ⟨F2, own2, fp2, R2, r2, n2, f2, s2, E2⟩ := RVs.stowAll R1 rr h2
      have w2 := R1.wok.addTs rr
      have dj : ∀ a ∈ fp1, ¬ (Ow own1 a ∨ a ∈ gp) := fun a m z => z.elim (f1 a m).2 (d a (s1 a m))
      have r1' : VR K ca H F2 u v' fp1 := r1.ext E2 w2 dj
      have fr : ∀ a ∈ fp1, ¬ F2 a ∧ ¬ Ow own2 a := fun a m => ⟨fun f => (E2.fr' a f).elim (f1 a m).1 fun z => z.elim (dj a m) (r1.mb a m).some, fun w => (E2.own a w).elim (dj a m) (r1.mb a m).some⟩
      refine ⟨F2, own2, fp1 ++ fp2, R2, .cons r1' r2, List.nodup_append.mpr ⟨n1, n2, fun a m b m' => ?_⟩, fun a m => (List.mem_append.mp m).elim (fr a) (f2 a), fun a m => ?_, ?_⟩
      · rintro rfl
        exact d a (s1 a m) (s2 a m')
      · exact (List.mem_append.mp m).elim (fun m => List.mem_append_left _ (s1 a m)) fun m => List.mem_append_right _ (s2 a m)
      · have E1' : Ext H F (fun a => Ow own a ∨ a ∈ fp ++ gp) H F1 (fun a => Ow own1 a ∨ a ∈ gp) := by
          refine E1.widen (fun a z => z.elim .inl fun m => .inr (List.mem_append_left _ m)) fun a z => z.elim (fun z => ?_) fun m => .inl (.inr (List.mem_append_right _ m))
          exact (E1.own a z).imp (fun z => z.elim .inl fun m => .inr (List.mem_append_left _ m)) id
        exact E1'.trans E2
def setsσ (σ : L2.St) : List Nat → List V → L2.St
  | i :: is, u :: us => setsσ (σ.set i (some u)) is us
  | _, _ => σ
theorem setAll_ok : ∀ {is : List Nat} {vs : List Val} {us : List V} {fp : List Addr} {σ : L2.St} {e e' : Env} {own : Nat → List Addr}, Rel K ca σ H e F own → VRs K ca H F us vs fp → fp.Nodup → (∀ a ∈ fp, ¬ F a ∧ ¬ Ow own a) → setAll c is vs e = some e' →
    is.length = us.length ∧ Prz c σ (setsσ σ is us) ∧ ∃ own', Rel K ca (setsσ σ is us) H e' F own' ∧ ∀ a, Ow own' a → Ow own a ∨ a ∈ fp
  | [], vs, us, fp, σ, e, e', own, R, h, nd, f, s => by
    cases vs with
    | nil =>
      cases h
      cases s
      exact ⟨rfl, .refl, own, R, fun a z => .inl z⟩
    | cons _ _ => cases s
  | i :: is, vs, us, fp, σ, e, e', own, R, h, nd, f, s => by
    cases vs with
    | nil => cases s
    | cons v vs =>
      cases h with
      | @cons u us v vs fp gp h r =>
        obtain ⟨e1, h1, s⟩ := Option.bind_eq_some_iff.mp (show (setSl c e i v).bind (fun e1 => setAll c is vs e1) = some e' from s)
        obtain ⟨n1, n2, n3⟩ := List.nodup_append.mp nd
        obtain ⟨p1, own1, R1, o1⟩ := R.sets h n1 (fun a m => f a (List.mem_append_left _ m)) h1
        obtain ⟨l, p2, own2, R2, o2⟩ := setAll_ok R1 r n2 (fun a m => ⟨(f a (List.mem_append_right _ m)).1, fun z => (o1 a z).elim (f a (List.mem_append_right _ m)).2 fun z => n3 a z a m rfl⟩) s
        exact ⟨by rw [List.length_cons, List.length_cons, l], p1.trans p2, own2, R2, fun a z => (o2 a z).elim (fun z => (o1 a z).imp id (List.mem_append_left _)) fun m => .inr (List.mem_append_right _ m)⟩
end
section
variable {X : Cx} {ca : Str → Option Addr} {Wx : Wish} {c : Ctx} {x y z : Expr} {xs : List Expr} {es : List ME} {a b : ME} {pos apos p pt : Pos} {nm : Str} {i j l : Nat} {k k2 : Nat} {pt2 : Pos}
theorem par_w {is : List Nat} {D : Ends} {σ : L2.St} {H : Hp} (h : tM X.K ca Wx c (.par is es) D σ H) : tIs X.K ca Wx c es σ H fun us H1 => is.length = us.length ∧ D.nx (setsσ σ is us) H1 := by
  obtain ⟨e, F, own, R, P⟩ := h
  refine sd_list (r := fun us H1 => is.length = us.length ∧ D.nx (setsσ σ is us) H1) R P fun vs e2 us H2 F2 own2 fp R2 V2 N2 E2 P => ?_
  cases h1 : stowAll e2 vs with
  | none => rw [h1] at P; exact P.elim
  | some q =>
    obtain ⟨vs', e3⟩ := q
    rw [h1] at P
    dsimp only at P
    cases h2 : setAll c is vs' e3 with
    | none => rw [h2] at P; exact P.elim
    | some e4 =>
      rw [h2] at P
      obtain ⟨F3, own3, fp3, R3, r3, n3, f3, s3, E3⟩ := V2.stowAll R2 h1
      obtain ⟨l, p, own4, R4, o4⟩ := setAll_ok R3 r3 n3 f3 h2
      exact ⟨l, P _ H2 F3 own4 p R4 ((E2.addT N2).trans ⟨E3.keep, E3.live, fun a z => (o4 a z).elim (E3.own a) fun m => .inl (.inr (s3 a m)), E3.fr, E3.fr'⟩)⟩
theorem s_par2 {n1 n2 : Str} {px py : Pos} (hc : X.calm = true) (hN : X.N.Nodup) (hi : X.N[i]? = some n1) (hj : X.N[j]? = some n2) (hij : i ≠ j) (hx : X.env.scope.names.lookup n1 = some .local) (hy : X.env.scope.names.lookup n2 = some .local)
    (ha : PA X [x, y] (tIs X.K ca Wx c es)) (hw : swappedStores [.Tuple [.Name n1 px, .Name n2 py] k pt] (.Tuple [x, y] k2 pt2) X.env = pure (some [n1, n2]))
    (hs : swapsWithSole [.Tuple [.Name n1 px, .Name n2 py] k pt] (.Tuple [x, y] k2 pt2) pos.line X.env = pure false) :
    PS X (.Assign [.Tuple [.Name n1 px, .Name n2 py] k pt] (.Tuple [x, y] k2 pt2) pos) (tM X.K ca Wx c (.par [i, j] es)) :=
  (ps_par hc hN hi hj hij hx hy ha hw hs).weak fun D σ H h => by
    obtain ⟨e, F, own, R, P⟩ := par_w h
    exact ⟨e, F, own, R, P.mono (fun vs e' q u H' F' own' fp R' V' N' E' => by
      obtain ⟨l, q⟩ := q u H' F' own' fp R' V' N' E'
      match u, l with
      | [v, w], _ => exact ⟨v, w, rfl, q⟩) fun _ _ q => q⟩
theorem s_par3 {n1 n2 n3 : Str} {px py pz : Pos} (hc : X.calm = true) (hN : X.N.Nodup) (hi : X.N[i]? = some n1) (hj : X.N[j]? = some n2) (hl : X.N[l]? = some n3) (hij : i ≠ j) (hil : i ≠ l) (hjl : j ≠ l) (hx : X.env.scope.names.lookup n1 = some .local) (hy : X.env.scope.names.lookup n2 = some .local) (hz : X.env.scope.names.lookup n3 = some .local)
    (ha : PA X [x, y, z] (tIs X.K ca Wx c es)) (hw : swappedStores [.Tuple [.Name n1 px, .Name n2 py, .Name n3 pz] k pt] (.Tuple [x, y, z] k2 pt2) X.env = pure (some [n1, n2, n3]))
    (hs : swapsWithSole [.Tuple [.Name n1 px, .Name n2 py, .Name n3 pz] k pt] (.Tuple [x, y, z] k2 pt2) pos.line X.env = pure false) :
    PS X (.Assign [.Tuple [.Name n1 px, .Name n2 py, .Name n3 pz] k pt] (.Tuple [x, y, z] k2 pt2) pos) (tM X.K ca Wx c (.par [i, j, l] es)) :=
  (ps_par3 hc hN hi hj hl hij hil hjl hx hy hz ha hw hs).weak fun D σ H h => by
    obtain ⟨e, F, own, R, P⟩ := par_w h
    exact ⟨e, F, own, R, P.mono (fun vs e' q u H' F' own' fp R' V' N' E' => by
      obtain ⟨l, q⟩ := q u H' F' own' fp R' V' N' E'
      match u, l with
      | [v, w, o], _ => exact ⟨v, w, o, rfl, q⟩) fun _ _ q => q⟩
theorem s_aug {op : Operator} (ho : op = .Add ∨ op = .Sub) (hN : X.N.Nodup) (hi : X.N[i]? = some nm) (hx : Loc X.env.scope nm) (hf : X.fn nm = true ∨ X.env.scope.names.lookup nm = some .local) (ha : PE X x (tI X.K ca Wx c a)) :
    PS X (.AugAssign (.Name nm p) op x pos) (tM X.K ca Wx c (.aug i op a)) := by
  have key : ∀ (f : Int → Int → Int), (∀ i j, augD op (.int i) (.int j) = some (.int (f i j))) → (∀ x y z, augD op x y = some z → ∃ i j, x = .int i ∧ y = .int j) → ∀ D σ H, tM X.K ca Wx c (.aug i op a) D σ H → tAug i (tI X.K ca Wx c a) (ipI f) D σ H := fun f h1 h2 D σ H ⟨e, F, own, R, P⟩ => by
    have P : GoF X.K ca Wx c σ H F (Ow own) D (match getS e i with
      | some (.d x) => (ev c a e).bind fun v e1 => match see e1 v with
        | some y => match augD op x y with
          | some z => match setSl c e1 i (.d z) with
            | some e2 => .ok .nx e2
            | none => .no
          | none => .no
        | none => .no
      | _ => .no) := P
    cases hs : getS e i with
    | none => rw [hs] at P; exact P.elim
    | some o =>
      rw [hs] at P
      cases o with
      | d q =>
        dsimp only at P
        obtain ⟨u, hu, r⟩ := R.slot i _ hs
        have hd : Den X.K H F u q := by
          generalize own i = fp at r
          cases r with | d h => exact h
        refine ⟨u, hu, sd_one (r := fun y H1 => ipI f u y H1 fun z H2 => D.nx (σ.set i (some z)) H2) R P fun va e2 w H2 F2 own2 fp R2 V2 N2 E2 P => ?_⟩
        cases h3 : see e2 va with
        | none => rw [h3] at P; exact P.elim
        | some y =>
          rw [h3] at P
          dsimp only at P
          cases h4 : augD op q y with
          | none => rw [h4] at P; exact P.elim
          | some z =>
            rw [h4] at P
            dsimp only at P
            obtain ⟨m, n, rfl, rfl⟩ := h2 _ _ _ h4
            rw [h1] at h4
            cases h4
            cases h5 : setSl c e2 i (.d (.int (f m n))) with
            | none => rw [h5] at P; exact P.elim
            | some e3 =>
              rw [h5] at P
              obtain rfl := (SeeF.den hd).int
              obtain rfl := (V2.seeF R2 h3).int
              obtain ⟨p, own', R', o'⟩ := R2.sets (u := .int (f m n)) (.d (.int _)) .nil (fun a m => by cases m) h5
              exact ⟨m, n, rfl, rfl, P _ H2 F2 own' p R' (E2.trans (Ext.same fun a z => (o' a z).imp id fun m => by cases m))⟩
      | _ => exact P.elim
  rcases ho with rfl | rfl
  · refine (ps_aug hN hi hx ha ip_add hf).weak (key (fun i j => i + j) (fun _ _ => rfl) fun x y z h => ?_)
    cases x <;> cases y <;> first | exact ⟨_, _, rfl, rfl⟩ | cases h
  · refine (ps_aug hN hi hx ha ip_sub hf).weak (key (fun i j => i - j) (fun _ _ => rfl) fun x y z h => ?_)
    cases x <;> cases y <;> first | exact ⟨_, _, rfl, rfl⟩ | cases h
/-! ### raise -/
/-- an own exception class without an __init__ of its own -/
structure ExcPl (K : PySem.W.Frag) (C : Addr) : Prop where
  q : ∃ B newId initId bmB, ExcBaseFacts B newId initId bmB ∧ PySem.W.excIn K C bmB newId = true
  keep : PySem.W.keepIn K (.ref C) = true
  sub : PySem.W.subIn K (.ref C) (.type "BaseException") = some true
  ty : PySem.W.typeIn K (.ref C) = some (.type "type")
theorem s_raise {C : Addr} (E : ExcPl X.K C) (hca : ca nm = some C) (hfl : c.flds nm = []) (hc : X.calm = true) (tk : L2.Takes X Wx) (hm : X.mg nm = some (.ref C)) (hg : Gl X nm) (hdb : (nm == ("__debug__" : Str)) = false) (ha : PA X (x :: xs) (tIs X.K ca Wx c es))
    (he : starEach (x :: xs) X.env = (false, eval x X.env) :: starEach xs X.env) (hpl : (backTo pos (starEach xs X.env)).any (·.1) = false) :
    PS X (.Raise (some (.Call (.Name nm p) (x :: xs) [] pos)) none apos) (tM X.K ca Wx c (.raise nm es)) := by
  obtain ⟨B, newId, initId, bmB, h1, h2⟩ := E.q
  refine (L2.ps_raise hc tk (pmk_ownA h1 h2 hm E.keep (raises_own E.sub E.ty) hg ha hdb he hpl)).weak fun D σ H ⟨e, F, own, R, P⟩ => ?_
  refine sd_list (r := fun us H1 => us.length ≤ sizeLine ∧ Wx (.ref C) none σ H1) R P fun vs e2 us H2 F2 own2 fp R2 V2 N2 E2 P => ?_
  cases h3 : takes e2 vs with
  | none => rw [h3] at P; exact P.elim
  | some q =>
    obtain ⟨ds, e3⟩ := q
    rw [h3] at P
    dsimp only at P
    obtain ⟨F3, own3, R3, D3, E3⟩ := V2.takes R2 h3
    split at P
    · rename_i hz
      have ex : excOf c nm ds = ⟨nm, []⟩ := by unfold excOf; rw [hfl]; rfl
      rw [ex] at P
      exact ⟨by rw [D3.len]; exact hz, P (.ref C) none σ H2 F3 own3 .refl R3 ⟨C, hca, rfl, .inl ⟨rfl, rfl⟩⟩ ((E2.addT N2).trans E3)⟩
    · exact P.elim
end
/-! ### try: .. except C as n: y = n -/
abbrev Cx.hot (X : Cx) (a : Addr) (pn : List (Addr × Obj)) : Cx := { X with A := X.A.mark (some (.ref a)), calm := false, pn := pn, xe := fun _ _ => False }
section
variable {X : Cx} {pins : List (Addr × Obj)} {σ : L2.St} {H : Hp} {s : Shared}
theorem Inv.hot (I : Inv X pins σ H s) (a : Addr) : Inv (Cx.hot X a (X.pn ++ pins)) [] σ H s :=
  ⟨⟨I.ok.mod, I.ok.kind, I.ok.glob, I.ok.blt, I.ok.above, I.ok.inj, I.ok.has, I.ok.cab, (fun z => absurd (show false = true from z) Bool.false_ne_true), I.ok.frames, I.ok.stk, I.ok.exf, I.ok.bs, I.ok.bsz, I.ok.noex, I.ok.exfs, I.ok.funs, I.ok.frf⟩, I.os, I.bare, I.base, I.loc, I.cell, I.free, I.freeC,
    fun p hp => I.pin p (by rw [List.append_nil] at hp; exact hp), I.hok, I.len⟩
theorem Inv.unhot {a : Addr} {pn' : List (Addr × Obj)} (I : Inv (Cx.hot X a (X.pn ++ pins)) pn' σ H s) (ok : X.Ok) : Inv X pins σ H s :=
  ⟨ok, I.os, I.bare, I.base, I.loc, I.cell, I.free, I.freeC, fun p hp => I.pin p (List.mem_append_left _ hp), I.hok, I.len⟩
end
/-- what the clause wishes: the caught object stands in y's slot -/
def wSet (K : PySem.W.Frag) (cv : Value) (i j : Nat) (Wout : Wish) (D : Ends) : Wish := fun cls d σ H => ∃ b, PySem.W.exmOne K cls cv = some b ∧
  (b = true → ∀ a, H a = none → D.nx (((σ.set i (some (.ref a))).set j (some (.ref a))).set i none) (upd H a (exO cls d a))) ∧ (b = false → Wout cls d σ H)
section
variable {X : Cx} {nm y n : Str} {cv : Value} {i j : Nat} {body : List Stmt} {p1 p2 p3 p4 pos pos' : Pos} {tb : Wish → TS} {Wout : Wish}
theorem ps_try_set (hs : X.stack = X.env :: X.outer) (hf : X.env.frame = some X.env.locals) (hN : X.N.Nodup) (hi : X.N[i]? = some n) (hj : X.N[j]? = some y) (hln : X.env.kindOf n = some .local) (hly : X.env.kindOf y = some .local) (hc : Names X nm cv) (tk : L2.Takes X Wout)
    (hd1 : (n == ("__debug__" : Str)) = false) (hd2 : (n == ("__classdict__" : Str)) = false) (hsw : swapsWith (.Name n p3) (some (.Name y p2)) p4.line X.env = pure false)
    (hb : ∀ (W : Wish) (pn : List (Addr × Obj)) (xe : Value → Shared → Prop), L2.Takes (X.tr pn xe) W → PassesOwn (model X.prog X.w) X.A X.env xe → PSs (X.tr pn xe) body (tb W)) :
    PS X (.Try body [.ExceptHandler (some (.Name nm p1)) (some n) [.Assign [.Name y p2] (.Name n p3) p4] pos'] [] [] pos) (fun D σ H => tb (wSet X.K cv i j Wout D) D σ H) := by
  refine ⟨fun pins s σ H D I h => ?_⟩
  have ok := I.ok
  have hfr : X.A.frames = some (X.env :: X.outer) := by rw [ok.frames, hs]
  refine wpAny_Try_except ?_
  refine wpAny_mono ((hb (wSet X.K cv i j Wout D) (X.pn ++ pins) (fun e s₁ => wpAny (model X.prog X.w) X.A (noteFrame e X.env) (fun _ s₂ => wpAny (model X.prog X.w) X.A (setFlight e none) (fun _ s₃ =>
    wpAny (model X.prog X.w) X.A (handleBy e X.env [.ExceptHandler (some (.Name nm p1)) (some n) [.Assign [.Name y p2] (.Name n p3) p4] pos']) (SP X pins D) X.xe s₃) X.xe s₂) X.xe s₁) (fun u s' xx => ?_) PassesOwn.looking).run [] s σ H D (I.toTry _) h) (fun f s1 hsp => ?_) (fun e s1 he => he)
  · obtain ⟨a, B, sI, pins', σ', H', cls, d, rfl, J', nb, up, sky, na, os, ag, b, hb1, hyes, hno⟩ := xx
    have J : Inv X pins σ' H' sI := J'.ofTry ok
    have sky' : Sky B (X.env :: X.outer) a (Zc cls d) X.env.locals s'.heap := by rw [← hs]; exact sky
    show wpAny (model X.prog X.w) X.A (noteFrame (.ref a) X.env) _ _ _
    refine Sky.land Zc.steady hfr hf sky' fun h3 fl3 up3 => ?_
    have J3 : Inv X pins σ' H' { s' with heap := h3 } := J.landed nb fl3.1 (up.trans up3) os ag
    obtain ⟨oe3, vs3, he3, hz3, hd3⟩ := fl3.there
    have notFr : ∀ {h : Heap} {o : Obj} {vs : Array Value}, h.FunFrames B (X.env :: X.outer) → h.get? a = some o → o.data = .fields vs → a ∉ frs (X.env :: X.outer) := fun {h o vs} ff e dd hm => by
      obtain ⟨_, o', e', hnf⟩ := ff.mem hm
      rw [e] at e'; cases e'
      exact hnf _ dd
    have nfr := notFr fl3.2.2.1 he3 hd3
    -- the exception's object is not among ours
    have nI : sI.heap.get? a = none := by
      cases q : sI.heap.get? a with
      | none => rfl
      | some o =>
        have z := nb a o q (by rw [hs]; exact nfr)
        rw [fl3.2.1] at z
        cases z
    refine wpAny_handleBy_cons (codeAny_handlers_test ?_) (by intro q; cases q)
    have LT : PySem.W.Looks (model X.prog X.w) h3 (typeOf (.ref a)) cls := fun A Q E s k q => wpAny_typeOf_ref (k _ _ he3) (by rw [hz3.1]; exact q)
    have LM := PySem.W.exm_one (M := model X.prog X.w) (J3.kIn) LT hb1
    have S3 := Inv.hot J3 a
    have test : ∀ {Q : Value → Shared → Prop} {E : Value → Shared → Prop}, Q cv { s' with heap := h3 } → wpAny (model X.prog X.w) (X.A.mark (some (.ref a))) (eval (.Name nm p1) X.env) Q E { s' with heap := h3 } := fun {Q E} q => by
      obtain ⟨hg, hdbg, hm | ⟨hm, hv, hnn⟩⟩ := hc
      · exact ld_glob (X := Cx.hot X a (X.pn ++ pins)) S3 hg hm q hdbg
      · exact ld_blt (X := Cx.hot X a (X.pn ++ pins)) S3 hg hm hv q hnn hdbg
    refine test (LM.here ?_)
    cases b with
    | true =>
      refine codeAny_handlers_suite_as ?_
      refine HandSPX.lands_againZ fl3 fun h4 fl4 up4 => ?_
      obtain ⟨oe4, vs4, he4, hz4, hd4⟩ := fl4.there
      -- our state without the object, then with it
      obtain ⟨G, g1, g2⟩ := restrict h4 fun b => decide (b ≠ a)
      have gk : ∀ b o, b ≠ a → h4.get? b = some o → G.get? b = some o := fun b o hb e => by
        rw [g1 b (decide_eq_true hb)]; exact e
      have ga : G.get? a = none := g2 a (decide_eq_false fun z => z rfl)
      have gs : ∀ b o, G.get? b = some o → h4.get? b = some o := fun b o e => by
        by_cases q : b = a
        · subst q; rw [ga] at e; cases e
        · rw [g1 b (decide_eq_true q)] at e; exact e
      have JG : Inv X pins σ' H' { s' with heap := G } := J.landed (s' := { s' with heap := G }) nb (fun b o e => gk b o (fun z => by subst z; rw [fl4.2.1] at e; cases e) (fl4.1 b o e))
        (fun b o e hnf => by
          obtain ⟨sl, q⟩ := ((up.trans up3).trans up4) b o e hnf
          exact ⟨sl, gk b _ (fun z => by subst z; rw [nI] at e; cases e) q⟩) os ag
      have J4 : Inv X pins σ' (upd H' a (exO cls d a)) { s' with heap := h4 } := JG.laidN (h' := h4) (t' := s'.toks) gs ga na ⟨⟨oe4, vs4, he4, hz4, hd4⟩, ⟨oe4, he4⟩, fun h1 h2 ⟨oe, vs, q1, q2, q3⟩ k => ⟨oe, vs, k _ q1, q2, q3⟩⟩
      have S4 := Inv.hot J4 a
      refine store_ok (X := Cx.hot X a (X.pn ++ pins)) (v := .ref a) S4 hN hi (.inl hln) rfl (fun s5 S5 => ?_) (.inr hln)
      have suite : PSs (Cx.hot X a (X.pn ++ pins)) [.Assign [.Name y p2] (.Name n p3) p4] (tAsg (tVar i) (gName j)) := pss_one (ps_set hN hj (.inl hly) (pe_var hi (.inl hln) hd1 hd2) hsw (.inr hly))
      have at' : (σ'.set i (some (V.ref a)))[i]? = some (some (.ref a)) := by
        have : i < σ'.length := by rw [J.len]; exact (List.getElem?_eq_some_iff.mp hi).1
        rw [List.getElem?_set_self this]
      refine wpAny_mono (suite.run [] s5 _ _ { nx := fun σ2 H2 => D.nx (σ2.set i none) H2, rt := fun _ _ => False } S5 ⟨.ref a, at', hyes rfl a na⟩) (fun f s6 hsp => ?_) (fun _ _ z => False.elim z)
      cases f with
      | next =>
        obtain ⟨σ6, H6, S6, q6⟩ := hsp
        exact gone_ok (Inv.unhot S6 ok) hN hi hln fun s7 J7 => ⟨_, _, J7, q6⟩
      | brk => obtain ⟨_, _, _, q⟩ := hsp; exact False.elim q
      | cont => obtain ⟨_, _, _, q⟩ := hsp; exact False.elim q
      | ret u => obtain ⟨_, _, _, _, _, q⟩ := hsp; exact False.elim q
    | false =>
      show wpAny _ X.A (handleBy (.ref a) X.env []) _ _ _
      refine wpAny_handleBy_nil ?_
      obtain ⟨k1, k2, k3, oe, vs, T, oT, ts', he, hz, hd, h1, hr⟩ := id fl3
      unfold PySem.passOn
      refine wpAny_bind (wpAny_field he hd h1 ?_)
      rw [if_neg (show ¬ ((Value.ref T == Value.none) = true) from by simp)]
      have fin : wpAny (model X.prog X.w) X.A (setFlight (.ref a) X.env.frame) (fun _ s4 => wpAny (model X.prog X.w) X.A (throw (.ref a) : Sem PySem.Flow) (SP X pins D) X.xe s4) X.xe { s' with heap := h3 } := by
        rw [hf]
        refine HandSPX.setFlight_upZ fl3 fun h4 hh4 up4 => wpAny_throw (tk _ _ ?_)
        exact ⟨a, B, sI, pins, σ', H', cls, d, rfl, J, nb, (up.trans up3).trans up4, .inr (.inr (by rw [hs]; exact hh4)), na, os, ag, hno rfl⟩
      first
        | exact wpAny_bind (wpAny_pure (wpAny_bind fin))
        | exact wpAny_bind fin
  · cases f with
    | next =>
      obtain ⟨σ', H', J', q⟩ := hsp
      exact wpAny_execs_nil ⟨σ', H', J'.ofTry ok, q⟩
    | brk =>
      obtain ⟨σ', H', J', q⟩ := hsp
      exact ⟨σ', H', J'.ofTry ok, q⟩
    | cont =>
      obtain ⟨σ', H', J', q⟩ := hsp
      exact ⟨σ', H', J'.ofTry ok, q⟩
    | ret u =>
      obtain ⟨v, σ', H', J', r, q⟩ := hsp
      exact ⟨v, σ', H', J'.ofTry ok, r, q⟩
end
section
variable {X : Cx} {ca : Str → Option Addr} {Wx : Wish} {c : Ctx} {nm y n : Str} {cv : Value} {i j : Nat} {body : List Stmt} {msb : List MS} {p1 p2 p3 p4 pos pos' : Pos}
theorem s_try (hex : ∀ k C, ca k = some C → PySem.W.exmOne X.K (.ref C) cv = some (c.sub k nm)) (hs : X.stack = X.env :: X.outer) (hf : X.env.frame = some X.env.locals) (hN : X.N.Nodup) (hi : X.N[i]? = some n) (hj : X.N[j]? = some y) (hln : X.env.kindOf n = some .local) (hly : X.env.kindOf y = some .local)
    (hc : Names X nm cv) (tk : L2.Takes X Wx) (hd1 : (n == ("__debug__" : Str)) = false) (hd2 : (n == ("__classdict__" : Str)) = false) (hsw : swapsWith (.Name n p3) (some (.Name y p2)) p4.line X.env = pure false)
    (hb : ∀ (W : Wish) (pn : List (Addr × Obj)) (xe : Value → Shared → Prop), L2.Takes (X.tr pn xe) W → PassesOwn (model X.prog X.w) X.A X.env xe → PSs (X.tr pn xe) body (tMs X.K ca W c msb)) :
    PS X (.Try body [.ExceptHandler (some (.Name nm p1)) (some n) [.Assign [.Name y p2] (.Name n p3) p4] pos'] [] [] pos) (tM X.K ca Wx c (.tryset msb nm i j)) :=
  (ps_try_set (tb := fun W => tMs X.K ca W c msb) hs hf hN hi hj hln hly hc tk hd1 hd2 hsw hb).weak fun D σ H ⟨e, F, own, R, P⟩ => by
    refine ⟨e, F, own, R, ?_⟩
    have P : GoF X.K ca Wx c σ H F (Ow own) D (match exs c msb e with
      | .ex z e1 => if c.sub z.c nm = true then match setSl c e1 j (.ex z.c z.fs) with
          | some e2 => match setSl c e2 i (.ex z.c z.fs) with
            | some e3 => .ok .nx (e3.set i none)
            | none => .no
          | none => .no
        else .ex z e1
      | r => r) := P
    cases hx : exs c msb e with
    | ok fl e1 => rw [hx] at P; exact P
    | no => rw [hx] at P; exact P
    | ex z e1 =>
      rw [hx] at P
      dsimp only at P
      intro cls d σ' H' F' own' pz R' ⟨C, hC, hcls, xd⟩ E'
      subst hcls
      refine ⟨c.sub z.c nm, hex _ _ hC, fun hb a ha => ?_, fun hb => ?_⟩
      · rw [if_pos hb] at P
        cases h2 : setSl c e1 j (.ex z.c z.fs) with
        | none => rw [h2] at P; exact P.elim
        | some e2 =>
          rw [h2] at P
          dsimp only at P
          cases h3 : setSl c e2 i (.ex z.c z.fs) with
          | none => rw [h3] at P; exact P.elim
          | some e3 =>
            rw [h3] at P
            have EA : Ext H' F' (Ow own') (upd H' a (exO (.ref C) d a)) F' (Ow own') := Ext.alloc ha
            have RA := R'.alloc (p := a) (o := exO (.ref C) d a) ha
            have r : VR X.K ca (upd H' a (exO (.ref C) d a)) F' (.ref a) (.ex z.c z.fs) [] := .ex hC upd_same (xd.ext EA R'.wok)
            obtain ⟨q1, own1, R1, o1⟩ := RA.sets r .nil (fun a m => by cases m) h2
            obtain ⟨q2, own2, R2, o2⟩ := R1.sets r .nil (fun a m => by cases m) h3
            have R3 := R2.unset (i := i) (o := none)
            have pi : c.pr[i]? ≠ some true := (setSl_some h3).1
            have eσ : ((σ'.set j (some (V.ref a))).set i (some (V.ref a))).set i none = ((σ'.set i (some (V.ref a))).set j (some (V.ref a))).set i none := by
              by_cases ij : i = j
              · subst ij; rfl
              · rw [List.set_comm _ _ ij]
            rw [eσ] at R3
            refine (show QF X.K ca c σ H F (Ow own) D .nx (e3.set i none) from P) _ _ F' _ ?_ R3 ((E'.trans EA).trans (Ext.same fun b z => ?_))
            · rw [← eσ]
              exact ((pz.trans q1).trans q2).trans (Prz.set pi)
            · obtain ⟨k, z⟩ := z
              have z : b ∈ (if k = i then [] else own2 k) := z
              by_cases q : k = i
              · rw [if_pos q] at z; cases z
              · rw [if_neg q] at z
                exact ((o2 b ⟨k, z⟩).elim (fun z => (o1 b z).elim .inl fun m => by cases m) fun m => by cases m)
      · rw [if_neg (by rw [hb]; exact Bool.false_ne_true)] at P
        exact (show QXs X.K ca Wx c σ H F (Ow own) z e1 from P) (.ref C) d σ' H' F' own' pz R' ⟨C, hC, rfl, xd⟩ E'
end
end PM
end

section
set_option Elab.async false
set_option linter.all false
set_option maxRecDepth 100000
set_option maxHeartbeats 2000000
/-! PMDic: displays of dicts. -/
namespace PM
open PySem PySem.Spec PyProof.Rows L2
/-- a dict's items by data, the keys the same -/
inductive DKs (K : PySem.W.Frag) (H : Hp) (F : Fs) : List (Key × V) → List (Key × D) → Prop
  | nil : DKs K H F [] []
  | cons {k : Key} {u : V} {us : List (Key × V)} {x : D} {xs : List (Key × D)} : Den K H F u x → DKs K H F us xs → DKs K H F ((k, u) :: us) ((k, x) :: xs)
section
variable {K : PySem.W.Frag} {ca : Str → Option Addr} {H : Hp} {F : Fs}
theorem DKs.vrk {us : List (Key × V)} {xs : List (Key × D)} (h : DKs K H F us xs) : VRk K ca H F us (liftK xs) [] := by
  induction h with
  | nil => exact .nil
  | cons d _ ih => exact VRk.cons (fp := []) (gp := []) (.d d) ih
theorem DKs.app {us vs : List (Key × V)} {xs ys : List (Key × D)} (h : DKs K H F us xs) (g : DKs K H F vs ys) : DKs K H F (us ++ vs) (xs ++ ys) := by
  induction h with
  | nil => exact g
  | cons d _ ih => exact .cons d ih
theorem DKs.any {us : List (Key × V)} {xs : List (Key × D)} (h : DKs K H F us xs) (k : Key) : (us.any fun kv => decide (kv.1 = k)) = (xs.any fun kv => decide (kv.1 = k)) := by
  induction h with
  | nil => rfl
  | cons d _ ih => rw [List.any_cons, List.any_cons, ih]
theorem DKs.over {us : List (Key × V)} {xs : List (Key × D)} (h : DKs K H F us xs) {k : Key} {u : V} {x : D} (d : Den K H F u x) : DKs K H F (us.map fun kv => if kv.1 = k then (kv.1, u) else kv) (xs.map fun kv => if kv.1 = k then (kv.1, x) else kv) := by
  induction h with
  | nil => exact .nil
  | @cons k' u' us x' xs dd _ ih =>
    rw [List.map_cons, List.map_cons]
    dsimp only
    split
    · exact .cons d ih
    · exact .cons dd ih
theorem DKs.len {us : List (Key × V)} {xs : List (Key × D)} (h : DKs K H F us xs) : us.length = xs.length := by
  induction h with
  | nil => rfl
  | cons _ _ ih => rw [List.length_cons, List.length_cons, ih]
theorem DKs.put {us : List (Key × V)} {xs : List (Key × D)} (h : DKs K H F us xs) {k : Key} {u : V} {x : D} (d : Den K H F u x) : DKs K H F (L2.putK us k u) (PM.putK xs k x) := by
  unfold L2.putK PM.putK
  rw [h.any k]
  split
  · exact h.over d
  · exact h.app (.cons d .nil)
theorem DKs.ext {H' : Hp} {F' W W' : Fs} (E : Ext H F W H' F' W') (w : Wok H F W) {us : List (Key × V)} {xs : List (Key × D)} (h : DKs K H F us xs) : DKs K H' F' us xs := by
  induction h with
  | nil => exact .nil
  | cons d _ ih => exact .cons (d.ext E w) ih
theorem DKs.merge {us vs : List (Key × V)} {xs ys : List (Key × D)} (h : DKs K H F vs ys) : ∀ {us : List (Key × V)} {xs : List (Key × D)}, DKs K H F us xs → DKs K H F (L2.mergeK us vs) (PM.mergeD xs ys) := by
  induction h with
  | nil => intro us xs g; exact g
  | cons d _ ih => intro us xs g; exact ih (g.put d)
/-- keys and values in a row -/
def flatV : List (V × V) → List V
  | [] => []
  | (k, v) :: r => k :: v :: flatV r
theorem twos_ok : ∀ {ps : List (V × V)} {ds : List D} {kds : List (Key × D)}, Dens K H F (flatV ps) ds → twosK ds = some kds → ∃ kvs : List (Key × V), ps = kvs.map (fun kv => (kV kv.1, kv.2)) ∧ DKs K H F kvs kds
  | [], ds, kds, d, h => by
    cases d
    cases h
    exact ⟨[], rfl, .nil⟩
  | (k, v) :: r, ds, kds, d, h => by
    cases d with
    | cons dk d =>
      cases d with
      | @cons _ _ xv _ dv d =>
        rename_i xk xs
        obtain ⟨k', hk, h⟩ := Option.bind_eq_some_iff.mp (show (dKey xk).bind (fun k => (twosK xs).map ((k, xv) :: ·)) = some kds from h)
        obtain ⟨rest, hr, rfl⟩ := Option.map_eq_some_iff.mp h
        obtain ⟨kvs, rfl, q⟩ := twos_ok d hr
        obtain rfl := kV_of (.den dk) hk
        exact ⟨(k', v) :: kvs, rfl, .cons dv q⟩
end
def flatM : List (ME × ME) → List ME
  | [] => []
  | (k, v) :: r => k :: v :: flatM r
section
variable {K : PySem.W.Frag} {ca : Str → Option Addr} {Wx : Wish} {c : Ctx}
theorem tIs.mono {es : List ME} {σ : L2.St} {H : Hp} {Q Q' : List V → Hp → Prop} (h : tIs K ca Wx c es σ H Q) (i : ∀ us H2, Q us H2 → Q' us H2) : tIs K ca Wx c es σ H Q' := by
  obtain ⟨e, F, own, R, P⟩ := h
  exact ⟨e, F, own, R, P.mono (fun v e q u H1 F1 own1 fp R1 V1 N1 E1 => i _ _ (q u H1 F1 own1 fp R1 V1 N1 E1)) fun _ _ q => q⟩
theorem pairs_w : ∀ {kvs : List (ME × ME)} {σ : L2.St} {H : Hp} {T : List (V × V) → Hp → Prop}, tIs K ca Wx c (flatM kvs) σ H (fun us H2 => ∀ ps, us = flatV ps → T ps H2) → tPairs (kvs.map fun p => (tI K ca Wx c p.1, tI K ca Wx c p.2)) σ H T
  | [], σ, H, Q, h => by
    obtain ⟨e, F, own, R, P⟩ := h
    exact P [] H F own [] R .nil (fun a m => by cases m) Ext.refl [] rfl
  | (k, v) :: r, σ, H, Q, h => by
    obtain ⟨e, F, own, R, P⟩ := cons_w h
    refine ⟨e, F, own, R, P.mono (fun vk e1 q u H1 F1 own1 fp R1 V1 N1 E1 => ?_) fun _ _ q => q⟩
    obtain ⟨e, F, own, R, P⟩ := cons_w (q u H1 F1 own1 fp R1 V1 N1 E1)
    refine ⟨e, F, own, R, P.mono (fun vk e1 q w H1 F1 own1 fp R1 V1 N1 E1 => ?_) fun _ _ q => q⟩
    exact pairs_w ((q w H1 F1 own1 fp R1 V1 N1 E1).mono fun us H2 q ps e => q ((u, w) :: ps) (by rw [e]; rfl))
end
section
variable {X : Cx} {ca : Str → Option Addr} {Wx : Wish} {c : Ctx} {pos : Pos}
theorem pm_dic {keys : List (Option Expr)} {values : List Expr} {kvs : List (ME × ME)} (h : PPs X pos keys values (kvs.map fun p => (tI X.K ca Wx c p.1, tI X.K ca Wx c p.2))) (hall : keys.all (·.isSome) = true) (hl : keys.length = values.length) (h0 : keys ≠ []) (h15 : keys.length ≤ 15) :
    PE X (.Dict keys values pos) (tI X.K ca Wx c (.dic (flatM kvs))) :=
  (pe_disp h hall hl h0 h15).weak fun σ H Q ⟨e, F, own, R, P⟩ p hp => by
    have RA := R.alloc (p := p) (o := .dK []) hp
    have EA : Ext H F (Ow own) (upd H p (.dK [])) F (Ow own) := Ext.alloc hp
    obtain ⟨nF, nW⟩ := R.free hp
    refine pairs_w (rd_list (r := fun us H2 => ∀ ps, us = flatV ps → H2 p = some (.dK []) ∧ ∃ kvs : List (Key × V), ps = kvs.map (fun kv => (kV kv.1, kv.2)) ∧ kvs.length ≤ 15 ∧ Q (.ref p) (upd H2 p (.dK (mergeK [] kvs)))) EA RA P fun vs e2 us H2 F2 own2 fp R2 V2 N2 E2 E P ps hps => ?_)
    subst hps
    cases h1 : takes e2 vs with
    | none => rw [h1] at P; exact P.elim
    | some q =>
      obtain ⟨ds, e3⟩ := q
      rw [h1] at P
      dsimp only at P
      cases h2 : twosK ds with
      | none => rw [h2] at P; exact P.elim
      | some kds =>
        rw [h2] at P
        dsimp only at P
        split at P
        · rename_i h15'
          obtain ⟨F3, own3, R3, D3, E3⟩ := V2.takes R2 h1
          have E23 := (E2.addT N2).trans E3
          have hD : H2 p = some (.dK []) := E23.keep _ _ upd_same nW
          have nF3 : ¬ F3 p := fun f => (E23.fr' p f).elim nF fun z => z.elim nW fun z => by rw [upd_same] at z; cases z
          have nW3 : ¬ Ow own3 p := fun f => (E23.own p f).elim nW fun z => by rw [upd_same] at z; cases z
          obtain ⟨kvs', rfl, dk⟩ := twos_ok D3 h2
          obtain ⟨R4, _⟩ := R3.updM (o := .dK (mergeK [] kvs')) (.inr ⟨_, hD⟩) nF3 nW3
          refine ⟨hD, kvs', rfl, by rw [dk.len]; exact h15', ?_⟩
          have dm : DKs X.K H2 F3 (mergeK [] kvs') (mergeD [] kds) := DKs.merge (us := []) (xs := []) dk .nil
          have dm' : DKs X.K (upd H2 p (.dK (mergeK [] kvs'))) F3 (mergeK [] kvs') (mergeD [] kds) :=
            dm.ext (W := fun a => a = p) (W' := fun _ => False) ((Ext.upd (W := fun a => a = p) rfl).widen (fun _ z => z) fun _ z => z.elim) fun a z => by subst z; exact ⟨nF3, .inr ⟨_, hD⟩⟩
          refine (show QV X.K ca σ H F (Ow own) Q (.od (liftK (mergeD [] kds))) e3 from P) (.ref p) _ F3 own3 [p] R4 (.val (.od upd_same dm'.vrk) (by simp) fun a m => ?_) (fun a m => ?_) (((EA.trans E23)).updNew hp)
          · rw [List.mem_singleton.mp m]; exact ⟨nF3, nW3⟩
          · rw [List.mem_singleton.mp m]; exact .inr hp
        · exact P.elim
end
end PM
end

section
set_option Elab.async false
set_option linter.all false
set_option maxRecDepth 100000
set_option maxHeartbeats 2000000
/-! PMChk: a checker: does this text of the machine tell that text of the program? Its soundness. -/
namespace PM
open PySem PySem.Spec PyProof.Rows L2
inductive GK where
  | fn (i np : Nat)
  | val (v : V) (d : D)
  | cls (pl : Bool)
  | no
structure CC where
  N : List Str
  sc : Scope
  own : Scope
  G : List (Str × GK)
def CC.blk (C : CC) (scope : Scope) : CC := { C with sc := relS scope C.sc, own := scope }
inductive Task where
  | E (e : Expr) (m : ME)
  | A (es : List Expr) (ms : List ME)
  | O (e : Option Expr) (m : Option ME)
  | T (e : Expr) (m : ME)
  | W (e : Expr) (m : ME)
  | I (tg it : Expr) (m : MI)
  | G (tg : Expr) (t : Tgt)
  | Gs (tg : List Expr) (t : List Tgt)
  | Ts (es : List Expr) (ms : List ME)
  | P (ks : List (Option Expr)) (vs : List Expr) (kvs : List (ME × ME))
def GOk (X : Cx) (ca : Str → Option Addr) (c : Ctx) (x : Str) : GK → Prop
  | .no => X.mg x = none
  | .val v d => ∃ u, X.mg x = some u ∧ RelV v u ∧ Cst X.K v d
  | .cls pl => ∃ C, ca x = some C ∧ X.mg x = some (.ref C) ∧ (pl = true → ExcPl X.K C ∧ c.flds x = []) ∧ ∀ k C', ca k = some C' → PySem.W.exmOne X.K (.ref C') (.ref C) = some (c.sub k x)
  | .fn i np => ∃ fa fd ps kk, X.mg x = some (.ref fa) ∧ PySem.W.keepIn X.K (.ref fa) = true ∧ Binds X.K fd ps [] ∧ Room kk X.A ∧ FnOk X.prog X.w X.K X.mg X.base (L2.CX X.prog X.w) kk fa fd ps (spF X.K ca np (c.call i)) ∧
    ∀ as, (∀ r a, c.call i as ≠ .ok r a) ∧ (∀ r a, c.call i as ≠ .ex r a) ∨ as.length = np
structure CxOk (C : CC) (ca : Str → Option Addr) (Wx : Wish) (c : Ctx) (X : Cx) : Prop where
  N : X.N = C.N
  nd : C.N.Nodup
  sc : X.env.scope = C.sc
  fn : ∀ x, C.own.names.lookup x = some .cell → X.fn x = true
  kind : C.sc.kind = .function
  calm : X.calm = true
  un : X.A.units + 100 < cLine
  tk : L2.Takes X Wx
  G : ∀ x k, C.G.lookup x = some k → GOk X ca c x k
  cls : ClsK X.K ca c.sub
def Sem (ca : Str → Option Addr) (Wx : Wish) (c : Ctx) (X : Cx) : Task → Prop
  | .E e m => PE X e (tI X.K ca Wx c m)
  | .A es ms => PA X es (tIs X.K ca Wx c ms)
  | .O e m => PO X e (tIo X.K ca Wx c m)
  | .T e m => PT X e (tIt X.K ca Wx c m)
  | .W e m => PW X e (tIt X.K ca Wx c m)
  | .I tg it m => PI X tg it (tW X.K ca Wx c m)
  | .G tg t => PG X tg (tG X.K ca c t)
  | .Gs tg t => PGs X tg (tGs X.K ca c t)
  | .Ts es ms => PTs X es (tTs X.K ca Wx c ms)
  | .P ks vs kvs => ∀ pos, PPs X pos ks vs (kvs.map fun p => (tI X.K ca Wx c p.1, tI X.K ca Wx c p.2))
abbrev Rec := CC → Task → Bool
def Sound (rec : Rec) : Prop := ∀ C t, rec C t = true → ∀ ca Wx c X, CxOk C ca Wx c X → Sem ca Wx c X t

/-! ### small looks -/
def vis (C : CC) (x : Str) : Bool := match C.sc.names.lookup x with
  | some .local => true
  | some .cell => true
  | some .free => true
  | _ => false
def isG (C : CC) (x : Str) : Bool := decide (C.sc.names.lookup x = some .globalImplicit)
def dbg (x : Str) : Bool := !(x == ("__debug__" : Str)) && !(x == ("__classdict__" : Str)) && !decide (x = ("__name__" : Str))
def star : Expr → Bool
  | .Starred .. => true
  | _ => false
def noStars (es : List Expr) : Bool := es.all fun e => !star e
def isNo (C : CC) (x : Str) : Bool := isG C x && dbg x && match C.G.lookup x with
  | some .no => true
  | _ => false
section
variable {C : CC} {ca : Str → Option Addr} {Wx : Wish} {c : Ctx} {X : Cx} {x : Str}
theorem vis_ok (K : CxOk C ca Wx c X) (h : vis C x = true) : Vis X.env.scope x := by
  unfold vis at h
  unfold Vis
  rw [K.sc]
  split at h <;> first | exact .inl ‹_› | exact .inr (.inl ‹_›) | exact .inr (.inr ‹_›) | cases h
theorem gl_ok (K : CxOk C ca Wx c X) (h : isG C x = true) : Gl X x := by
  unfold isG at h
  show X.env.scope.names.lookup x = _
  rw [K.sc]
  exact of_decide_eq_true h
theorem dbg_ok (h : dbg x = true) : (x == ("__debug__" : Str)) = false ∧ (x == ("__classdict__" : Str)) = false ∧ x ≠ "__name__" := by
  unfold dbg at h
  simp only [Bool.and_eq_true, Bool.not_eq_true', decide_eq_false_iff_not] at h
  exact ⟨h.1.1, h.1.2, h.2⟩
theorem isNo_ok (K : CxOk C ca Wx c X) (h : isNo C x = true) : Gl X x ∧ X.mg x = none ∧ (x == ("__debug__" : Str)) = false ∧ x ≠ "__name__" := by
  unfold isNo at h
  rw [Bool.and_eq_true, Bool.and_eq_true] at h
  obtain ⟨⟨h1, h2⟩, h3⟩ := h
  obtain ⟨d1, d2, d3⟩ := dbg_ok h2
  refine ⟨gl_ok K h1, ?_, d1, d3⟩
  split at h3
  · exact K.G _ _ ‹_›
  · cases h3
theorem star_cons {e : Expr} {es : List Expr} {env : PySem.Env} (h : star e = false) : starEach (e :: es) env = (false, eval e env) :: starEach es env := by
  cases e <;> first | rfl | cases h
theorem star_asg {e : Expr} {es : List Expr} {env : PySem.Env} (h : star e = false) : (assignEach (e :: es) env).map (·.2) = assign e env :: (assignEach es env).map (·.2) := by
  cases e <;> first | rfl | cases h
theorem noStars_cons {e : Expr} {es : List Expr} (h : noStars (e :: es) = true) : star e = false ∧ noStars es = true := by
  unfold noStars at h
  rw [List.all_cons, Bool.and_eq_true, Bool.not_eq_true'] at h
  exact h
theorem noStars_any {env : PySem.Env} {pos : Pos} : ∀ {es : List Expr}, noStars es = true → (backTo pos (starEach es env)).any (·.1) = false
  | [], _ => rfl
  | e :: es, h => by
    obtain ⟨h1, h2⟩ := noStars_cons h
    rw [star_cons h1]
    show (false || (backTo pos (starEach es env)).any (·.1)) = false
    rw [noStars_any h2]
    rfl
theorem noStars_all {env : PySem.Env} {pos : Pos} : ∀ {es : List Expr}, noStars es = true → (backTo pos (starEach es env)).all (fun x => !x.1) = true
  | [], _ => rfl
  | e :: es, h => by
    obtain ⟨h1, h2⟩ := noStars_cons h
    rw [star_cons h1]
    show (true && (backTo pos (starEach es env)).all (fun x => !x.1)) = true
    rw [noStars_all h2]
    rfl
theorem noStars_len {env : PySem.Env} : ∀ {es : List Expr}, noStars es = true → (assignEach es env).length = es.length ∧ (assignEach es env).findIdx? (·.1) = none
  | [], _ => ⟨rfl, rfl⟩
  | e :: es, h => by
    obtain ⟨h1, h2⟩ := noStars_cons h
    obtain ⟨l, f⟩ := noStars_len (env := env) h2
    have : assignEach (e :: es) env = (false, assign e env) :: assignEach es env := by cases e <;> first | rfl | cases h1
    rw [this, List.length_cons, List.length_cons, l, List.findIdx?_cons, f]
    exact ⟨rfl, rfl⟩
end
/-! ### data -/
mutual
def sameD : D → D → Bool
  | .none, .none => true
  | .bool a, .bool b => a == b
  | .int a, .int b => decide (a = b)
  | .str a, .str b => decide (a = b)
  | .list a, .list b => sameDs a b
  | .tuple a, .tuple b => sameDs a b
  | .dict a, .dict b => sameKs a b
  | _, _ => false
def sameDs : List D → List D → Bool
  | [], [] => true
  | a :: r, b :: s => sameD a b && sameDs r s
  | _, _ => false
def sameKs : List (D × D) → List (D × D) → Bool
  | [], [] => true
  | (a, x) :: r, (b, y) :: s => sameD a b && sameD x y && sameKs r s
  | _, _ => false
end
mutual
theorem sameD_ok : ∀ {a b : D}, sameD a b = true → a = b
  | .none, b, h => by cases b <;> first | rfl | cases h
  | .bool a, b, h => by
    cases b with
    | bool b => rw [show a = b from by simpa [sameD] using h]
    | _ => cases h
  | .int a, b, h => by
    cases b with
    | int b => rw [show a = b from by simpa [sameD] using h]
    | _ => cases h
  | .str a, b, h => by
    cases b with
    | str b => rw [show a = b from by simpa [sameD] using h]
    | _ => cases h
  | .list a, b, h => by
    cases b with
    | list b => rw [sameDs_ok (show sameDs a b = true from h)]
    | _ => cases h
  | .tuple a, b, h => by
    cases b with
    | tuple b => rw [sameDs_ok (show sameDs a b = true from h)]
    | _ => cases h
  | .dict a, b, h => by
    cases b with
    | dict b => rw [sameKs_ok (show sameKs a b = true from h)]
    | _ => cases h
theorem sameDs_ok : ∀ {a b : List D}, sameDs a b = true → a = b
  | [], b, h => by cases b <;> first | rfl | cases h
  | a :: r, b, h => by
    cases b with
    | cons b s =>
      have h : (sameD a b && sameDs r s) = true := h
      rw [Bool.and_eq_true] at h
      rw [sameD_ok h.1, sameDs_ok h.2]
    | nil => cases h
theorem sameKs_ok : ∀ {a b : List (D × D)}, sameKs a b = true → a = b
  | [], b, h => by cases b <;> first | rfl | cases h
  | (a, x) :: r, b, h => by
    cases b with
    | cons b s =>
      obtain ⟨b, y⟩ := b
      have h : (sameD a b && sameD x y && sameKs r s) = true := h
      rw [Bool.and_eq_true, Bool.and_eq_true] at h
      rw [sameD_ok h.1.1, sameD_ok h.1.2, sameKs_ok h.2]
    | nil => cases h
end
/-! ### names, constants -/
def ckConst (k : Const) (d : D) : Bool := match k, d with
  | .none, .none => true
  | .bool a, .bool b => a == b
  | .int a, .int b => decide (a = b)
  | .str a, .str b => decide (a = b)
  | _, _ => false
def ckName (C : CC) (x : Str) (m : ME) : Bool := dbg x && match m with
  | .v i => decide (C.N[i]? = some x) && vis C x
  | .c d => isG C x && match C.G.lookup x with
    | some (.val _ d') => sameD d d'
    | _ => false
  | _ => false
section
variable {C : CC} {ca : Str → Option Addr} {Wx : Wish} {c : Ctx} {X : Cx} {x : Str}
theorem ckConst_ok {k : Const} {j : Nat} {pos : Pos} {d : D} (h : ckConst k d = true) : PE X (.Constant k j pos) (tI X.K ca Wx c (.c d)) := by
  unfold ckConst at h
  split at h
  · exact pm_c pe_non fun _ _ => .non
  · rw [beq_iff_eq] at h; subst h; exact pm_c pe_bl fun _ _ => .bl _
  · have h := of_decide_eq_true h; subst h; exact pm_c pe_int fun _ _ => .int _
  · have h := of_decide_eq_true h; subst h; exact pm_c pe_str fun _ _ => .str _
  · cases h
theorem ckName_ok {m : ME} {pos : Pos} (K : CxOk C ca Wx c X) (h : ckName C x m = true) : PE X (.Name x pos) (tI X.K ca Wx c m) := by
  unfold ckName at h
  rw [Bool.and_eq_true] at h
  obtain ⟨hd, h⟩ := h
  obtain ⟨d1, d2, d3⟩ := dbg_ok hd
  split at h
  · rw [Bool.and_eq_true] at h
    exact pm_v (pe_var (by rw [K.N]; exact of_decide_eq_true h.1) (vis_ok K h.2) d1 d2)
  · rw [Bool.and_eq_true] at h
    obtain ⟨hg, h⟩ := h
    split at h
    · rename_i v d' hl
      obtain ⟨u, hu, r, hc⟩ := K.G _ _ hl
      rw [sameD_ok h]
      exact pm_c (pe_glob (gl_ok K hg) hu r d1) hc
    · cases h
  · cases h
end
end PM
end

section
set_option Elab.async false
set_option linter.all false
set_option maxRecDepth 100000
set_option maxHeartbeats 4000000
/-! PMChk2: the checker of expressions. -/
namespace PM
open PySem PySem.Spec PyProof.Rows L2
def isSet : Expr → Bool
  | .Set .. => true
  | _ => false
def isSlice : Expr → Bool
  | .Slice .. => true
  | _ => false
theorem mark_ok {op : CmpOp} {e : Expr} (h : isSet e = false) : behindInMarks op e = false := by cases e <;> first | rfl | cases h
theorem fold_ok {e : Expr} {env : PySem.Env} (h : isSet e = false) : ∀ x, foldedSetIterable e env x = pure x := fun x => by
  cases e <;> first | rfl | cases h
theorem last_ok {a b : CmpOp} {x y : Expr} (h : isSet y = false) : lastMarks [a, b] [x, y] = false := mark_ok (op := b) h
theorem plain_ok {e : Expr} (h : isSlice e = false) : PlainIx e := fun o i => by cases e <;> first | rfl | cases h
def ckCmp (rec : Rec) (C : CC) (x : Expr) (ops : List CmpOp) (ys : List Expr) (m : ME) : Bool := match ops, ys, m with
  | [op], [y], .cmp op' a b => decide (op = op') && okCmp op && !isSet y && rec C (.E x a) && rec C (.E y b)
  | [.Is], [.Constant .none _ _], .isN false a => rec C (.E x a)
  | [.IsNot], [.Constant .none _ _], .isN true a => rec C (.E x a)
  | [.Is], [.Constant (.bool k) _ _], .isB false a k' => k == k' && rec C (.E x a)
  | [.IsNot], [.Constant (.bool k) _ _], .isB true a k' => k == k' && rec C (.E x a)
  | [op, op2], [y, z], .chain o1 o2 a b d => decide (op = o1) && decide (op2 = o2) && okCmp op && okCmp op2 && !isSet z && rec C (.E x a) && rec C (.E y b) && rec C (.E z d)
  | _, _, _ => false
section
variable {rec : Rec} (S : Sound rec) {C : CC} {ca : Str → Option Addr} {Wx : Wish} {c : Ctx} {X : Cx} (K : CxOk C ca Wx c X)
include S K
theorem ckCmp_ok {x : Expr} {ops : List CmpOp} {ys : List Expr} {m : ME} {pos : Pos} (h : ckCmp rec C x ops ys m = true) : PE X (.Compare x ops ys pos) (tI X.K ca Wx c m) ∧ PT X (.Compare x ops ys pos) (tIt X.K ca Wx c m) := by
  unfold ckCmp at h
  split at h
  · simp only [Bool.and_eq_true, Bool.not_eq_true', decide_eq_true_eq] at h
    obtain ⟨⟨⟨⟨rfl, h1⟩, h2⟩, h3⟩, h4⟩ := h
    exact ⟨pm_cmp K.un h1 (S _ _ h3 _ _ _ _ K) (S _ _ h4 _ _ _ _ K) (mark_ok h2), pt_cmpM K.un h1 (S _ _ h3 _ _ _ _ K) (S _ _ h4 _ _ _ _ K) (mark_ok h2)⟩
  · exact ⟨pm_isN (neg := false) (S _ _ h _ _ _ _ K), pt_isN (neg := false) (S _ _ h _ _ _ _ K)⟩
  · exact ⟨pm_isN (neg := true) (S _ _ h _ _ _ _ K), pt_isN (neg := true) (S _ _ h _ _ _ _ K)⟩
  · simp only [Bool.and_eq_true, beq_iff_eq] at h
    obtain ⟨rfl, h⟩ := h
    exact ⟨pm_isB (neg := false) (S _ _ h _ _ _ _ K), pt_isBM (neg := false) (S _ _ h _ _ _ _ K)⟩
  · simp only [Bool.and_eq_true, beq_iff_eq] at h
    obtain ⟨rfl, h⟩ := h
    exact ⟨pm_isB (neg := true) (S _ _ h _ _ _ _ K), pt_isBM (neg := true) (S _ _ h _ _ _ _ K)⟩
  · simp only [Bool.and_eq_true, Bool.not_eq_true', decide_eq_true_eq] at h
    obtain ⟨⟨⟨⟨⟨⟨⟨rfl, rfl⟩, h1⟩, h2⟩, h3⟩, h4⟩, h5⟩, h6⟩ := h
    exact ⟨pm_chain K.un h1 h2 (S _ _ h4 _ _ _ _ K) (S _ _ h5 _ _ _ _ K) (S _ _ h6 _ _ _ _ K) (last_ok h3), pt_chainM K.un h1 h2 (S _ _ h4 _ _ _ _ K) (S _ _ h5 _ _ _ _ K) (S _ _ h6 _ _ _ _ K) (last_ok h3)⟩
  · cases h
end
/-! ### calls by name -/
inductive BT where
  | b (id : String)
  | t (id : String)
/-- the built-ins that are known, by their names -/
def biOf (b : Bi) : Option (Str × BT) := match b with
  | .len => some ("len", .b "len")
  | .all => some ("all", .b "all")
  | .any => some ("any", .b "any")
  | .sum => some ("sum", .b "sum")
  | .max => some ("max", .b "max")
  | .min => some ("min", .b "min")
  | .sorted => some ("sorted", .b "sorted")
  | .abs => some ("abs", .b "abs")
  | .list => some ("list", .t "list")
  | .tuple => some ("tuple", .t "tuple")
  | .int => some ("int", .t "int")
  | .str => some ("str", .t "str")
  | _ => none
section
variable {X : Cx}
theorem biOf_b (hc : X.calm = true) {b : Bi} {x : Str} {id : String} (h : biOf b = some (x, .b id)) : CallR X (.builtin id) (rB X.K (biD b)) ∧ bootBuiltins x = some (.builtin id) := by
  cases b <;> cases h
  · exact ⟨crB_len, boot_len⟩
  · exact ⟨crB_all hc, boot_all⟩
  · exact ⟨crB_any hc, boot_any⟩
  · exact ⟨crB_sum hc, boot_sum⟩
  · exact ⟨crB_max hc, boot_max⟩
  · exact ⟨crB_min hc, boot_min⟩
  · exact ⟨crB_sorted, boot_sorted⟩
  · exact ⟨crB_abs, boot_abs⟩
theorem biOf_t {b : Bi} {x : Str} {id : String} (h : biOf b = some (x, .t id)) : CallR X (.type id) (rB X.K (biD b)) ∧ bootBuiltins x = some (.type id) := by
  cases b <;> cases h
  · exact ⟨crB_list, boot_list⟩
  · exact ⟨crB_tuple, boot_tuple⟩
  · exact ⟨crB_int, boot_int⟩
  · exact ⟨crB_str, boot_str⟩
end
def tyNames : List (Str × String) := [("bool", "bool"), ("int", "int"), ("str", "str"), ("list", "list"), ("tuple", "tuple"), ("dict", "dict"), ("ValueError", "ValueError")]
theorem tyNames_ok : ∀ p ∈ tyNames, p.2 ∈ TN ∧ bootBuiltins p.1 = some (.type p.2) := by
  unfold tyNames
  simp only [List.mem_cons, List.not_mem_nil, or_false]
  rintro p (rfl | rfl | rfl | rfl | rfl | rfl | rfl)
  · exact ⟨by decide, boot_bool⟩
  · exact ⟨by decide, boot_int⟩
  · exact ⟨by decide, boot_str⟩
  · exact ⟨by decide, boot_list⟩
  · exact ⟨by decide, boot_tuple⟩
  · exact ⟨by decide, boot_dict⟩
  · exact ⟨by decide, (by decide +kernel)⟩
/-- a class told by its name -/
def ckTy (C : CC) (e : Expr) (t : Ty) : Bool := match e, t with
  | .Name x _, .bt n => isNo C x && decide (tyNames.lookup x = some n)
  | .Name x _, .cl y => decide (x = y) && isG C x && dbg x && match C.G.lookup x with
    | some (.cls _) => true
    | _ => false
  | _, _ => false
def ckTys (C : CC) : List Expr → List Ty → Bool
  | [], [] => true
  | e :: es, t :: ts => !star e && ckTy C e t && ckTys C es ts
  | _, _ => false
section
variable {C : CC} {ca : Str → Option Addr} {Wx : Wish} {c : Ctx} {X : Cx} (K : CxOk C ca Wx c X)
include K
theorem ckTy_ok {e : Expr} {t : Ty} (h : ckTy C e t = true) : ∃ v, PM.tyV ca t = some v ∧ PE X e (tC v) := by
  unfold ckTy at h
  split at h
  · rename_i x pos n
    simp only [Bool.and_eq_true, decide_eq_true_eq] at h
    obtain ⟨h1, h2⟩ := h
    obtain ⟨g1, g2, g3, g4⟩ := isNo_ok K h1
    have key := tyNames_ok _ (PySem.mem_of_lookup h2)
    exact ⟨.ty n, if_pos key.1, pe_bltn g1 g2 key.2 rfl g4 g3⟩
  · rename_i x pos y
    simp only [Bool.and_eq_true, decide_eq_true_eq] at h
    obtain ⟨⟨⟨rfl, h1⟩, h2⟩, h3⟩ := h
    obtain ⟨d1, d2, d3⟩ := dbg_ok h2
    split at h3
    · rename_i hl
      obtain ⟨A, hA, hm, _⟩ := K.G _ _ hl
      exact ⟨.ref A, by show (ca x).map V.ref = _; rw [hA]; rfl, pe_glob (gl_ok K h1) hm rfl d1⟩
    · cases h3
  · cases h
/-- constants in a row -/
theorem ckTys_ok : ∀ {es : List Expr} {ts : List Ty}, ckTys C es ts = true → ∃ vs te, ts.mapM (PM.tyV ca) = some vs ∧ PA X es te ∧ ∀ σ H Q, Q vs H → te σ H Q
  | [], ts, h => by
    cases ts with
    | nil => exact ⟨[], tNil, rfl, pa_nil, fun σ H Q q => q⟩
    | cons _ _ => cases h
  | e :: es, ts, h => by
    cases ts with
    | nil => cases h
    | cons t ts =>
      have h : (!star e && ckTy C e t && ckTys C es ts) = true := h
      simp only [Bool.and_eq_true, Bool.not_eq_true'] at h
      obtain ⟨⟨h1, h2⟩, h3⟩ := h
      obtain ⟨v, hv, he⟩ := ckTy_ok K h2
      obtain ⟨vs, te, hvs, hes, ht⟩ := ckTys_ok h3
      refine ⟨v :: vs, tCons (tC v) te, ?_, pa_cons he hes (star_cons h1), fun σ H Q q => ht _ _ _ q⟩
      rw [List.mapM_cons, hv, hvs]
      rfl
end
end PM
end

section
set_option Elab.async false
set_option linter.all false
set_option maxRecDepth 100000
set_option maxHeartbeats 4000000
/-! PMChk3: calls, methods, blocks; the checker of expressions as a whole. -/
namespace PM
open PySem PySem.Spec PyProof.Rows L2
/-- f(..) -/
def ckCall (rec : Rec) (C : CC) (f : Str) (args : List Expr) (m : ME) : Bool := match m with
  | .call i es => isG C f && dbg f && noStars args && !args.isEmpty && rec C (.A args es) && match C.G.lookup f with
    | some (.fn j np) => decide (i = j)
    | _ => false
  | .bi .lenset [a] => match args with
    | [.Call (.Name g _) [x] [] _] => decide (f = ("len" : Str)) && decide (g = ("set" : Str)) && isNo C f && isNo C g && !star x && rec C (.E x a)
    | _ => false
  | .bi b es => isNo C f && noStars args && !args.isEmpty && rec C (.A args es) && match biOf b with
    | some (y, _) => decide (f = y)
    | none => false
  | .isi a ts => decide (f = ("isinstance" : Str)) && isNo C f && match args with
    | [x, y] => !star x && rec C (.E x a) && match y, ts with
      | .Tuple ys _ _, ts => ckTys C ys ts && decide (ts.length ≤ 100)
      | .Name z p, [t] => ckTy C (.Name z p) t
      | _, _ => false
    | _ => false
  | _ => false
theorem pe_callM {X : Cx} {ca : Str → Option Addr} {Wx : Wish} {c : Ctx} {x : Expr} {xs : List Expr} {es : List ME} {f : Str} {i np : Nat} {p pos : Pos} (tk : L2.Takes X Wx) (G : GOk X ca c f (.fn i np)) (hg : Gl X f) (hdb : (f == ("__debug__" : Str)) = false) (ha : PA X (x :: xs) (tIs X.K ca Wx c es))
    (he : starEach (x :: xs) X.env = (false, eval x X.env) :: starEach xs X.env) (hpl : (backTo pos (starEach xs X.env)).any (·.1) = false) : PE X (.Call (.Name f p) (x :: xs) [] pos) (tI X.K ca Wx c (.call i es)) := by
  obtain ⟨fa, fd, ps, kk, hm, hk, hb, hr, F, har⟩ := G
  exact (pe_callSD (E := WE Wx) (dvs := []) (ds := []) F hr hg hm hk hb .nil (passAt tk) ha hdb he hpl).weak fun σ H Q h => (rd_call har h).mono fun us H2 q => by
    rw [List.append_nil]
    exact q
section
variable {rec : Rec} (S : Sound rec) {C : CC} {ca : Str → Option Addr} {Wx : Wish} {c : Ctx} {X : Cx} (K : CxOk C ca Wx c X)
include S K
theorem ckCall_ok {f : Str} {args : List Expr} {m : ME} {p pos : Pos} (h : ckCall rec C f args m = true) : PE X (.Call (.Name f p) args [] pos) (tI X.K ca Wx c m) := by
  unfold ckCall at h
  split at h
  · simp only [Bool.and_eq_true, Bool.not_eq_true'] at h
    obtain ⟨⟨⟨⟨⟨h1, h2⟩, h3⟩, h4⟩, h5⟩, h6⟩ := h
    split at h6
    · rename_i hl
      have h6 := of_decide_eq_true h6
      subst h6
      cases args with
      | nil => cases h4
      | cons x xs =>
        obtain ⟨s1, s2⟩ := noStars_cons h3
        exact pe_callM K.tk (K.G _ _ hl) (gl_ok K h1) (dbg_ok h2).1 (S _ _ h5 _ _ _ _ K) (star_cons s1) (noStars_any s2)
    · cases h6
  · split at h
    · simp only [Bool.and_eq_true, Bool.not_eq_true', decide_eq_true_eq] at h
      obtain ⟨⟨⟨⟨⟨rfl, rfl⟩, h3⟩, h4⟩, h5⟩, h6⟩ := h
      obtain ⟨g1, g2, _, _⟩ := isNo_ok K h3
      obtain ⟨g3, g4, _, _⟩ := isNo_ok K h4
      exact pm_lenset K.calm g1 g2 g3 g4 (S _ _ h6 _ _ _ _ K) (star_cons h5)
    · cases h
  · rename_i b es _
    simp only [Bool.and_eq_true, Bool.not_eq_true'] at h
    obtain ⟨⟨⟨⟨h1, h2⟩, h3⟩, h4⟩, h5⟩ := h
    obtain ⟨g1, g2, g3, g4⟩ := isNo_ok K h1
    split at h5
    · rename_i y bt hb
      have h5 := of_decide_eq_true h5
      subst h5
      cases args with
      | nil => cases h3
      | cons x xs =>
        obtain ⟨s1, s2⟩ := noStars_cons h2
        cases bt with
        | b id =>
          obtain ⟨k1, k2⟩ := biOf_b (X := X) K.calm hb
          exact pm_biB k1 g1 g2 k2 g4 g3 (S _ _ h4 _ _ _ _ K) (star_cons s1) (noStars_any s2)
        | t id =>
          obtain ⟨k1, k2⟩ := biOf_t (X := X) hb
          exact pm_biT k1 g1 g2 k2 g4 g3 (S _ _ h4 _ _ _ _ K) (star_cons s1) (noStars_any s2)
    · cases h5
  · simp only [Bool.and_eq_true, decide_eq_true_eq] at h
    obtain ⟨⟨rfl, h1⟩, h⟩ := h
    obtain ⟨g1, g2, g3, g4⟩ := isNo_ok K h1
    split at h
    · simp only [Bool.and_eq_true, Bool.not_eq_true'] at h
      obtain ⟨⟨h2, h3⟩, h⟩ := h
      split at h
      · simp only [Bool.and_eq_true, decide_eq_true_eq] at h
        obtain ⟨vs, te, hv, hy, ht⟩ := ckTys_ok K h.1
        exact pm_isiT K.cls g1 g2 (S _ _ h3 _ _ _ _ K) hy ht hv (by rw [mapM_len hv]; exact Nat.le_trans h.2 (by decide)) (star_cons h2) rfl rfl
      · obtain ⟨v, hv, hy⟩ := ckTy_ok K h
        exact pm_isi1 K.cls g1 g2 (S _ _ h3 _ _ _ _ K) hy hv (star_cons h2) rfl rfl
      · cases h
    · cases h
  · cases h
end
/-! ### o.m(..) -/
def plainO : Expr → Bool
  | .Name .. => true
  | .Constant .. => true
  | .Subscript .. => true
  | .BinOp .. => true
  | _ => false
theorem base_ok {o : Expr} {nm : Str} {env : PySem.Env} {w : PySem.Sem Value} (h : plainO o = true) : attributeBase o nm env w = w := by cases o <;> first | rfl | cases h
def ckMeth (rec : Rec) (C : CC) (o : Expr) (nm : Str) (apos : Pos) (args : List Expr) (pos : Pos) (m : ME) : Bool := plainO o && (apos.endLine == pos.line) && match m with
  | .mt .join a [b] => match args with
    | [x] => decide (nm = ("join" : Str)) && !star x && rec C (.E o a) && rec C (.E x b)
    | _ => false
  | .mt .upper a [] => match args with
    | [] => decide (nm = ("upper" : Str)) && rec C (.E o a)
    | _ => false
  | .mu k i es => (match o with
    | .Name x _ => decide (C.N[i]? = some x) && vis C x && dbg x
    | _ => false) && match k, args with
      | .append, [x] => decide (nm = ("append" : Str)) && !star x && rec C (.A [x] es)
      | .extend, [x] => decide (nm = ("extend" : Str)) && !star x && rec C (.A [x] es)
      | .pop, [] => decide (nm = ("pop" : Str)) && es.isEmpty
      | .clear, [] => decide (nm = ("clear" : Str)) && es.isEmpty
      | _, _ => false
  | _ => false
theorem mu_lists {m : Mu} {o : Val} {ds : List D} (h : muV m o ds ≠ none) : ∃ vs, o = .ol vs := by
  cases o with
  | ol vs => exact ⟨vs, rfl⟩
  | _ => exact absurd (by cases m <;> rfl) h
theorem mu_res {m : Mu} {o : Val} {ds : List D} {w o' : Val} (h : muV m o ds = some (w, o')) : ∃ x vs', w = .d x ∧ o' = .ol vs' := by
  unfold muV at h
  split at h
  · split at h
    · cases h; exact ⟨_, _, rfl, rfl⟩
    · cases h
  · split at h
    · cases h; exact ⟨_, _, rfl, rfl⟩
    · cases h
  · obtain ⟨es, _, h⟩ := Option.bind_eq_some_iff.mp h
    split at h
    · cases h; exact ⟨_, _, rfl, rfl⟩
    · cases h
  · obtain ⟨es, _, h⟩ := Option.map_eq_some_iff.mp h
    cases h; exact ⟨_, _, rfl, rfl⟩
  · cases h
section
variable {rec : Rec} (S : Sound rec) {C : CC} {ca : Str → Option Addr} {Wx : Wish} {c : Ctx} {X : Cx} (K : CxOk C ca Wx c X)
include S K
theorem ckMeth_ok {o : Expr} {nm : Str} {apos pos : Pos} {args : List Expr} {m : ME} (h : ckMeth rec C o nm apos args pos m = true) : PE X (.Call (.Attribute o nm apos) args [] pos) (tI X.K ca Wx c m) := by
  unfold ckMeth at h
  rw [Bool.and_eq_true, Bool.and_eq_true] at h
  obtain ⟨⟨h1, h2⟩, h⟩ := h
  split at h
  · split at h
    · simp only [Bool.and_eq_true, Bool.not_eq_true', decide_eq_true_eq] at h
      obtain ⟨⟨⟨rfl, h3⟩, h4⟩, h5⟩ := h
      exact pm_join (S _ _ h4 _ _ _ _ K) (S _ _ h5 _ _ _ _ K) (star_cons h3) (base_ok h1) h2
    · cases h
  · split at h
    · simp only [Bool.and_eq_true, decide_eq_true_eq] at h
      obtain ⟨rfl, h4⟩ := h
      exact pm_upper (S _ _ h4 _ _ _ _ K) (base_ok h1) h2
    · cases h
  · rw [Bool.and_eq_true] at h
    obtain ⟨h3, h⟩ := h
    split at h3
    · rename_i x p
      simp only [Bool.and_eq_true, decide_eq_true_eq] at h3
      obtain ⟨⟨h4, h5⟩, h6⟩ := h3
      obtain ⟨d1, d2, d3⟩ := dbg_ok h6
      have hx : PE X (.Name x p) (tVar _) := pe_var (by rw [K.N]; exact h4) (vis_ok K h5) d1 d2
      have few : ∀ {y : Expr}, star y = false → ((backTo pos (starEach [y] X.env)).all (fun x => !x.1) && (backToKw pos (keywordEach [] X.env)).all (fun x => x.1.isSome)
        && decide (([y] : List Expr).length + ([] : List Keyword).length + (if ([] : List Keyword).isEmpty then 0 else 1) < 30)) = true := fun {y} hy => by
        rw [noStars_all (es := [y]) (by simp [noStars, hy])]
        rfl
      split at h
      · simp only [Bool.and_eq_true, Bool.not_eq_true', decide_eq_true_eq] at h
        obtain ⟨⟨rfl, h7⟩, h8⟩ := h
        exact pm_mu mu_append (fun _ _ => mu_lists) (fun _ _ _ _ => mu_res) PySem.F.slot_list_append PySem.F.type_list_append mt_append hx (S _ _ h8 _ _ _ _ K) (base_ok h1) (few h7) h2 (star_cons h7) rfl
      · simp only [Bool.and_eq_true, Bool.not_eq_true', decide_eq_true_eq] at h
        obtain ⟨⟨rfl, h7⟩, h8⟩ := h
        exact pm_mu mu_extend (fun _ _ => mu_lists) (fun _ _ _ _ => mu_res) PySem.F.slot_list_extend PySem.F.type_list_extend mt_extendR hx (S _ _ h8 _ _ _ _ K) (base_ok h1) (few h7) h2 (star_cons h7) rfl
      · simp only [Bool.and_eq_true, decide_eq_true_eq, List.isEmpty_iff] at h
        obtain ⟨rfl, rfl⟩ := h
        exact pm_mu0 mu_pop (fun _ _ => mu_lists) (fun _ _ _ _ => mu_res) PySem.F.slot_list_pop PySem.F.type_list_pop mt_pop hx (base_ok h1) h2
      · simp only [Bool.and_eq_true, decide_eq_true_eq, List.isEmpty_iff] at h
        obtain ⟨rfl, rfl⟩ := h
        exact pm_mu0 mu_clear (fun _ _ => mu_lists) (fun _ _ _ _ => mu_res) PySem.F.slot_list_clear PySem.F.type_list_clear mt_clear hx (base_ok h1) h2
      · cases h
    · cases h3
  · cases h
end
end PM
end

section
set_option Elab.async false
set_option linter.all false
set_option maxRecDepth 100000
set_option maxHeartbeats 4000000
/-! PMChk4: blocks, what is walked, targets; the checker of expressions as a whole. -/
namespace PM
open PySem PySem.Spec PyProof.Rows L2
/-- a local name that is stored -/
def isLoc (C : CC) (x : Str) : Bool := decide (C.sc.names.lookup x = some .local) || (decide (C.sc.names.lookup x = some .cell) && decide (C.own.names.lookup x = some .cell))
def ckTgt (rec : Rec) (C : CC) (e : Expr) (t : Tgt) : Bool := match e, t with
  | .Name x _, .nm i => decide (C.N[i]? = some x) && isLoc C x
  | .Tuple es _ _, .tup ts => noStars es && decide (es.length = ts.length) && rec C (.Gs es ts)
  | _, _ => false
def ckTgts (rec : Rec) (C : CC) (es : List Expr) (ts : List Tgt) : Bool := match es, ts with
  | [], [] => true
  | e :: es, t :: ts => !star e && rec C (.G e t) && rec C (.Gs es ts)
  | _, _ => false
def isTup : Expr → Bool
  | .Tuple .. => true
  | _ => false
def ckIter (rec : Rec) (C : CC) (tg e : Expr) (m : MI) : Bool := match m with
  | .seq a => rec C (.E e a)
  | .rng1 a => match e with
    | .Call (.Name f _) [x] [] _ => decide (f = ("range" : Str)) && isNo C f && !star x && rec C (.A [x] [a])
    | _ => false
  | .rng2 a b => match e with
    | .Call (.Name f _) [x, y] [] _ => decide (f = ("range" : Str)) && isNo C f && !star x && !star y && rec C (.A [x, y] [a, b])
    | _ => false
  | .enum a => isTup tg && match e with
    | .Call (.Name f _) [x] [] _ => decide (f = ("enumerate" : Str)) && isNo C f && !star x && rec C (.A [x] [a])
    | _ => false
  | .zip a b => isTup tg && match e with
    | .Call (.Name f _) [x, y] [] _ => decide (f = ("zip" : Str)) && isNo C f && !star x && !star y && rec C (.A [x, y] [a, b])
    | _ => false
def owOf (N : List Str) (is : List Nat) : List (Str × Nat) := is.map fun i => ((N[i]?).getD Str.empty, i)
theorem owOf_snd (N : List Str) (is : List Nat) : (owOf N is).map (·.2) = is := by
  unfold owOf
  rw [List.map_map]
  show is.map (fun i => i) = is
  exact List.map_id' is
def ckLc (rec : Rec) (C : CC) (elt : Expr) (gens : List Comprehension) (scope : Scope) (m : ME) : Bool := match gens, m with
  | [⟨tg, iter, ifs, 0⟩], .lc el t it cs is => (tix t).all (fun j => decide (j ∈ is)) && !isSet iter && rec C (.I tg iter it) && blkC C.N C.sc scope (owOf C.N is) && rec (C.blk scope) (.G tg t) && rec (C.blk scope) (.Ts ifs cs) && rec (C.blk scope) (.E elt el)
  | _, _ => false
section
variable {C : CC} {ca : Str → Option Addr} {Wx : Wish} {c : Ctx} {X : Cx}
theorem blk_kind {N : List Str} {sc scope : Scope} {ow : List (Str × Nat)} (h : blkC N sc scope ow = true) : scope.kind = .function := (blkOk_by h).kind
theorem CxOk.blk (K : CxOk C ca Wx c X) {scope : Scope} (hk : scope.kind = .function) (s : Shared) (H : Hp) (D : Addr) (cl : List (Str × Addr)) (fp : List Addr) : CxOk (C.blk scope) ca WxF c (X.blk s H scope (compEnvC scope cl D X.env) fp) where
  N := K.N
  nd := K.nd
  sc := by
    show relS scope X.env.scope = relS scope C.sc
    rw [K.sc]
  fn := fun x h => by
    show (scope.names.lookup x == some .cell) = true
    rw [show scope.names.lookup x = some .cell from h]
    rfl
  kind := hk
  calm := K.calm
  un := K.un
  tk := fun u s' x => by
    obtain ⟨_, _, _, _, _, _, _, _, _, _, _, _, _, _, _, _, w⟩ := x
    exact w.elim
  G := fun x k h => by
    have q := K.G x k h
    cases k <;> exact q
  cls := K.cls
theorem loc_ok (K : CxOk C ca Wx c X) {x : Str} (h : isLoc C x = true) : L2.Loc X.env.scope x ∧ (X.fn x = true ∨ X.env.scope.names.lookup x = some .local) := by
  unfold isLoc at h
  rw [Bool.or_eq_true, Bool.and_eq_true, decide_eq_true_eq, decide_eq_true_eq, decide_eq_true_eq] at h
  unfold L2.Loc
  rw [K.sc]
  rcases h with h | ⟨h, g⟩
  · exact ⟨.inl h, .inr h⟩
  · exact ⟨.inr h, .inl (K.fn x g)⟩
end
section
variable {rec : Rec} (S : Sound rec) {C : CC} {ca : Str → Option Addr} {Wx : Wish} {c : Ctx} {X : Cx} (K : CxOk C ca Wx c X)
include S K
theorem ckTgt_ok {e : Expr} {t : Tgt} (h : ckTgt rec C e t = true) : PG X e (tG X.K ca c t) := by
  unfold ckTgt at h
  split at h
  · rw [Bool.and_eq_true, decide_eq_true_eq] at h
    obtain ⟨l, f⟩ := loc_ok K h.2
    exact g_nm (by rw [K.N]; exact K.nd) (by rw [K.N]; exact h.1) l f
  · simp only [Bool.and_eq_true, decide_eq_true_eq] at h
    obtain ⟨⟨h1, h2⟩, h3⟩ := h
    obtain ⟨l, f⟩ := noStars_len (env := X.env) h1
    exact g_tup K.calm (S _ _ h3 _ _ _ _ K) (by rw [l, h2]) f
  · cases h
theorem ckTgts_ok {es : List Expr} {ts : List Tgt} (h : ckTgts rec C es ts = true) : PGs X es (tGs X.K ca c ts) := by
  unfold ckTgts at h
  split at h
  · exact gs_nil
  · simp only [Bool.and_eq_true, Bool.not_eq_true'] at h
    obtain ⟨⟨h1, h2⟩, h3⟩ := h
    exact gs_cons (S _ _ h2 _ _ _ _ K) (S _ _ h3 _ _ _ _ K) (star_asg h1)
  · cases h
theorem ckIter_ok {tg e : Expr} {m : MI} (h : ckIter rec C tg e m = true) : PI X tg e (tW X.K ca Wx c m) := by
  unfold ckIter at h
  split at h
  · exact w_seq (S _ _ h _ _ _ _ K)
  · split at h
    · simp only [Bool.and_eq_true, Bool.not_eq_true', decide_eq_true_eq] at h
      obtain ⟨⟨⟨rfl, h1⟩, h2⟩, h3⟩ := h
      obtain ⟨g1, g2, _⟩ := isNo_ok K h1
      exact w_rng1 g1 g2 (S _ _ h3 _ _ _ _ K) (star_cons h2)
    · cases h
  · split at h
    · simp only [Bool.and_eq_true, Bool.not_eq_true', decide_eq_true_eq] at h
      obtain ⟨⟨⟨⟨rfl, h1⟩, h2⟩, h3⟩, h4⟩ := h
      obtain ⟨g1, g2, _⟩ := isNo_ok K h1
      exact w_rng2 g1 g2 (S _ _ h4 _ _ _ _ K) (by rw [star_cons h2, star_cons h3]; rfl) (star_cons h3)
    · cases h
  · rw [Bool.and_eq_true] at h
    obtain ⟨ht, h⟩ := h
    split at h
    · simp only [Bool.and_eq_true, Bool.not_eq_true', decide_eq_true_eq] at h
      obtain ⟨⟨⟨rfl, h1⟩, h2⟩, h3⟩ := h
      obtain ⟨g1, g2, _⟩ := isNo_ok K h1
      cases tg <;> first | exact w_enum g1 g2 (S _ _ h3 _ _ _ _ K) (star_cons h2) | cases ht
    · cases h
  · rw [Bool.and_eq_true] at h
    obtain ⟨ht, h⟩ := h
    split at h
    · simp only [Bool.and_eq_true, Bool.not_eq_true', decide_eq_true_eq] at h
      obtain ⟨⟨⟨⟨rfl, h1⟩, h2⟩, h3⟩, h4⟩ := h
      obtain ⟨g1, g2, _⟩ := isNo_ok K h1
      cases tg <;> first | exact w_zip g1 g2 (S _ _ h4 _ _ _ _ K) (star_cons h2) (noStars_any (by simp [noStars, h3])) | cases ht
    · cases h
theorem ckLc_ok {elt : Expr} {gens : List Comprehension} {scope : Scope} {m : ME} {pos : Pos} (h : ckLc rec C elt gens scope m = true) : PE X (.ListComp elt gens scope pos) (tI X.K ca Wx c m) := by
  unfold ckLc at h
  split at h
  · simp only [Bool.and_eq_true, Bool.not_eq_true', List.all_eq_true, decide_eq_true_eq] at h
    obtain ⟨⟨⟨⟨⟨⟨h1, h2⟩, h3⟩, h4⟩, h5⟩, h6⟩, h7⟩ := h
    rename_i tg iter ifs _ el t it cs is
    have ok := blkOk_by h4
    have e := owOf_snd C.N is
    have := e_lc (ow := owOf C.N is) (it := it) (t := t) (cs := cs) (el := el) (pos := pos) (Wx := Wx) (by rw [e]; exact h1) K.calm (by rw [K.N]; exact K.nd) (S _ _ h3 _ _ _ _ K) (by rw [K.N, K.sc]; exact ok)
      (fun s H D cl fp => S _ _ h5 _ _ _ _ (K.blk ok.kind s H D cl fp)) (fun s H D cl fp => S _ _ h6 _ _ _ _ (K.blk ok.kind s H D cl fp)) (fun s H D cl fp => S _ _ h7 _ _ _ _ (K.blk ok.kind s H D cl fp)) (fold_ok h2)
    rw [e] at this
    exact this
  · cases h
/-- name = [..] -/
theorem ckLc_set {elt : Expr} {gens : List Comprehension} {scope : Scope} {m : ME} {pos py spos : Pos} {y : Str} {i : Nat} (h : ckLc rec C elt gens scope m = true) (hi : C.N[i]? = some y) (hy : C.sc.names.lookup y = some .local) (hl : (py.line == pos.line) = true)
    (ha : (scope.names.any fun (n, k) => n == y && (k == .local || k == .cell)) = false) : PS X (.Assign [.Name y py] (.ListComp elt gens scope pos) spos) (tM X.K ca Wx c (.set (.nm i) m)) := by
  unfold ckLc at h
  split at h
  · simp only [Bool.and_eq_true, Bool.not_eq_true', List.all_eq_true, decide_eq_true_eq] at h
    obtain ⟨⟨⟨⟨⟨⟨h1, h2⟩, h3⟩, h4⟩, h5⟩, h6⟩, h7⟩ := h
    rename_i tg iter ifs _ el t it cs is
    have ok := blkOk_by h4
    have e := owOf_snd C.N is
    have hy' : X.env.scope.names.lookup y = some .local := by rw [K.sc]; exact hy
    have := s_setLc (ow := owOf C.N is) (it := it) (t := t) (cs := cs) (el := el) (pos := pos) (spos := spos) (py := py) (Wx := Wx) (by rw [e]; exact h1) K.calm (by rw [K.N]; exact K.nd) (by rw [K.N]; exact hi) hy'
      (sw_true (by rw [K.sc]; exact K.kind) hy' hl ha) (S _ _ h3 _ _ _ _ K) (by rw [K.N, K.sc]; exact ok)
      (fun s H D cl fp => S _ _ h5 _ _ _ _ (K.blk ok.kind s H D cl fp)) (fun s H D cl fp => S _ _ h6 _ _ _ _ (K.blk ok.kind s H D cl fp)) (fun s H D cl fp => S _ _ h7 _ _ _ _ (K.blk ok.kind s H D cl fp)) (fold_ok h2)
    rw [e] at this
    exact this
  · cases h
end
/-! ### the whole -/
def ckE (rec : Rec) (C : CC) (e : Expr) (m : ME) : Bool := match e with
  | .Constant k _ _ => match m with
    | .c d => ckConst k d
    | _ => false
  | .Name x _ => ckName C x m
  | .BinOp x op y _ => match m with
    | .bin op' a b => decide (op = op') && okBin op && rec C (.E x a) && rec C (.E y b)
    | _ => false
  | .UnaryOp .USub x _ => match m with
    | .neg a => rec C (.E x a)
    | _ => false
  | .UnaryOp .Not x _ => match m with
    | .not a => rec C (.E x a)
    | _ => false
  | .BoolOp op [x] _ => rec C (.E x m)
  | .BoolOp .And (x :: y :: r) p => match m with
    | .and a b => rec C (.E x a) && rec C (.E (.BoolOp .And (y :: r) p) b)
    | _ => false
  | .BoolOp .Or (x :: y :: r) p => match m with
    | .or a b => rec C (.E x a) && rec C (.E (.BoolOp .Or (y :: r) p) b)
    | _ => false
  | .IfExp t x y _ => match m with
    | .ite d a b => rec C (.T t d) && rec C (.E x a) && rec C (.E y b)
    | _ => false
  | .Compare x ops ys _ => ckCmp rec C x ops ys m
  | .Tuple xs _ _ => match m with
    | .tup es => rec C (.A xs es)
    | _ => false
  | .List xs _ => match m with
    | .lst es => rec C (.A xs es)
    | _ => false
  | .Dict ks vs _ => match m with
    | .dic es => (ks.isEmpty && vs.isEmpty && es.isEmpty) || (!ks.isEmpty && ks.all (·.isSome) && decide (ks.length = vs.length) && decide (ks.length ≤ 15) && match twoM es with
      | some kvs => rec C (.P ks vs kvs)
      | none => false)
    | _ => false
  | .Subscript x (.Slice lo hi none _) _ => match m with
    | .sli a l h => rec C (.E x a) && rec C (.O lo l) && rec C (.O hi h)
    | _ => false
  | .Subscript x i _ => match m with
    | .idx a k => !isSlice i && rec C (.E x a) && rec C (.E i k)
    | _ => false
  | .Call (.Name f _) args [] _ => ckCall rec C f args m
  | .Call (.Attribute o nm apos) args [] pos => ckMeth rec C o nm apos args pos m
  | .ListComp elt gens scope _ => ckLc rec C elt gens scope m
  | _ => false
where twoM : List ME → Option (List (ME × ME))
  | [] => some []
  | [_] => none
  | k :: v :: r => (twoM r).map ((k, v) :: ·)
theorem twoM_ok : ∀ {es : List ME} {kvs : List (ME × ME)}, ckE.twoM es = some kvs → es = flatM kvs
  | [], kvs, h => by cases h; rfl
  | [_], kvs, h => by cases h
  | k :: v :: r, kvs, h => by
    obtain ⟨q, hq, rfl⟩ := Option.map_eq_some_iff.mp (show (ckE.twoM r).map ((k, v) :: ·) = some kvs from h)
    rw [twoM_ok hq]
    rfl
section
variable {rec : Rec} (S : Sound rec) {C : CC} {ca : Str → Option Addr} {Wx : Wish} {c : Ctx} {X : Cx} (K : CxOk C ca Wx c X)
include S K
theorem ckE_ok {e : Expr} {m : ME} (h : ckE rec C e m = true) : PE X e (tI X.K ca Wx c m) := by
  unfold ckE at h
  split at h
  · split at h
    · exact ckConst_ok h
    · cases h
  · exact ckName_ok K h
  · split at h
    · simp only [Bool.and_eq_true, decide_eq_true_eq] at h
      obtain ⟨⟨⟨rfl, h1⟩, h2⟩, h3⟩ := h
      exact pm_bin h1 (S _ _ h2 _ _ _ _ K) (S _ _ h3 _ _ _ _ K)
    · cases h
  · split at h
    · exact pm_neg (S _ _ h _ _ _ _ K)
    · cases h
  · split at h
    · exact pm_not (S _ _ h _ _ _ _ K)
    · cases h
  · exact pe_one (S _ _ h _ _ _ _ K)
  · split at h
    · rw [Bool.and_eq_true] at h
      exact pm_and (S _ _ h.1 _ _ _ _ K) (S _ _ h.2 _ _ _ _ K)
    · cases h
  · split at h
    · rw [Bool.and_eq_true] at h
      exact pm_or (S _ _ h.1 _ _ _ _ K) (S _ _ h.2 _ _ _ _ K)
    · cases h
  · split at h
    · simp only [Bool.and_eq_true] at h
      exact pm_ite (S _ _ h.1.1 _ _ _ _ K) (S _ _ h.1.2 _ _ _ _ K) (S _ _ h.2 _ _ _ _ K)
    · cases h
  · exact (ckCmp_ok S K h).1
  · split at h
    · exact pm_tup (S _ _ h _ _ _ _ K)
    · cases h
  · split at h
    · exact pm_lst (S _ _ h _ _ _ _ K)
    · cases h
  · split at h
    · rw [Bool.or_eq_true] at h
      rcases h with h | h
      · simp only [Bool.and_eq_true, List.isEmpty_iff] at h
        obtain ⟨⟨rfl, rfl⟩, rfl⟩ := h
        exact pm_dic0
      · simp only [Bool.and_eq_true, Bool.not_eq_true', decide_eq_true_eq] at h
        obtain ⟨⟨⟨⟨h1, h2⟩, h3⟩, h4⟩, h5⟩ := h
        split at h5
        · rename_i hk
          rw [twoM_ok hk]
          exact pm_dic (S _ _ h5 _ _ _ _ K _) h2 h3 (fun z => by rw [z] at h1; cases h1) h4
        · cases h5
    · cases h
  · split at h
    · simp only [Bool.and_eq_true] at h
      exact pm_sli (S _ _ h.1.1 _ _ _ _ K) (S _ _ h.1.2 _ _ _ _ K) (S _ _ h.2 _ _ _ _ K)
    · cases h
  · split at h
    · simp only [Bool.and_eq_true, Bool.not_eq_true'] at h
      exact pm_idx K.un (S _ _ h.1.2 _ _ _ _ K) (S _ _ h.2 _ _ _ _ K) (plain_ok h.1.1)
    · cases h
  · exact ckCall_ok S K h
  · exact ckMeth_ok S K h
  · exact ckLc_ok S K h
  · cases h
end
end PM
end

section
set_option Elab.async false
set_option linter.all false
set_option maxRecDepth 100000
set_option maxHeartbeats 4000000
/-! PMChk5: tests; the checker of expressions, closed; the checker of statements. -/
namespace PM
open PySem PySem.Spec PyProof.Rows L2
def plainT : Expr → Bool
  | .UnaryOp .Not _ _ => false
  | .BoolOp .. => false
  | .IfExp .. => false
  | .Compare .. => false
  | _ => true
theorem plainT_ok {e : Expr} {env : PySem.Env} (h : plainT e = true) : ∀ whole, isTrue e env whole = (do let v ← whole; standAt e.pos; holding [v] (truthy v)) := fun whole => by
  cases e with
  | UnaryOp op x p => cases op <;> first | rfl | cases h
  | _ => first | rfl | cases h
def ckT (rec : Rec) (C : CC) (e : Expr) (m : ME) : Bool := match e with
  | .UnaryOp .Not x _ => match m with
    | .not a => rec C (.T x a)
    | _ => false
  | .BoolOp .. => rec C (.W e m)
  | .Compare x ops ys _ => ckCmp rec C x ops ys m
  | e => plainT e && rec C (.E e m)
def ckW (rec : Rec) (C : CC) (e : Expr) (m : ME) : Bool := match e with
  | .BoolOp _ [x] _ => rec C (.T x m)
  | .BoolOp .And (x :: y :: r) p => match m with
    | .and a b => rec C (.T x a) && rec C (.W (.BoolOp .And (y :: r) p) b)
    | _ => false
  | .BoolOp .Or (x :: y :: r) p => match m with
    | .or a b => rec C (.T x a) && rec C (.W (.BoolOp .Or (y :: r) p) b)
    | _ => false
  | _ => false
def ckTask (rec : Rec) (C : CC) (t : Task) : Bool := match t with
  | .E e m => ckE rec C e m
  | .A es ms => match es, ms with
    | [], [] => true
    | e :: es, m :: ms => !star e && rec C (.E e m) && rec C (.A es ms)
    | _, _ => false
  | .O e m => match e, m with
    | none, none => true
    | some e, some m => rec C (.E e m)
    | _, _ => false
  | .T e m => ckT rec C e m
  | .W e m => ckW rec C e m
  | .I tg it m => ckIter rec C tg it m
  | .G tg t => ckTgt rec C tg t
  | .Gs tg t => ckTgts rec C tg t
  | .Ts es ms => match es, ms with
    | [], [] => true
    | [e], [m] => rec C (.T e m)
    | _, _ => false
  | .P ks vs kvs => match ks, vs, kvs with
    | [], [], [] => true
    | some k :: ks, v :: vs, (a, b) :: kvs => rec C (.E k a) && rec C (.E v b) && rec C (.P ks vs kvs)
    | _, _, _ => false
def ck : Nat → CC → Task → Bool
  | 0, _, _ => false
  | n + 1, C, t => ckTask (ck n) C t
section
variable {rec : Rec} (S : Sound rec) {C : CC} {ca : Str → Option Addr} {Wx : Wish} {c : Ctx} {X : Cx} (K : CxOk C ca Wx c X)
include S K
theorem ckT_ok {e : Expr} {m : ME} (h : ckT rec C e m = true) : PT X e (tIt X.K ca Wx c m) := by
  unfold ckT at h
  split at h
  · split at h
    · exact pt_notT (S _ _ h _ _ _ _ K)
    · cases h
  · exact (show PW X _ _ from S _ _ h _ _ _ _ K).pt
  · exact (ckCmp_ok S K h).2
  · rw [Bool.and_eq_true] at h
    exact pt_any (S _ _ h.2 _ _ _ _ K) (plainT_ok h.1)
theorem ckW_ok {e : Expr} {m : ME} (h : ckW rec C e m = true) : PW X e (tIt X.K ca Wx c m) := by
  unfold ckW at h
  split at h
  · rename_i op x p
    cases op with
    | And => exact pw_and1 (S _ _ h _ _ _ _ K)
    | Or => exact pw_or1 (S _ _ h _ _ _ _ K)
  · split at h
    · rw [Bool.and_eq_true] at h
      exact pt_and (S _ _ h.1 _ _ _ _ K) (S _ _ h.2 _ _ _ _ K)
    · cases h
  · split at h
    · rw [Bool.and_eq_true] at h
      exact pt_or (S _ _ h.1 _ _ _ _ K) (S _ _ h.2 _ _ _ _ K)
    · cases h
  · cases h
end
theorem ck_sound : ∀ n, Sound (ck n)
  | 0, _, _, h => by cases h
  | n + 1, C, t, h => fun ca Wx c X K => by
    have S := ck_sound n
    have h : ckTask (ck n) C t = true := h
    cases t with
    | E e m => exact ckE_ok S K h
    | A es ms =>
      unfold ckTask at h
      dsimp only at h
      split at h
      · exact pm_nil
      · simp only [Bool.and_eq_true, Bool.not_eq_true'] at h
        exact pm_cons (S _ _ h.1.2 _ _ _ _ K) (S _ _ h.2 _ _ _ _ K) (star_cons h.1.1)
      · cases h
    | O e m =>
      unfold ckTask at h
      dsimp only at h
      split at h
      · exact pm_onone
      · exact pm_osome (S _ _ h _ _ _ _ K)
      · cases h
    | T e m => exact ckT_ok S K h
    | W e m => exact ckW_ok S K h
    | I tg it m => exact ckIter_ok S K h
    | G tg t => exact ckTgt_ok S K h
    | Gs tg t => exact ckTgts_ok S K h
    | Ts es ms =>
      unfold ckTask at h
      dsimp only at h
      split at h
      · exact c_nil
      · exact c_one (S _ _ h _ _ _ _ K)
      · cases h
    | P ks vs kvs =>
      unfold ckTask at h
      dsimp only at h
      split at h
      · exact fun pos => pps_nil
      · simp only [Bool.and_eq_true] at h
        exact fun pos => pps_cons (S _ _ h.1.1 _ _ _ _ K) (S _ _ h.1.2 _ _ _ _ K) (S _ _ h.2 _ _ _ _ K pos)
      · cases h
/-! ### statements -/
def noComp : Expr → Bool
  | .ListComp .. => false
  | .SetComp .. => false
  | .DictComp .. => false
  | _ => true
theorem noComp_ok {e : Expr} {t : Option Expr} {l : Nat} {env : PySem.Env} (h : noComp e = true) : swapsWith e t l env = pure false := by
  cases e <;> first | rfl | cases h
theorem noComp_sole {e t : Expr} {l : Nat} {env : PySem.Env} (h : noComp e = true) : swapsWithSole [t] e l env = pure false := noComp_ok h
theorem swap_name {x : Str} {p : Pos} {e : Expr} {env : PySem.Env} : swappedStores [.Name x p] e env = pure none := by cases e <;> rfl
theorem swap_sub {x y : Expr} {p : Pos} {e : Expr} {env : PySem.Env} : swappedStores [.Subscript x y p] e env = pure none := by cases e <;> rfl
theorem swap_tup {ts : List Expr} {k : Nat} {p : Pos} {e : Expr} {env : PySem.Env} (h : isTup e = false) : swappedStores [.Tuple ts k p] e env = pure none := by cases e <;> first | rfl | cases h
theorem swap_fold {ts vs : List Expr} {k k2 : Nat} {p p2 : Pos} {env : PySem.Env} (h : vs.all (foldedForSure 8) = true) : swappedStores [.Tuple ts k p] (.Tuple vs k2 p2) env = pure none := by
  unfold swappedStores
  dsimp only
  split
  · rfl
  · split
    · rfl
    · split
      · rfl
      · first | rfl | (rw [if_pos h])
theorem sw_off {elt : Expr} {gs : List Comprehension} {scope : Scope} {pos py : Pos} {y : Str} {l : Nat} {env : PySem.Env} (h : (py.line == pos.line) = false ∨ (scope.names.any fun (n, k) => n == y && (k == .local || k == .cell)) = true ∨ env.scope.names.lookup y ≠ some .local) :
    swapsWith (.ListComp elt gs scope pos) (some (.Name y py)) l env = pure false := by
  unfold swapsWith
  simp only [Expr.pos]
  rcases h with h | h | h
  · simp [h]
  · simp only [h, Bool.not_true, Bool.and_false]
  · have : (env.kindOf y == some NameKind.local) = false := by
      rw [beq_eq_false_iff_ne]
      exact h
    simp [this]
end PM
namespace PM
open PySem PySem.Spec PyProof.Rows L2
/-- the names of a row of targets told on one line -/
def parNames (C : CC) (ts : List Expr) : List Str := ts.filterMap fun
    | .Name id pos => if decide (C.sc.names.lookup id = some .local) && pos.line == ((ts.head?.map (·.pos.line)).getD 0) then some id else none
    | _ => none
def parOk (C : CC) (ts vs : List Expr) (ns : List Str) : Bool := (ts.length == 2 || ts.length == 3) && vs.length == ts.length && !(vs.any fun | .Starred .. => true | _ => false) && decide (parNames C ts = ns) && ns.length == ts.length && ns.eraseDups.length == ns.length &&
  !vs.all (foldedForSure 8) && !vs.all (constantsAlone 8)
theorem par_ok {C : CC} {env : PySem.Env} {ts vs : List Expr} {ns : List Str} {k k2 : Nat} {p p2 : Pos} (hs : env.scope = C.sc) (hk : C.sc.kind = .function) (h : parOk C ts vs ns = true) : swappedStores [.Tuple ts k p] (.Tuple vs k2 p2) env = pure (some ns) := by
  unfold parOk at h
  simp only [Bool.and_eq_true, Bool.not_eq_true', decide_eq_true_eq] at h
  obtain ⟨⟨⟨⟨⟨⟨⟨h1, h2⟩, h3⟩, h4⟩, h5⟩, h6⟩, h7⟩, h8⟩ := h
  have hn : (ts.filterMap fun
    | .Name id pos => if env.kindOf id == some .local && pos.line == ((ts.head?.map (·.pos.line)).getD 0) then some id else none
    | _ => none) = ns := by
    rw [← h4]
    unfold parNames Env.kindOf
    rw [hs]
    congr 1
    funext e
    cases e <;> first | rfl | skip
    rename_i id pos
    dsimp only
    have : (C.sc.names.lookup id == some NameKind.local) = decide (C.sc.names.lookup id = some NameKind.local) := by
      by_cases q : C.sc.names.lookup id = some NameKind.local
      · simp [q]
      · simp [q]
    rw [this]
  have hb : env.blockKind = .function := by unfold Env.blockKind; rw [hs, hk]; rfl
  unfold swappedStores
  dsimp only
  generalize hX : List.filterMap (_ : Expr → Option Str) ts = L
  have hL : L = ns := hX.symm.trans hn
  rw [hL, hb]
  have e1 : (!(ts.length == 2 || ts.length == 3) || vs.length != ts.length || (ScopeKind.function != ScopeKind.function)) = false := by
    rw [h1, bne, h2]
    rfl
  have e2 : (ns.length != ts.length || ns.eraseDups.length != ns.length) = false := by
    rw [bne, h5, bne, h6]
    rfl
  generalize hY : List.any vs (_ : Expr → Bool) = M
  have hM : M = false := hY.symm.trans h3
  rw [e1, e2, hM, h7, h8]
  rfl
inductive Task2 where
  | S (st : Stmt) (m : MS)
  | Ss (sts : List Stmt) (ms : List MS)
def nodupN : List Nat → Bool
  | [] => true
  | i :: r => !r.contains i && nodupN r
def nmsOk (C : CC) : List Str → List Nat → Bool
  | [], [] => true
  | x :: xs, i :: is => decide (C.N[i]? = some x) && decide (C.sc.names.lookup x = some .local) && nmsOk C xs is
  | _, _ => false
theorem nms2 {C : CC} {a b : Str} {is : List Nat} (h : nmsOk C [a, b] is = true) (d : nodupN is = true) : ∃ i j, is = [i, j] ∧ C.N[i]? = some a ∧ C.N[j]? = some b ∧ C.sc.names.lookup a = some .local ∧ C.sc.names.lookup b = some .local ∧ i ≠ j := by
  match is, h with
  | [_], h => simp [nmsOk] at h
  | _ :: _ :: _ :: _, h => simp [nmsOk] at h
  | [i, j], h =>
    simp only [nmsOk, Bool.and_eq_true, decide_eq_true_eq] at h
    refine ⟨i, j, rfl, h.1.1, h.2.1.1, h.1.2, h.2.1.2, ?_⟩
    rintro rfl
    simp [nodupN] at d
theorem nms3 {C : CC} {a b e : Str} {is : List Nat} (h : nmsOk C [a, b, e] is = true) (d : nodupN is = true) : ∃ i j l, is = [i, j, l] ∧ C.N[i]? = some a ∧ C.N[j]? = some b ∧ C.N[l]? = some e ∧ C.sc.names.lookup a = some .local ∧ C.sc.names.lookup b = some .local ∧ C.sc.names.lookup e = some .local ∧ i ≠ j ∧ i ≠ l ∧ j ≠ l := by
  match is, h with
  | [_], h => simp [nmsOk] at h
  | [_, _], h => simp [nmsOk] at h
  | _ :: _ :: _ :: _ :: _, h => simp [nmsOk] at h
  | [i, j, l], h =>
    simp only [nmsOk, Bool.and_eq_true, decide_eq_true_eq] at h
    refine ⟨i, j, l, rfl, h.1.1, h.2.1.1, h.2.2.1.1, h.1.2, h.2.1.2, h.2.2.1.2, ?_, ?_, ?_⟩ <;> (rintro rfl; simp [nodupN] at d)
theorem sub_asg {x z : Expr} {p : Pos} {env : PySem.Env} {v : Value} (h : isSlice z = false) : assign (.Subscript x z p) env v = (do
      let ov ← holding [v] (eval x env)
      let iv ← holding [v, ov] (eval z env)
      standAt p
      holding [v, ov, iv] (setItem ov iv v)
      release [v, ov, iv] []) := by
  cases z <;> first | rfl | cases h
def ckAsg (re : Rec) (C : CC) (y x : Expr) (m : MS) : Bool := match m with
  | .set t a => match y, x, t with
    | .Name ny py, .ListComp elt gens scope lpos, .nm i => if (decide (C.sc.names.lookup ny = some .local) && (py.line == lpos.line) && !(scope.names.any fun (n, k) => n == ny && (k == .local || k == .cell))) = true
        then decide (C.N[i]? = some ny) && ckLc re C elt gens scope a
        else re C (.G y t) && re C (.E x a)
    | .Name _ _, x, t => noComp x && re C (.G y t) && re C (.E x a)
    | .Tuple _ _ _, .Tuple vs _ _, t => vs.all (foldedForSure 8) && re C (.G y t) && re C (.E x a)
    | .Tuple _ _ _, x, t => noComp x && !isTup x && re C (.G y t) && re C (.E x a)
    | _, _, _ => false
  | .setix i k a => match y with
    | .Subscript (.Name n _) z _ => noComp x && !isSlice z && decide (C.N[i]? = some n) && vis C n && dbg n && re C (.E z k) && re C (.E x a)
    | _ => false
  | .par is es => match y, x with
    | .Tuple [.Name n1 p1, .Name n2 p2] _ _, .Tuple [a, b] _ _ => parOk C [.Name n1 p1, .Name n2 p2] [a, b] [n1, n2] && nmsOk C [n1, n2] is && nodupN is && re C (.A [a, b] es)
    | .Tuple [.Name n1 p1, .Name n2 p2, .Name n3 p3] _ _, .Tuple [a, b, d] _ _ => parOk C [.Name n1 p1, .Name n2 p2, .Name n3 p3] [a, b, d] [n1, n2, n3] && nmsOk C [n1, n2, n3] is && nodupN is && re C (.A [a, b, d] es)
    | _, _ => false
  | _ => false
def ckStmt (re : Rec) (rs : CC → Task2 → Bool) (C : CC) (st : Stmt) (m : MS) : Bool := match st with
  | .Pass _ => match m with
    | .pass => true
    | _ => false
  | .Break _ => match m with
    | .brk => true
    | _ => false
  | .Continue _ => match m with
    | .cont => true
    | _ => false
  | .Expr (.Constant (.str _) _ _) _ => match m with
    | .pass => true
    | _ => false
  | .Expr x _ => match m with
    | .expr a => noComp x && re C (.E x a)
    | _ => false
  | .Return (some x) _ => match m with
    | .ret a => re C (.E x a)
    | _ => false
  | .Return none _ => match m with
    | .retN => true
    | _ => false
  | .Assign [y] x _ => ckAsg re C y x m
  | .AugAssign (.Name n _) op x _ => match m with
    | .aug i op' a => decide (op = op') && (decide (op = .Add) || decide (op = .Sub)) && decide (C.N[i]? = some n) && isLoc C n && re C (.E x a)
    | _ => false
  | .If t p q _ => match m with
    | .ite a ps qs => re C (.T t a) && rs C (.Ss p ps) && rs C (.Ss q qs)
    | _ => false
  | .For tg iter body [] _ => match m with
    | .for_ t it ms => !isSet iter && re C (.I tg iter it) && re C (.G tg t) && rs C (.Ss body ms)
    | _ => false
  | .While t body [] _ => match m with
    | .while a ms => re C (.T t a) && rs C (.Ss body ms)
    | _ => false
  | .Raise (some (.Call (.Name n _) args [] _)) none _ => match m with
    | .raise n' es => decide (n = n') && isG C n && dbg n && noStars args && !args.isEmpty && re C (.A args es) && match C.G.lookup n with
      | some (.cls true) => true
      | _ => false
    | _ => false
  | .Try body [.ExceptHandler (some (.Name cl _)) (some n) [.Assign [.Name y _] (.Name n' _) _] _] [] [] _ => match m with
    | .tryset ms cl' i j => decide (cl = cl') && decide (n = n') && isG C cl && dbg cl && dbg n && decide (C.N[i]? = some n) && decide (C.N[j]? = some y) && decide (C.sc.names.lookup n = some .local) && decide (C.sc.names.lookup y = some .local) && rs C (.Ss body ms) && match C.G.lookup cl with
      | some (.cls _) => true
      | _ => false
    | _ => false
  | _ => false
def ck2 (fe : Nat) : Nat → CC → Task2 → Bool
  | 0, _, _ => false
  | n + 1, C, .S st m => ckStmt (ck fe) (ck2 fe n) C st m
  | n + 1, C, .Ss sts ms => match sts, ms with
    | [], [] => true
    | st :: sts, m :: ms => ck2 fe n C (.S st m) && ck2 fe n C (.Ss sts ms)
    | _, _ => false
/-- a def's context -/
structure CxS (X : Cx) : Prop where
  stk : X.stack = X.env :: X.outer
  fr : X.env.frame = some X.env.locals
  po : PassesOwn (model X.prog X.w) X.A X.env X.xe
def Sem2 (ca : Str → Option Addr) (Wx : Wish) (c : Ctx) (X : Cx) : Task2 → Prop
  | .S st m => PS X st (tM X.K ca Wx c m)
  | .Ss sts ms => PSs X sts (tMs X.K ca Wx c ms)
def Sound2 (rs : CC → Task2 → Bool) : Prop := ∀ C t, rs C t = true → ∀ ca Wx c X, CxOk C ca Wx c X → CxS X → Sem2 ca Wx c X t
section
variable {re : Rec} (S : Sound re) {C : CC} {ca : Str → Option Addr} {Wx : Wish} {c : Ctx} {X : Cx} (K : CxOk C ca Wx c X)
include S K
theorem ckAsg_ok {y x : Expr} {m : MS} {pos : Pos} (h : ckAsg re C y x m = true) : PS X (.Assign [y] x pos) (tM X.K ca Wx c m) := by
  unfold ckAsg at h
  split at h
  · split at h
    · rename_i ny py elt gens scope lpos i
      split at h
      · rename_i hc
        simp only [Bool.and_eq_true, Bool.not_eq_true', decide_eq_true_eq] at hc h
        exact ckLc_set S K h.2 h.1 hc.1.1 hc.1.2 hc.2
      · rename_i hc
        rw [Bool.and_eq_true] at h
        refine s_set (S _ _ h.2 _ _ _ _ K) (S _ _ h.1 _ _ _ _ K) (sw_off (l := pos.line) ?_) swap_name rfl
        rw [K.sc]
        cases q1 : (py.line == lpos.line) with
        | false => exact .inl rfl
        | true =>
          cases q2 : (scope.names.any fun (n, k) => n == ny && (k == .local || k == .cell)) with
          | true => exact .inr (.inl rfl)
          | false => exact .inr (.inr fun z => hc (by rw [q1, q2, decide_eq_true z]; rfl))
    · simp only [Bool.and_eq_true] at h
      exact s_set (S _ _ h.2 _ _ _ _ K) (S _ _ h.1.2 _ _ _ _ K) (noComp_sole h.1.1) swap_name rfl
    · simp only [Bool.and_eq_true] at h
      exact s_set (S _ _ h.2 _ _ _ _ K) (S _ _ h.1.2 _ _ _ _ K) rfl (swap_fold h.1.1) rfl
    · simp only [Bool.and_eq_true, Bool.not_eq_true'] at h
      exact s_set (S _ _ h.2 _ _ _ _ K) (S _ _ h.1.2 _ _ _ _ K) (noComp_sole h.1.1.1) (swap_tup h.1.1.2) rfl
    · cases h
  · split at h
    · simp only [Bool.and_eq_true, Bool.not_eq_true', decide_eq_true_eq] at h
      obtain ⟨⟨⟨⟨⟨⟨h1, h2⟩, h3⟩, h4⟩, h5⟩, h6⟩, h7⟩ := h
      obtain ⟨d1, d2, d3⟩ := dbg_ok h5
      refine s_setixL (S _ _ h7 _ _ _ _ K) (pe_var (by rw [K.N]; exact h3) (vis_ok K h4) d1 d2) (S _ _ h6 _ _ _ _ K) (noComp_sole h1) swap_sub rfl fun v => sub_asg h2
    · cases h
  · split at h
    · simp only [Bool.and_eq_true] at h
      obtain ⟨⟨⟨h1, h2⟩, h3⟩, h4⟩ := h
      obtain ⟨i, j, rfl, q1, q2, q3, q4, ne⟩ := nms2 h2 h3
      exact s_par2 K.calm (by rw [K.N]; exact K.nd) (by rw [K.N]; exact q1) (by rw [K.N]; exact q2) ne (by rw [K.sc]; exact q3) (by rw [K.sc]; exact q4) (S _ _ h4 _ _ _ _ K) (par_ok K.sc K.kind h1) rfl
    · simp only [Bool.and_eq_true] at h
      obtain ⟨⟨⟨h1, h2⟩, h3⟩, h4⟩ := h
      obtain ⟨i, j, l, rfl, q1, q2, q3, q4, q5, q6, n1, n2, n3⟩ := nms3 h2 h3
      exact s_par3 K.calm (by rw [K.N]; exact K.nd) (by rw [K.N]; exact q1) (by rw [K.N]; exact q2) (by rw [K.N]; exact q3) n1 n2 n3 (by rw [K.sc]; exact q4) (by rw [K.sc]; exact q5) (by rw [K.sc]; exact q6) (S _ _ h4 _ _ _ _ K) (par_ok K.sc K.kind h1) rfl
    · cases h
  · cases h
end
theorem CxOk.tr {C : CC} {ca : Str → Option Addr} {Wx W : Wish} {c : Ctx} {X : Cx} (K : CxOk C ca Wx c X) {pn : List (Addr × Obj)} {xe : Value → Shared → Prop} (tk : L2.Takes (X.tr pn xe) W) : CxOk C ca W c (X.tr pn xe) where
  N := K.N
  nd := K.nd
  sc := K.sc
  fn := K.fn
  kind := K.kind
  calm := K.calm
  un := K.un
  tk := tk
  G := fun x k h => by
    have q := K.G x k h
    cases k <;> exact q
  cls := K.cls
section
variable {re : Rec} (S : Sound re) {rs : CC → Task2 → Bool} (T : Sound2 rs) {C : CC} {ca : Str → Option Addr} {Wx : Wish} {c : Ctx} {X : Cx} (K : CxOk C ca Wx c X) (Y : CxS X)
include S T K Y
theorem ckStmt_ok {st : Stmt} {m : MS} (h : ckStmt re rs C st m = true) : PS X st (tM X.K ca Wx c m) := by
  unfold ckStmt at h
  split at h
  · split at h
    · exact s_pass
    · cases h
  · split at h
    · exact s_brk
    · cases h
  · split at h
    · exact s_cont
    · cases h
  · split at h
    · exact s_doc
    · cases h
  · split at h
    · rw [Bool.and_eq_true] at h
      exact s_expr (S _ _ h.2 _ _ _ _ K) (noComp_ok h.1)
    · cases h
  · split at h
    · exact s_ret (S _ _ h _ _ _ _ K)
    · cases h
  · split at h
    · exact s_retN
    · cases h
  · exact ckAsg_ok S K h
  · split at h
    · simp only [Bool.and_eq_true, Bool.or_eq_true, decide_eq_true_eq] at h
      obtain ⟨⟨⟨⟨rfl, h1⟩, h2⟩, h3⟩, h4⟩ := h
      obtain ⟨l, f⟩ := loc_ok K h3
      exact s_aug h1 (by rw [K.N]; exact K.nd) (by rw [K.N]; exact h2) l f (S _ _ h4 _ _ _ _ K)
    · cases h
  · split at h
    · simp only [Bool.and_eq_true] at h
      exact s_ite (S _ _ h.1.1 _ _ _ _ K) (T _ _ h.1.2 _ _ _ _ K Y) (T _ _ h.2 _ _ _ _ K Y)
    · cases h
  · split at h
    · simp only [Bool.and_eq_true, Bool.not_eq_true'] at h
      exact s_for Y.po K.calm (S _ _ h.1.1.2 _ _ _ _ K) (S _ _ h.1.2 _ _ _ _ K) (T _ _ h.2 _ _ _ _ K Y) (fold_ok h.1.1.1)
    · cases h
  · split at h
    · rw [Bool.and_eq_true] at h
      exact s_while Y.po (S _ _ h.1 _ _ _ _ K) (T _ _ h.2 _ _ _ _ K Y)
    · cases h
  · rename_i args _ _
    split at h
    · simp only [Bool.and_eq_true, Bool.not_eq_true', decide_eq_true_eq] at h
      obtain ⟨⟨⟨⟨⟨⟨rfl, h1⟩, h2⟩, h3⟩, h4⟩, h5⟩, h6⟩ := h
      split at h6
      · rename_i hl
        obtain ⟨A, hA, hm, hE, _⟩ := K.G _ _ hl
        obtain ⟨hE, hf⟩ := hE rfl
        cases args with
        | nil => cases h4
        | cons x xs =>
          obtain ⟨s1, s2⟩ := noStars_cons h3
          exact s_raise hE hA hf K.calm K.tk hm (gl_ok K h1) (dbg_ok h2).1 (S _ _ h5 _ _ _ _ K) (star_cons s1) (noStars_any s2)
      · cases h6
    · cases h
  · split at h
    · simp only [Bool.and_eq_true, decide_eq_true_eq] at h
      obtain ⟨⟨⟨⟨⟨⟨⟨⟨⟨⟨rfl, rfl⟩, h1⟩, h2⟩, h3⟩, h4⟩, h5⟩, h6⟩, h7⟩, h8⟩, h9⟩ := h
      split at h9
      · rename_i hl
        obtain ⟨A, hA, hm, _, hx⟩ := K.G _ _ hl
        obtain ⟨d1, d2, d3⟩ := dbg_ok h3
        exact s_try hx Y.stk Y.fr (by rw [K.N]; exact K.nd) (by rw [K.N]; exact h4) (by rw [K.N]; exact h5) (by show X.env.scope.names.lookup _ = _; rw [K.sc]; exact h6) (by show X.env.scope.names.lookup _ = _; rw [K.sc]; exact h7)
          ⟨gl_ok K h1, (dbg_ok h2).1, .inl hm⟩ K.tk d1 d2 rfl fun W pn xe tk po => T _ _ h8 _ _ _ _ (K.tr tk) ⟨Y.stk, Y.fr, po⟩
      · cases h9
    · cases h
  · cases h
end
theorem ck2_sound (fe : Nat) : ∀ n, Sound2 (ck2 fe n)
  | 0, _, t, h => by cases t <;> cases h
  | n + 1, C, t, h => fun ca Wx c X K Y => by
    have S := ck_sound fe
    have T := ck2_sound fe n
    cases t with
    | S st m => exact ckStmt_ok S T K Y h
    | Ss sts ms =>
      simp only [ck2] at h
      split at h
      · exact ss_nil
      · rw [Bool.and_eq_true] at h
        exact ss_cons (T _ _ h.1 _ _ _ _ K Y) (T _ _ h.2 _ _ _ _ K Y)
      · cases h
end PM
end

section
set_option Elab.async false
set_option linter.all false
set_option maxRecDepth 100000
set_option maxHeartbeats 4000000
/-! PMFn: each def of the program keeps what the machine says of it. -/
namespace PM
open PySem PySem.Spec PyProof.Rows L2
section
variable {K : PySem.W.Frag} {ca : Str → Option Addr} {H H' : Hp} {F F' W W' : Fs}
/-- who owns what, argument by argument -/
theorem VRs.own : ∀ {us : List V} {vs : List Val} {fp : List Addr}, VRs K ca H F us vs fp → fp.Nodup → ∃ own : Nat → List Addr, (∀ j v, vs[j]? = some v → ∃ u, us[j]? = some u ∧ VR K ca H F u v (own j)) ∧ (∀ j, vs.length ≤ j → own j = []) ∧
    (∀ j, (own j).Nodup) ∧ (∀ i j a, a ∈ own i → a ∈ own j → i = j) ∧ ∀ a, (∃ j, a ∈ own j) ↔ a ∈ fp
  | [], vs, fp, h, nd => by
    cases h
    exact ⟨fun _ => [], fun j v h => (by simp at h), fun _ _ => rfl, fun _ => .nil, fun i j a m => (by cases m), fun a => (by simp)⟩
  | u :: us, vs, fp, h, nd => by
    cases h with
    | @cons _ _ v vs f g h r =>
      obtain ⟨n1, n2, n3⟩ := List.nodup_append.mp nd
      obtain ⟨own, q1, q2, q3, q4, q5⟩ := VRs.own r n2
      refine ⟨fun j => match j with
        | 0 => f
        | j + 1 => own j, fun j w hj => ?_, fun j hj => ?_, fun j => ?_, fun i j a m m' => ?_, fun a => ?_⟩
      · cases j with
        | zero => cases hj; exact ⟨u, rfl, h⟩
        | succ j => exact q1 j w (by simpa using hj)
      · cases j with
        | zero => simp at hj
        | succ j => exact q2 j (by simpa using hj)
      · cases j with
        | zero => exact n1
        | succ j => exact q3 j
      · cases i with
        | zero =>
          cases j with
          | zero => rfl
          | succ j => exact absurd rfl (n3 a m a ((q5 a).mp ⟨j, m'⟩))
        | succ i =>
          cases j with
          | zero => exact absurd rfl (n3 a m' a ((q5 a).mp ⟨i, m⟩))
          | succ j => rw [q4 i j a m m']
      · constructor
        · rintro ⟨j, m⟩
          cases j with
          | zero => exact List.mem_append_left _ m
          | succ j => exact List.mem_append_right _ ((q5 a).mp ⟨j, m⟩)
        · intro m
          rcases List.mem_append.mp m with m | m
          · exact ⟨0, m⟩
          · obtain ⟨j, m⟩ := (q5 a).mpr m
            exact ⟨j + 1, m⟩
theorem start_get {N : List Str} {us : List V} {j : Nat} : (L2.start N us)[j]? = if j < us.length then (us[j]?).map some else if j < us.length + (N.length - us.length) then some none else none := by
  unfold L2.start
  by_cases h : j < us.length
  · rw [List.getElem?_append_left (by simpa using h), List.getElem?_map, if_pos h]
  · rw [List.getElem?_append_right (by simpa using h), List.getElem?_replicate, if_neg h, List.length_map]
    by_cases q : j < us.length + (N.length - us.length)
    · rw [if_pos q, if_pos (by omega)]
    · rw [if_neg q, if_neg (by omega)]
/-- the frame at a def's entry -/
theorem Rel.start {N : List Str} {us : List V} {vs : List Val} {fp : List Addr} {m : Nat} (h : VRs K ca H F us vs fp) (nd : fp.Nodup) (nf : ∀ a ∈ fp, ¬ F a) (al : ∀ a, F a → H a ≠ none) (hn : us.length ≤ N.length) (hm : m = N.length - us.length) :
    ∃ own, Rel K ca (L2.start N us) H (vs.map some ++ List.replicate m none) F own ∧ (∀ a, Ow own a ↔ a ∈ fp) ∧ ∀ j, vs.length ≤ j → own j = [] := by
  obtain ⟨own, q1, q2, q3, q4, q5⟩ := h.own nd
  have l := h.len
  have gs : ∀ j, getS (vs.map some ++ List.replicate m none) j = vs[j]? := fun j => by
    unfold getS
    by_cases hj : j < vs.length
    · rw [List.getElem?_append_left (by simpa using hj), List.getElem?_map]
      cases vs[j]? <;> rfl
    · rw [List.getElem?_append_right (by simpa using hj), List.getElem?_replicate, List.getElem?_eq_none (Nat.le_of_not_lt hj)]
      split <;> rfl
  refine ⟨own, ⟨?_, fun j v hj => ?_, fun j hj => ?_, q3, q4, fun j a m => nf a ((q5 a).mp ⟨j, m⟩), al⟩, q5, q2⟩
  · simp [L2.start, hm, l]
  · rw [gs] at hj
    obtain ⟨u, hu, r⟩ := q1 j v hj
    refine ⟨u, ?_, r⟩
    rw [start_get, if_pos (List.getElem?_eq_some_iff.mp hu).1, hu]
    rfl
  · rw [gs] at hj
    exact q2 j (List.getElem?_eq_none_iff.mp hj)
/-- what the lent slots came to -/
theorem parts_ok {σ' : L2.St} {e' : Env} {own' : Nat → List Addr} (R' : Rel K ca σ' H' e' F' own') (E : Ext H F W H' F' W') (w : Wok H F W) : ∀ {as : List Val} {i : Nat} {us : List V} {fp : List Addr} {ps : List Val}, VRs K ca H F us as fp →
    (∀ j a u, as[j]? = some a → us[j]? = some u → owned a = true → σ'[i + j]? = some (some u)) → parts e' i as = some ps →
    ∃ fp', VRs K ca H' F' us ps fp' ∧ fp'.Nodup ∧ ∀ a ∈ fp', ∃ j, i ≤ j ∧ a ∈ own' j
  | [], i, us, fp, ps, h, hσ, hp => by
    cases h
    cases hp
    exact ⟨[], .nil, .nil, fun a m => by cases m⟩
  | a :: as, i, us, fp, ps, h, hσ, hp => by
    cases h with
    | @cons u us _ _ f g h r =>
      have hσ' : ∀ j a u', as[j]? = some a → us[j]? = some u' → owned a = true → σ'[(i + 1) + j]? = some (some u') := fun j a u' h1 h2 h3 => by
        have := hσ (j + 1) a u' (by simpa using h1) (by simpa using h2) h3
        rw [show i + (j + 1) = i + 1 + j by omega] at this
        exact this
      have hp : (if owned a = true then (getS e' i).bind fun v => (parts e' (i + 1) as).map (v :: ·) else (parts e' (i + 1) as).map (a :: ·)) = some ps := hp
      by_cases ho : owned a = true
      · rw [if_pos ho] at hp
        obtain ⟨v, hv, hp⟩ := Option.bind_eq_some_iff.mp hp
        obtain ⟨qs, hq, rfl⟩ := Option.map_eq_some_iff.mp hp
        obtain ⟨fp', r1, n1, s1⟩ := parts_ok R' E w r hσ' hq
        obtain ⟨u', hu', rv⟩ := R'.slot i v hv
        have := hσ 0 a u rfl rfl ho
        rw [Nat.add_zero, hu'] at this
        cases this
        refine ⟨own' i ++ fp', .cons rv r1, List.nodup_append.mpr ⟨R'.nd i, n1, fun x m y m' => ?_⟩, fun x m => ?_⟩
        · rintro rfl
          obtain ⟨j, hj, m'⟩ := s1 x m'
          have := R'.dj i j x m m'
          omega
        · rcases List.mem_append.mp m with m | m
          · exact ⟨i, Nat.le_refl _, m⟩
          · obtain ⟨j, hj, m⟩ := s1 x m
            exact ⟨j, by omega, m⟩
      · rw [if_neg ho] at hp
        obtain ⟨qs, hq, rfl⟩ := Option.map_eq_some_iff.mp hp
        obtain ⟨fp', r1, n1, s1⟩ := parts_ok R' E w r hσ' hq
        have hf := h.free (by simpa using ho)
        subst hf
        refine ⟨[] ++ fp', .cons (h.ext E w fun a m => by cases m) r1, by simpa using n1, fun x m => ?_⟩
        obtain ⟨j, hj, m⟩ := s1 x (by simpa using m)
        exact ⟨j, by omega, m⟩
end
/-- what must be seen of a def: its text, its names, its check -/
structure DefT where
  d : FD
  name : Str
  qual : Str
  params : Arguments
  body : List Stmt
  scope : Scope
  N : List Str
  ps : List Str
def DefT.cc (t : DefT) (G : List (Str × GK)) : CC := ⟨t.N, t.scope, t.scope, G⟩
structure DefOk (t : DefT) (G : List (Str × GK)) (fe fs : Nat) : Prop where
  sc : FnScope t.N t.ps t.scope
  np : t.ps.length = t.d.np
  n : t.N.length = t.d.n
  ck : ck2 fe fs (t.cc G) (.Ss t.body t.d.mb) = true
/-- what the globals say, the program's own defs aside -/
def GOk0 (K : PySem.W.Frag) (mg : Str → Option Value) (ca : Str → Option Addr) (sub : Str → Str → Bool) (flds : Str → List Str) (x : Str) : GK → Prop
  | .no => mg x = none
  | .val v d => ∃ u, mg x = some u ∧ RelV v u ∧ Cst K v d
  | .cls pl => ∃ C, ca x = some C ∧ mg x = some (.ref C) ∧ (pl = true → ExcPl K C ∧ flds x = []) ∧ ∀ k C', ca k = some C' → PySem.W.exmOne K (.ref C') (.ref C) = some (sub k x)
  | .fn _ _ => True
section
variable {P : Program} {w : World} {K : PySem.W.Frag} {mg : Str → Option Value} {base : Heap} {ca : Str → Option Addr}
theorem call_len {G : Prog} {k i : Nat} {t : FD} (h : G.funs[i]? = some t) (as : List Val) : (∀ r a, callM G k i as ≠ .ok r a) ∧ (∀ r a, callM G k i as ≠ .ex r a) ∨ as.length = t.np := by
  cases k with
  | zero => exact .inl ⟨fun _ _ z => (by cases z), fun _ _ z => (by cases z)⟩
  | succ k =>
    by_cases l : as.length = t.np
    · exact .inr l
    · refine .inl ⟨fun r a z => ?_, fun r a z => ?_⟩ <;>
      · unfold callM at z
        rw [h] at z
        dsimp only at z
        rw [if_neg fun q => l q.1] at z
        cases z
/-- THE RULE: all defs, by the depth of calls -/
theorem fn_all {G : Prog} {Gt : List (Str × GK)} {fe fs : Nat} (T : Nat → DefT) (fa : Nat → Addr) (fd : Nat → FuncData) (CK : ClsK K ca G.sub)
    (hT : ∀ i t, G.funs[i]? = some t → (T i).d = t ∧ DefOk (T i) Gt fe fs ∧ FunD K (T i).name (T i).qual (T i).params (T i).body (T i).scope [] [] (fa i) (fd i) ∧ Binds K (fd i) (T i).ps [])
    (hG : ∀ x g, Gt.lookup x = some g → GOk0 K mg ca G.sub G.flds x g) (hF : ∀ x i np, Gt.lookup x = some (.fn i np) → ∃ t, G.funs[i]? = some t ∧ t.np = np ∧ mg x = some (.ref (fa i))) :
    ∀ k i t, G.funs[i]? = some t → FnOk P w K mg base (L2.CX P w) k (fa i) (fd i) (T i).ps (spF K ca t.np (callM G k i))
  | 0, i, t, h => ⟨fun vs H Q E q => by
      obtain ⟨rfl, ok, _⟩ := hT i t h
      rw [q.1, ok.np], fun A outer s H args us vs Q E _ _ _ _ q => by
      obtain ⟨_, vs, F, fp, _, _, _, _, z⟩ := q
      exact z.elim⟩
  | k + 1, i, t, h => by
    have IH := fn_all T fa fd CK hT hG hF k
    obtain ⟨rfl, ok, FD, bd⟩ := hT i t h
    refine FD.ok ok.sc (fun vs H Q E q => by rw [q.1, ok.np]) fun cdv A outer s H us Q E hr q => ?_
    obtain ⟨hl, vs, F, fp, V1, nd, nf, al, q⟩ := q
    have hlen : vs.length = (T i).d.np := by rw [← V1.len]; exact hl
    have hle : (T i).d.np ≤ (T i).d.n := by
      rw [← ok.np, ← ok.n]
      have := congrArg List.length ok.sc.pre
      rw [List.length_take] at this
      omega
    have e1 : callM G (k + 1) i vs = endM vs (exs ⟨callM G k, G.sub, G.flds, vs.map owned⟩ (T i).d.mb (vs.map some ++ List.replicate ((T i).d.n - (T i).d.np) none)) := by
      show (match G.funs[i]? with
        | some fd => if vs.length = fd.np ∧ fd.np ≤ fd.n then endM vs (exs ⟨callM G k, G.sub, G.flds, vs.map owned⟩ fd.mb (vs.map some ++ List.replicate (fd.n - fd.np) none)) else .no
        | none => .no) = _
      rw [h]
      exact if_pos ⟨hlen, hle⟩
    rw [e1] at q
    generalize hc : (⟨callM G k, G.sub, G.flds, vs.map owned⟩ : Ctx) = c at q
    generalize hX : cxOf (L2.CX P w) P w K mg base (T i).N (T i).qual (T i).scope (fa i) cdv A outer s H E = X
    have KX : CxOk ((T i).cc Gt) ca (fun cls d _ H => E cls d H) c X := by
      subst hX hc
      refine ⟨rfl, ok.sc.nd, rfl, fun _ _ => rfl, ok.sc.kind, rfl, ?_, takes_of rfl rfl rfl rfl, fun x g hx => ?_, CK⟩
      · have := hr.un
        show (A.deeper _).units + 100 < cLine
        omega
      · have q := hG x g hx
        cases g with
        | fn j np =>
          obtain ⟨t, ht, rfl, hm⟩ := hF x j np hx
          obtain ⟨_, _, FD', bd'⟩ := hT j t ht
          exact ⟨fa j, fd j, (T j).ps, k, hm, FD'.kp, bd', hr, IH j t ht, call_len ht⟩
        | val _ _ => exact q
        | cls _ => exact q
        | no => exact q
    have YX : CxS X := by
      subst hX
      exact ⟨rfl, rfl, passes_of rfl⟩
    have hK : X.K = K := by subst hX; rfl
    have S2 : PSs X (T i).body (tMs X.K ca (fun cls d _ H => E cls d H) c (T i).d.mb) := ck2_sound fe fs ((T i).cc Gt) _ ok.ck ca _ c X KX YX
    rw [hK] at S2
    refine ⟨_, S2, ?_⟩
    obtain ⟨own, R, ow, far⟩ := Rel.start (N := (T i).N) (m := (T i).d.n - (T i).d.np) V1 nd nf al (by rw [hl, ok.n]; exact hle) (by rw [ok.n, hl])
    refine ⟨_, F, own, R, ?_⟩
    -- the ends
    have hpr : ∀ j : Nat, c.pr[j]? = (vs[j]?).map owned := fun j => by subst hc; exact List.getElem?_map ..
    have sl : ∀ σ', Prz c (L2.start (T i).N us) σ' → ∀ j a u, vs[j]? = some a → us[j]? = some u → owned a = true → σ'[0 + j]? = some (some u) := fun σ' pz j a u h1 h2 h3 => by
      rw [Nat.zero_add, pz j (by rw [hpr, h1]; exact congrArg some h3), start_get, if_pos (List.getElem?_eq_some_iff.mp h2).1, h2]
      rfl
    have wok := R.wok
    have eW : ∀ a, Ow own a ↔ a ∈ fp := ow
    have fin : ∀ {σ' H' F' own' e' ps}, Prz c (L2.start (T i).N us) σ' → Rel K ca σ' H' e' F' own' → Ext H F (Ow own) H' F' (Ow own') → parts e' 0 vs = some ps →
        ∃ fp', VRs K ca H' F' us ps fp' ∧ fp'.Nodup ∧ (∀ a ∈ fp', Ow own' a) ∧ (∀ a ∈ fp', ¬ F' a ∧ (a ∈ fp ∨ H a = none)) ∧ Ext H F (fun a => a ∈ fp) H' F' (fun a => a ∈ fp') := fun {σ' H' F' own' e' ps} pz R' E' hp => by
      obtain ⟨fp', r, n, s⟩ := parts_ok R' E' wok V1 (sl σ' pz) hp
      have s' : ∀ a ∈ fp', Ow own' a := fun a m => let ⟨j, _, z⟩ := s a m; ⟨j, z⟩
      refine ⟨fp', r, n, s', fun a m => ⟨fun f => ?_, (E'.own a (s' a m)).imp (eW a).mp id⟩, E'.widen (fun a z => (eW a).mp z) fun a m => (E'.own a (s' a m)).imp (eW a).mp id⟩
      obtain ⟨j, _, z⟩ := s a m
      exact R'.nf j a z f
    cases hx : exs c (T i).d.mb (vs.map some ++ List.replicate ((T i).d.n - (T i).d.np) none) with
    | no => rw [hx] at q; exact q.elim
    | ex x e' =>
      rw [hx] at q
      have q : (match (match parts e' 0 vs with
        | some ps => CRes.ex x ps
        | none => .no) with
        | .ok r vs' => _
        | .ex x vs' => ∀ cls d H' F' fp', ExR K ca H' F' x cls d → VRs K ca H' F' us vs' fp' → fp'.Nodup → (∀ a ∈ fp', ¬ F' a ∧ (a ∈ fp ∨ H a = none)) → Ext H F (fun a => a ∈ fp) H' F' (fun a => a ∈ fp') → (∀ a, F' a → H' a ≠ none) → E cls d H'
        | .no => False) := q
      cases hp : parts e' 0 vs with
      | none => rw [hp] at q; exact q.elim
      | some ps =>
        rw [hp] at q
        intro cls d σ' H' F' own' pz R' xr E'
        obtain ⟨fp', r, n, s', f', E2⟩ := fin pz R' E' hp
        exact q cls d H' F' fp' xr r n f' E2 R'.al
    | ok fl e' =>
      rw [hx] at q
      intro σ' H' F' own' pz R' E'
      have main : ∀ (r : Val), (match (match parts e' 0 vs with
        | some ps => CRes.ok r ps
        | none => .no) with
        | .ok r vs' => ∀ v H' F' gp fp', VR K ca H' F' v r gp → VRs K ca H' F' us vs' fp' → (gp ++ fp').Nodup → (∀ a ∈ gp ++ fp', ¬ F' a ∧ (a ∈ fp ∨ H a = none)) → Ext H F (fun a => a ∈ fp) H' F' (fun a => a ∈ fp') → (∀ a, F' a → H' a ≠ none) → Q v H'
        | .ex x vs' => False
        | .no => False) → ∀ u gp, VR K ca H' F' u r gp → gp.Nodup → (∀ a ∈ gp, ¬ F' a ∧ ¬ Ow own' a) → (∀ a ∈ gp, Ow own a ∨ H a = none) → Q u H' := fun r q u gp vr ng fg og => by
        cases hp : parts e' 0 vs with
        | none => rw [hp] at q; exact q.elim
        | some ps =>
          rw [hp] at q
          obtain ⟨fp', r, n, s', f', E2⟩ := fin pz R' E' hp
          exact q u H' F' gp fp' vr r (List.nodup_append.mpr ⟨ng, n, fun a m b m' => by rintro rfl; exact (fg a m).2 (s' a m')⟩)
            (fun a m => (List.mem_append.mp m).elim (fun m => ⟨(fg a m).1, (og a m).imp (eW a).mp id⟩) (f' a)) E2 R'.al
      cases fl with
      | nx =>
        refine main (.d .none) ?_ .non [] (.d .non) .nil (fun a m => by cases m) (fun a m => by cases m)
        have q : (match (match parts e' 0 vs with
          | some ps => CRes.ok (.d .none) ps
          | none => .no) with
          | .ok r vs' => ∀ v H' F' gp fp', VR K ca H' F' v r gp → VRs K ca H' F' us vs' fp' → (gp ++ fp').Nodup → (∀ a ∈ gp ++ fp', ¬ F' a ∧ (a ∈ fp ∨ H a = none)) → Ext H F (fun a => a ∈ fp) H' F' (fun a => a ∈ fp') → (∀ a, F' a → H' a ≠ none) → Q v H'
          | .ex x vs' => _
          | .no => False) := q
        cases hp : parts e' 0 vs with
        | none => rw [hp] at q; exact q.elim
        | some ps => rw [hp] at q; exact q
      | bk => exact q.elim
      | ct => exact q.elim
      | ret v =>
        intro u gp vr ng fg og
        refine main v ?_ u gp vr ng fg og
        have q : (match (match parts e' 0 vs with
          | some ps => CRes.ok v ps
          | none => .no) with
          | .ok r vs' => ∀ v H' F' gp fp', VR K ca H' F' v r gp → VRs K ca H' F' us vs' fp' → (gp ++ fp').Nodup → (∀ a ∈ gp ++ fp', ¬ F' a ∧ (a ∈ fp ∨ H a = none)) → Ext H F (fun a => a ∈ fp) H' F' (fun a => a ∈ fp') → (∀ a, F' a → H' a ≠ none) → Q v H'
          | .ex x vs' => _
          | .no => False) := q
        cases hp : parts e' 0 vs with
        | none => rw [hp] at q; exact q.elim
        | some ps => rw [hp] at q; exact q
end
end PM
end

section
set_option Elab.async false
set_option linter.all false
set_option maxRecDepth 100000
set_option maxHeartbeats 4000000
/-! PMEnd: the head's facts by tables; a law's end. -/
namespace PM
open PySem PySem.Spec PyProof.Rows L2
theorem mem_lk {α : Type} {a : Addr} {o : α} : ∀ {l : List (Addr × α)}, l.lookup a = some o → (a, o) ∈ l
  | [], h => by cases h
  | (b, x) :: r, h => by
    rw [List.lookup_cons] at h
    cases q : a == b with
    | true =>
      rw [q] at h
      cases h
      rw [eq_of_beq q]
      exact List.mem_cons_self
    | false =>
      rw [q] at h
      exact List.mem_cons_of_mem _ (mem_lk h)
/-! ### a Hook for any facts -/
def obsM (B : PySem.W.Frag → Bool) (fn : List He.DefD) (K : PySem.W.Frag) : He.AlD := (B K && fn.all fun d => d.ok K, fn.map fun d => He.fnW K d.at_)
def SaysM (B : PySem.W.Frag → Bool) (fn : List He.DefD) (K : PySem.W.Frag) : Prop := obsM B fn K = He.valD fn
def obsMG (n : Nat) (B : PySem.W.Frag → Bool) (fn : List He.DefD) (g : Addr → Option Obj) : He.AlD := obsM B fn (He.frG g (He.asD g n))
def hookM (n : Nat) (B : PySem.W.Frag → Bool) (fn : List He.DefD) : PySem.W.Hook where
  α := He.AlD
  obs := fun s => obsMG n B fn s.heap.get?
  val := fun _ => He.valD fn
  says := fun _ h => ∃ K : PySem.W.Frag, K.In h ∧ SaysM B fn K
  of := fun _ _ e => ⟨_, He.frG_in, e⟩
  keeps := fun _ _ _ ⟨K, hK, c⟩ k => ⟨K, PySem.W.Frag.In.keeps hK k, c⟩
theorem obsMG_eq {n : Nat} {B : PySem.W.Frag → Bool} {fn : List He.DefD} {g : Addr → Option Obj} {s : Shared} (h : ∀ a, g a = s.heap.get? a) : obsMG n B fn g = (hookM n B fn).obs s := by
  have e : g = s.heap.get? := funext h
  rw [e] <;> rfl
theorem SaysM.fact {B : PySem.W.Frag → Bool} {fn : List He.DefD} {K : PySem.W.Frag} (c : SaysM B fn K) : B K = true :=
  (Bool.and_eq_true_iff.mp (show (B K && fn.all fun d => d.ok K) = true from congrArg (fun z : He.AlD => z.1) c)).1
theorem SaysM.def_ {B : PySem.W.Frag → Bool} {fn : List He.DefD} {K : PySem.W.Frag} (c : SaysM B fn K) (i : Nat) {d : He.DefD} (h : fn[i]? = some d) : ∃ fd, FunD K d.name d.qual d.params d.body d.scope (d.dvs K) (d.kws K) (He.fAd K d.at_) fd := by
  have c2 := (Bool.and_eq_true_iff.mp (show (B K && fn.all fun d => d.ok K) = true from congrArg (fun z : He.AlD => z.1) c)).2
  have e : fn.map (fun d => He.fnW K d.at_) = fn.map He.DefD.val := congrArg (fun z : He.AlD => z.2) c
  have e2 : (fn.map fun d => He.fnW K d.at_)[i]? = (fn.map He.DefD.val)[i]? := by rw [e]
  rw [List.getElem?_map, List.getElem?_map, h] at e2
  exact He.DefD.funD (Option.some.inj e2) (List.all_eq_true.mp c2 d (List.mem_of_getElem? h))
/-! ### a law's tables -/
structure LawT where
  defs : List (Str × DefT)
  gi : List (Str × Int)
  gs : List (Str × Str)
  cls : List (Str × Bool)
  subs : List (Str × List Str)
  frees : List Str
def subT (s : List (Str × List Str)) (c x : Str) : Bool := ((s.lookup c).getD []).contains x
def LawT.ca (T : LawT) (K : PySem.W.Frag) : Str → Option Addr := fun c => if (T.cls.any fun p => p.1 == c) = true then some (He.ga K c) else none
def excB (K : PySem.W.Frag) (C : Addr) : Bool := He.eqO (PySem.W.findIn K (.ref C) "__getattribute__") (some (some (.builtin "BaseException.__getattribute__"))) && (He.eqO (PySem.W.findIn K (.ref C) "__getattr__") (some none) &&
  (decide (PySem.W.subIn K (.ref C) (.type "BaseException") = some true) && (PySem.W.hasDictIn K C && (He.eqO (PySem.W.findIn K (.ref C) "__class__") (some (some (.builtin "object.__class__"))) &&
  (He.eqO (PySem.W.specialIn K (.builtin "object.__class__") "__get__") (some (some (.builtin "getset_descriptor.__get__"))) && (decide (PySem.W.takesIn K (.builtin "object.__class__") = some true) && decide (PySem.W.mroIn K C (.type "object") = some true)))))))
def noLists (K : PySem.W.Frag) : Bool := K.all fun p => !(p.2.cls == .type "list")
def LawT.B (T : LawT) (K : PySem.W.Frag) : Bool := noLists K && ((T.defs.all fun p => (He.Fa.glo p.1).ok K) && ((T.gi.all fun p => (He.Fa.int p.1 p.2).ok K) && ((T.gs.all fun p => (He.Fa.str p.1 p.2).ok K) && ((T.frees.all fun x => (He.Fa.free x).ok K) &&
  ((T.cls.all fun p => (He.Fa.glo p.1).ok K && (excB K (He.ga K p.1) && ((!p.2 || (He.Fa.exc p.1).ok K) && ((TN.all fun n => decide (PySem.W.kitOne K (.ref (He.ga K p.1)) (.type n) = some (excBases.contains n))) && (TD.all fun t => decide (PySem.W.kitOne K (.type t) (.ref (He.ga K p.1)) = some false)))))) &&
  (T.cls.all fun p => T.cls.all fun q => decide (PySem.W.kitOne K (.ref (He.ga K p.1)) (.ref (He.ga K q.1)) = some (subT T.subs p.1 q.1)) && decide (PySem.W.exmOne K (.ref (He.ga K p.1)) (.ref (He.ga K q.1)) = some (subT T.subs p.1 q.1))))))))
def fnG : Nat → List (Str × DefT) → List (Str × GK)
  | _, [] => []
  | i, (x, d) :: r => (x, .fn i d.d.np) :: fnG (i + 1) r
def LawT.G (T : LawT) : List (Str × GK) := fnG 0 T.defs ++ (T.gi.map (fun p => (p.1, .val (.int p.2) (.int p.2))) ++ (T.gs.map (fun p => (p.1, .val (.str p.2) (.str p.2))) ++ (T.cls.map (fun p => (p.1, .cls p.2)) ++ T.frees.map fun x => (x, .no))))
def LawT.prog (T : LawT) : Prog := ⟨T.defs.map fun p => p.2.d, subT T.subs, fun _ => []⟩
def defD (x : Str) (t : DefT) : He.DefD := ⟨(x, none), t.name, t.qual, t.params, t.body, t.scope, [], []⟩
def LawT.fn (T : LawT) : List He.DefD := T.defs.map fun p => defD p.1 p.2
theorem fnG_mem {x : Str} {j np : Nat} : ∀ {l : List (Str × DefT)} {i : Nat}, (x, GK.fn j np) ∈ fnG i l → ∃ k t, j = i + k ∧ l[k]? = some (x, t) ∧ t.d.np = np
  | [], i, h => by cases h
  | (y, d) :: r, i, h => by
    rcases List.mem_cons.mp h with e | h
    · cases e
      exact ⟨0, d, rfl, rfl, rfl⟩
    · obtain ⟨k, t, e, hk, hn⟩ := fnG_mem h
      exact ⟨k + 1, t, by omega, by simpa using hk, hn⟩
theorem fnG_fn {x : Str} {g : GK} : ∀ {l : List (Str × DefT)} {i : Nat}, (x, g) ∈ fnG i l → ∃ j np, g = .fn j np
  | [], i, h => by cases h
  | (y, d) :: r, i, h => by
    rcases List.mem_cons.mp h with e | h
    · cases e; exact ⟨_, _, rfl⟩
    · exact fnG_fn h
section
variable {T : LawT} {K : PySem.W.Frag} {h : Heap} {mg : Str → Option Value}
structure BOk (T : LawT) (K : PySem.W.Frag) : Prop where
  nl : noLists K = true
  defs : ∀ p ∈ T.defs, (He.Fa.glo p.1).ok K = true
  gi : ∀ p ∈ T.gi, (He.Fa.int p.1 p.2).ok K = true
  gs : ∀ p ∈ T.gs, (He.Fa.str p.1 p.2).ok K = true
  frees : ∀ x ∈ T.frees, (He.Fa.free x).ok K = true
  glo : ∀ p ∈ T.cls, (He.Fa.glo p.1).ok K = true
  exc : ∀ p ∈ T.cls, ExcC K (He.ga K p.1)
  pl : ∀ p ∈ T.cls, p.2 = true → (He.Fa.exc p.1).ok K = true
  bt : ∀ p ∈ T.cls, ∀ n ∈ TN, PySem.W.kitOne K (.ref (He.ga K p.1)) (.type n) = some (excBases.contains n)
  dt : ∀ p ∈ T.cls, ∀ t ∈ TD, PySem.W.kitOne K (.type t) (.ref (He.ga K p.1)) = some false
  kit : ∀ p ∈ T.cls, ∀ q ∈ T.cls, PySem.W.kitOne K (.ref (He.ga K p.1)) (.ref (He.ga K q.1)) = some (subT T.subs p.1 q.1)
  exm : ∀ p ∈ T.cls, ∀ q ∈ T.cls, PySem.W.exmOne K (.ref (He.ga K p.1)) (.ref (He.ga K q.1)) = some (subT T.subs p.1 q.1)
theorem excB_ok {C : Addr} (h : excB K C = true) : ExcC K C := by
  unfold excB at h
  simp only [Bool.and_eq_true, decide_eq_true_eq] at h
  exact ⟨He.eqO_ok h.1, He.eqO_ok h.2.1, h.2.2.1, h.2.2.2.1, He.eqO_ok h.2.2.2.2.1, He.eqO_ok h.2.2.2.2.2.1, h.2.2.2.2.2.2.1, h.2.2.2.2.2.2.2⟩
theorem B_ok (h : T.B K = true) : BOk T K := by
  unfold LawT.B at h
  simp only [Bool.and_eq_true, List.all_eq_true, decide_eq_true_eq, Bool.or_eq_true, Bool.not_eq_true'] at h
  obtain ⟨h1, h2, h3, h4, h5, h6, h7⟩ := h
  exact ⟨h1, h2, h3, h4, h5, fun p m => (h6 p m).1, fun p m => excB_ok (h6 p m).2.1, fun p m q => ((h6 p m).2.2.1).resolve_left (by rw [q]; exact fun z => nomatch z), fun p m => (h6 p m).2.2.2.1, fun p m => (h6 p m).2.2.2.2, fun p m q n => (h7 p m q n).1, fun p m q n => (h7 p m q n).2⟩
theorem ca_some {c : Str} {C : Addr} (h : T.ca K c = some C) : ∃ p ∈ T.cls, p.1 = c ∧ C = He.ga K p.1 := by
  unfold LawT.ca at h
  split at h
  · rename_i q
    cases h
    obtain ⟨p, hp, e⟩ := List.any_eq_true.mp q
    have e := eq_of_beq e
    exact ⟨p, hp, e, by rw [e]⟩
  · cases h
theorem ca_of {p : Str × Bool} (h : p ∈ T.cls) : T.ca K p.1 = some (He.ga K p.1) := by
  unfold LawT.ca
  rw [if_pos (List.any_eq_true.mpr ⟨p, h, beq_self_eq_true p.1⟩)]
theorem clsK_of (B : BOk T K) : ClsK K (T.ca K) T.prog.sub where
  exc := fun c C h => by
    obtain ⟨p, hp, rfl, rfl⟩ := ca_some h
    exact B.exc p hp
  ecl := fun c C c' C' h h' => by
    obtain ⟨p, hp, rfl, rfl⟩ := ca_some h
    obtain ⟨q, hq, rfl, rfl⟩ := ca_some h'
    exact B.kit p hp q hq
  ebt := fun c C n h hn => by
    obtain ⟨p, hp, rfl, rfl⟩ := ca_some h
    exact B.bt p hp n hn
  dcl := fun t c C ht h => by
    obtain ⟨p, hp, rfl, rfl⟩ := ca_some h
    exact B.dt p hp t ht
theorem gok_of (X : K.In h) (G : h.Ns mainGlobals mg) (B : BOk T K) {x : Str} {g : GK} (hx : T.G.lookup x = some g) : GOk0 K mg (T.ca K) T.prog.sub T.prog.flds x g := by
  have m := PySem.mem_of_lookup hx
  unfold LawT.G at m
  simp only [List.mem_append, List.mem_map] at m
  rcases m with m | ⟨p, hp, e⟩ | ⟨p, hp, e⟩ | ⟨p, hp, e⟩ | ⟨y, hy, e⟩
  · obtain ⟨j, np, rfl⟩ := fnG_fn m
    trivial
  · cases e
    obtain ⟨t, ht⟩ := He.int_ok X G (B.gi p hp)
    exact ⟨_, ht, ⟨t, rfl⟩, fun _ _ => .int _⟩
  · cases e
    obtain ⟨t, ht⟩ := He.str_ok X G (B.gs p hp)
    exact ⟨_, ht, ⟨t, rfl⟩, fun _ _ => .str _⟩
  · cases e
    refine ⟨_, ca_of hp, He.glo_ok X G (B.glo p hp), fun q => ⟨?_, rfl⟩, fun k C' h' => ?_⟩
    · obtain ⟨e1, e2, e3, e4⟩ := He.exc_ok (B.pl p hp q)
      exact ⟨⟨_, _, _, _, PySem.F.excBase_ValueError, e1⟩, e2, e3, e4⟩
    · obtain ⟨q, hq, rfl, rfl⟩ := ca_some h'
      exact B.exm q hq p hp
  · cases e
    exact He.free_ok X G (B.frees _ hy)
end
/-- what is checked of each def -/
structure DefC (T : LawT) (fe fs : Nat) (t : DefT) : Prop where
  ok : DefOk t T.G fe fs
  bind : ∀ (kV doc pm : Value) (an : Option Addr) (cdv ct : Value) (us : List Value), us.length = t.ps.length → bindArgs (PySem.W.fnOf t.name t.qual t.params t.body t.scope .none kV doc pm an cdv ct) ⟨us, []⟩ = pure (t.ps.zip us)
/-- THE END: the law's def, from the run of the machine -/
theorem law_end {l : PySem.W.OpenLaw} {T : LawT} {fe fs n k li : Nat} {q : Program} {loose : List Str} {XP : (Str → Option Value) → Heap → Prop} {YP : World → Heap → Prop} {d : DefRec} {x lx : Str} {lt : DefT}
    (hY : ∀ w h, YP w h → ∃ K : PySem.W.Frag, K.In h ∧ SaysM T.B T.fn K) (hd : d.name = lx) (hC : ∀ p ∈ T.defs, DefC T fe fs p.2) (hl : T.defs[li]? = some (lx, lt)) (hps : lt.ps = [x])
    (hn : l.most = some n) (hn2 : n ≤ sizeLine) (hdf : d.params.defaults = []) (hr : Room k callerA)
    (pure_ : ∀ ns : List Int, ns.length ≤ n → ∃ vs, callM T.prog k li [.d (.list (ns.map .int))] = .ok (.d (.bool true)) vs) :
    PySem.W.WalkO q loose XP YP l.row.toRowW d [] (fun f vs => PySem.call f vs) := by
  refine Att.attach_call hn hdf fun w s₀ s₁ mg mb fa o pm cd doc a vs ns G Y ho hdd hcd hmg hobj hints hlen hg => ?_
  obtain ⟨K, KX, c⟩ := hY w _ Y
  have B := B_ok c.fact
  have Tg := G.T.g
  -- each def's function object
  have fnAt : ∀ (i : Nat) (p : Str × DefT), T.defs[i]? = some p → T.fn[i]? = some (defD p.1 p.2) := fun i p h => by
    unfold LawT.fn
    rw [List.getElem?_map, h]
    rfl
  have hfd : ∀ i : Nat, ∃ fd : FuncData, ∀ p : Str × DefT, T.defs[i]? = some p → FunD K p.2.name p.2.qual p.2.params p.2.body p.2.scope [] [] (He.ga K p.1) fd := fun i => by
    cases h : T.defs[i]? with
    | none => exact ⟨default, fun p z => by cases z⟩
    | some p =>
      obtain ⟨fd, F⟩ := c.def_ i (fnAt i p h)
      exact ⟨fd, fun q z => by cases z; exact F⟩
  obtain ⟨fd, hfd⟩ := Classical.axiomOfChoice hfd
  let TT : Nat → DefT := fun i => ((T.defs[i]?).map (·.2)).getD lt
  let fA : Nat → Addr := fun i => ((T.defs[i]?).map fun p => He.ga K p.1).getD 0
  have all : ∀ base : Heap, K.In base → base.Ns mainGlobals mg → ∀ k i t, T.prog.funs[i]? = some t → FnOk l.prog w K mg base (L2.CX l.prog w) k (fA i) (fd i) (TT i).ps (spF K (T.ca K) t.np (callM T.prog k i)) := fun base hKb hNb => by
    refine fn_all (Gt := T.G) (fe := fe) (fs := fs) TT fA fd (clsK_of B) (fun i t ht => ?_) (fun y g hy => gok_of hKb hNb B hy) (fun y i np hy => ?_)
    · obtain ⟨p, hp, rfl⟩ := Option.map_eq_some_iff.mp (show (T.defs[i]?).map (fun p => p.2.d) = some t by rw [← List.getElem?_map]; exact ht)
      have e1 : TT i = p.2 := by show ((T.defs[i]?).map (·.2)).getD lt = _; rw [hp]; rfl
      have e2 : fA i = He.ga K p.1 := by show ((T.defs[i]?).map fun p => He.ga K p.1).getD 0 = _; rw [hp]; rfl
      have F := hfd i p hp
      have D := hC p (List.mem_of_getElem? hp)
      rw [e1, e2]
      exact ⟨rfl, D.ok, F, F.bindsN D.bind⟩
    · have m := PySem.mem_of_lookup hy
      unfold LawT.G at m
      simp only [List.mem_append, List.mem_map] at m
      rcases m with m | ⟨p, hp, e⟩ | ⟨p, hp, e⟩ | ⟨p, hp, e⟩ | ⟨y, hy, e⟩
      · obtain ⟨k, t, rfl, hk, rfl⟩ := fnG_mem m
        rw [Nat.zero_add]
        refine ⟨t.d, ?_, rfl, ?_⟩
        · show (T.defs.map fun p => p.2.d)[k]? = _
          rw [List.getElem?_map, hk]
          rfl
        · have e2 : fA k = He.ga K y := by show ((T.defs[k]?).map fun p => He.ga K p.1).getD 0 = _; rw [hk]; rfl
          rw [e2]
          exact He.glo_ok hKb hNb (B.defs _ (List.mem_of_getElem? hk))
      · cases e
      · cases e
      · cases e
      · cases e
  have hli : T.prog.funs[li]? = some lt.d := by
    show (T.defs.map fun p => p.2.d)[li]? = _
    rw [List.getElem?_map, hl]
    rfl
  have hfa : fa = fA li := by
    have e2 : fA li = He.ga K lx := by show ((T.defs[li]?).map fun p => He.ga K p.1).getD 0 = _; rw [hl]; rfl
    have := He.glo_ok KX Tg (B.defs _ (List.mem_of_getElem? hl))
    rw [hd] at hmg
    rw [hmg] at this
    cases this
    exact e2.symm
  have hTT : TT li = lt := by show ((T.defs[li]?).map (·.2)).getD lt = _; rw [hl]; rfl
  have hFl := hfd li _ hl
  have hDl := hC _ (List.mem_of_getElem? hl)
  have hnp : lt.d.np = 1 := by rw [← hDl.ok.np]; show lt.ps.length = 1; rw [hps]; rfl
  refine law_call (x := x) (fd := fd li) (sp := spF K (T.ca K) 1 (callM T.prog k li)) (CX := L2.CX l.prog w) KX Tg G.T.b G.T.builtins G.T.nolimit hg hobj hints (Nat.le_trans hlen hn2) hr (fun base hKb hNb => ?_) (fun s u => ?_) (fun H hO hS => ?_) fun H e s' z => ?_
  · have := all base hKb hNb k li lt.d hli
    rw [hTT, hps, hnp] at this
    rw [hfa]
    exact this
  · have b := FunD.bindsA (ps := lt.ps) hFl hDl.bind s [u] (by rw [hps]; rfl)
    rw [hps] at b
    exact b
  · obtain ⟨vs', e⟩ := pure_ ns hlen
    have fz : ∃ o, H a = some (.frz o (.lst (ns.map V.int))) := by
      rcases hS with (h1 | h1) | ⟨o, its, n, h1, h2, _⟩
      · rcases hO a with z | ⟨_, _, z⟩ <;> (rw [h1] at z; cases z)
      · exact h1
      · have q := List.all_eq_true.mp B.nl (a, o) (mem_lk h1)
        rw [h2] at q
        cases q
    refine ⟨rfl, [.d (.list (ns.map .int))], fun _ => False, [], VRs.cons (fp := []) (gp := []) (.d (.lst (.inr fz) (Dens.ofInts ns))) .nil, .nil, (fun a m => by cases m), (fun a z => z.elim), ?_⟩
    rw [e]
    intro v H' F' gp fp' vr _ _ _ _ _
    cases vr with
    | d dd => cases dd; rfl
  · obtain ⟨a, B, H', cls, dd, rfl, _, _, _, _, _, _, q⟩ := z
    exact q.elim
end PM
end

section
set_option Elab.async false
set_option linter.all false
set_option maxRecDepth 100000
set_option maxHeartbeats 1000000
/-! PMPure: rules for running the machine by hand. -/
namespace PM
open PySem
@[simp] theorem Res.bind_ok {α β : Type} (a : α) (e : Env) (f : α → Env → Res β) : (Res.ok a e).bind f = f a e := rfl
@[simp] theorem Res.bind_ex {α β : Type} (x : Ex) (e : Env) (f : α → Env → Res β) : (Res.ex x e : Res α).bind f = .ex x e := rfl
@[simp] theorem Res.bind_no {α β : Type} (f : α → Env → Res β) : (Res.no : Res α).bind f = .no := rfl
theorem Res.bind_congr {α β : Type} {r r' : Res α} {f : α → Env → Res β} (h : r = r') : r.bind f = r'.bind f := by rw [h]
@[simp] theorem noEx_ok {α : Type} (a : α) (e : Env) : noEx (Res.ok a e) = .ok a e := rfl
@[simp] theorem opt_some {α : Type} (a : α) (e : Env) : opt (some a) e = .ok a e := rfl
@[simp] theorem allD_nil : allD [] = some [] := rfl
@[simp] theorem allD_cons (x : D) (vs : List Val) : allD (.d x :: vs) = (allD vs).map (x :: ·) := by
  show (match isD (.d x), allD vs with
    | some x, some xs => some (x :: xs)
    | _, _ => none) = _
  cases allD vs <;> rfl
@[simp] theorem allD_map (ds : List D) : allD (ds.map .d) = some ds := by
  induction ds with
  | nil => rfl
  | cons x r ih => rw [List.map_cons, allD_cons, ih]; rfl
@[simp] theorem frD_d (x : D) : frD (.d x) = some x := rfl
@[simp] theorem frD_ol (vs : List Val) : frD (.ol vs) = (allD vs).map .list := rfl
theorem forL_ok {f : D → Env → Res Flow} {xs : List D} {e : Env} (P : Nat → Env → Prop) (h0 : P 0 e) (step : ∀ i x e, xs[i]? = some x → P i e → ∃ e', f x e = .ok .nx e' ∧ P (i + 1) e') : ∃ e', forL f xs e = .ok .nx e' ∧ P xs.length e' := by
  have key : ∀ (ys : List D) (i : Nat) (e : Env), xs.drop i = ys → P i e → ∃ e', forL f ys e = .ok .nx e' ∧ P (i + ys.length) e' := fun ys => by
    induction ys with
    | nil => intro i e _ p; exact ⟨e, rfl, p⟩
    | cons y ys ih =>
      intro i e hd p
      have hi : xs[i]? = some y := by
        have := congrArg (·[0]?) hd
        simpa using this
      obtain ⟨e1, h1, p1⟩ := step i y e hi p
      have hd' : xs.drop (i + 1) = ys := by
        rw [← List.drop_drop, hd]
        rfl
      obtain ⟨e2, h2, p2⟩ := ih (i + 1) e1 hd' p1
      refine ⟨e2, ?_, by rw [List.length_cons]; rw [show i + (ys.length + 1) = i + 1 + ys.length by omega]; exact p2⟩
      show (f y e).bind _ = _
      rw [h1]
      exact h2
  have := key xs 0 e rfl h0
  rwa [Nat.zero_add] at this
theorem lc_map {f : D → Env → Res (Option D)} {g : D → D} {e : Env} : ∀ {xs acc : List D}, (∀ x ∈ xs, f x e = .ok (some (g x)) e) → acc.length + xs.length ≤ lineN → lcLoop f xs acc e = .ok (acc ++ xs.map g) e
  | [], acc, _, _ => by simp [lcLoop]
  | x :: xs, acc, h, hl => by
    rw [List.length_cons] at hl
    show (f x e).bind _ = _
    rw [h x List.mem_cons_self]
    show (if acc.length < lineN then lcLoop f xs (acc ++ [g x]) e else .no) = _
    rw [if_pos (by omega), lc_map (fun y m => h y (List.mem_cons_of_mem _ m)) (by rw [List.length_append, List.length_singleton]; omega)]
    simp
theorem lc_filter {f : D → Env → Res (Option D)} {g : D → Option D} {e : Env} : ∀ {xs acc : List D}, (∀ x ∈ xs, f x e = .ok (g x) e) → acc.length + xs.length ≤ lineN → lcLoop f xs acc e = .ok (acc ++ xs.filterMap g) e
  | [], acc, _, _ => by simp [lcLoop]
  | x :: xs, acc, h, hl => by
    rw [List.length_cons] at hl
    show (f x e).bind _ = _
    rw [h x List.mem_cons_self]
    cases q : g x with
    | none =>
      show lcLoop f xs acc e = _
      rw [lc_filter (fun y m => h y (List.mem_cons_of_mem _ m)) (by omega), List.filterMap_cons, q]
    | some y =>
      show (if acc.length < lineN then lcLoop f xs (acc ++ [y]) e else .no) = _
      rw [if_pos (by omega), lc_filter (fun y m => h y (List.mem_cons_of_mem _ m)) (by rw [List.length_append, List.length_singleton]; omega), List.filterMap_cons, q]
      simp
theorem ev_lc {c : Ctx} {elt : ME} {t : Tgt} {it : MI} {cs : List ME} {own : List Nat} {e e1 : Env} {xs : List D} {g : D → Option D} (hi : evi c it e = .ok xs e1) (hf : own.all (lcFree c e1) = true) (hs : ∀ x ∈ xs, lcStep c elt t cs own x (wipeE e1 own) = .ok (g x) (wipeE e1 own)) (hl : xs.length ≤ lineN) :
    ev c (.lc elt t it cs own) e = .ok (.ol ((xs.filterMap g).map .d)) (backE e1 (wipeE e1 own) own) := by
  show (evi c it e).bind _ = _
  rw [hi]
  show (if own.all (lcFree c e1) = true then (noEx (lcLoop (lcStep c elt t cs own) xs [] (wipeE e1 own))).bind (fun ys e2 => Res.ok (Val.ol (ys.map .d)) (backE e1 e2 own)) else .no) = _
  rw [if_pos hf, lc_filter hs (by simpa using hl)]
  simp
theorem ev_lc' {c : Ctx} {elt : ME} {t : Tgt} {it : MI} {own : List Nat} {e e1 : Env} {xs : List D} {g : D → D} (hi : evi c it e = .ok xs e1) (hf : own.all (lcFree c e1) = true) (hs : ∀ x ∈ xs, lcStep c elt t [] own x (wipeE e1 own) = .ok (some (g x)) (wipeE e1 own)) (hl : xs.length ≤ lineN) :
    ev c (.lc elt t it [] own) e = .ok (.ol ((xs.map g).map .d)) (backE e1 (wipeE e1 own) own) := by
  have := ev_lc (g := fun x => some (g x)) hi hf hs hl
  rw [this]
  congr 2
  induction xs with
  | nil => rfl
  | cons x r ih => simp
theorem ev_bi1 {c : Ctx} {b : Bi} {a : ME} {v : Val} {e e1 : Env} (h : ev c a e = .ok v e1) : ev c (.bi b [a]) e = match see e1 v with
    | some d => opt (biD b [d]) e1
    | none => .no := by
  show ((ev c a e).bind fun v e1 => (Res.ok [] e1).bind fun vs e2 => Res.ok (v :: vs) e2).bind _ = _
  rw [h]
  show (match sees e1 [v] with
    | some ds => opt (biD b ds) e1
    | none => Res.no) = _
  unfold sees
  cases see e1 v <;> rfl
theorem ex_ret {c : Ctx} {a : ME} {v v' : Val} {e e1 e2 : Env} (h : ev c a e = .ok v e1) (ho : handOut c e1 v = some (v', e2)) : ex c (.ret a) e = .ok (.ret v') e2 := by
  show (ev c a e).bind _ = _
  rw [h]
  show (match handOut c e1 v with
    | some (v', e2) => Res.ok (Flow.ret v') e2
    | none => Res.no) = _
  rw [ho]
theorem ev_or_t {c : Ctx} {a b : ME} {e e1 : Env} (h : ev c a e = .ok (.d (.bool true)) e1) : ev c (.or a b) e = .ok (.d (.bool true)) e1 := by
  show (ev c a e).bind _ = _
  rw [h]
  rfl
theorem ev_or_f {c : Ctx} {a b : ME} {e e1 : Env} (h : ev c a e = .ok (.d (.bool false)) e1) : ev c (.or a b) e = ev c b e1 := by
  show (ev c a e).bind _ = _
  rw [h]
  rfl
theorem ev_and_f {c : Ctx} {a b : ME} {e e1 : Env} (h : ev c a e = .ok (.d (.bool false)) e1) : ev c (.and a b) e = .ok (.d (.bool false)) e1 := by
  show (ev c a e).bind _ = _
  rw [h]
  rfl
theorem ev_and_t {c : Ctx} {a b : ME} {e e1 : Env} (h : ev c a e = .ok (.d (.bool true)) e1) : ev c (.and a b) e = ev c b e1 := by
  show (ev c a e).bind _ = _
  rw [h]
  rfl
theorem ev_not {c : Ctx} {a : ME} {e e1 : Env} {k : Bool} (h : ev c a e = .ok (.d (.bool k)) e1) : ev c (.not a) e = .ok (.d (.bool (!k))) e1 := by
  show (ev c a e).bind _ = _
  rw [h]
  rfl
theorem ex_if {c : Ctx} {t : ME} {a b : List MS} {e e1 : Env} {k : Bool} (h : ev c t e = .ok (.d (.bool k)) e1) : ex c (.ite t a b) e = if k then exs c a e1 else exs c b e1 := by
  show (ev c t e).bind _ = _
  rw [h]
  cases k <;> rfl
theorem ex_set {c : Ctx} {i : Nat} {a : ME} {v : Val} {v' : Val} {e e1 e2 : Env} (h : ev c a e = .ok v e1) (hs : stow e1 v = some (v', e2)) (hp : c.pr[i]? ≠ some true) (hl : i < e2.length) : ex c (.set (.nm i) a) e = .ok .nx (e2.set i (some v')) := by
  show (ev c a e).bind _ = _
  rw [h]
  show (match stow e1 v with
    | some (v', e2) => match asg c (.nm i) v' e2 with
      | some e3 => Res.ok Flow.nx e3
      | none => Res.no
    | none => Res.no) = _
  rw [hs]
  show (match setSl c e2 i v' with
      | some e3 => Res.ok Flow.nx e3
      | none => Res.no) = _
  unfold setSl
  rw [if_neg (fun z => z.elim hp (by omega))]
/-- one statement, then the rest -/
theorem exs_nx {c : Ctx} {a : MS} {r : List MS} {e e1 : Env} (h : ex c a e = .ok .nx e1) : exs c (a :: r) e = exs c r e1 := by
  show (ex c a e).bind _ = _
  rw [h]
  rfl
theorem exs_ret {c : Ctx} {a : MS} {r : List MS} {e e1 : Env} {v : Val} (h : ex c a e = .ok (.ret v) e1) : exs c (a :: r) e = .ok (.ret v) e1 := by
  show (ex c a e).bind _ = _
  rw [h]
  rfl
theorem exs_ex {c : Ctx} {a : MS} {r : List MS} {e e1 : Env} {x : Ex} (h : ex c a e = .ex x e1) : exs c (a :: r) e = .ex x e1 := by
  show (ex c a e).bind _ = _
  rw [h]
  rfl
theorem boolsD_map {α : Type} (f : α → Bool) (xs : List α) : boolsD (xs.map fun x => PyData.bool (f x)) = some (xs.map f) := by
  induction xs with
  | nil => rfl
  | cons x r ih => simp [boolsD, ih]
theorem lineN_eq : lineN = 16777216 := by unfold lineN; exact PySem.sizeLine_eq
end PM
end

section
set_option Elab.async false
set_option linter.all false
set_option maxRecDepth 100000
set_option maxHeartbeats 0
/-! The machine's text of a law's defs, checked against the row (printed by gen.py). -/
namespace Lk01
open PySem PySem.Spec PyProof.Rows L2 PM
def top (i : Nat) : Stmt := PySem.Challenge.pw_readyhall_k01_names.main.body.getD i (.Pass ⟨0, 0, 0, 0⟩)
def mb_is_name : List MS := [
  .ite (.or (.not (.isi (.v 0) [.bt "str"])) (.not (.chain .LtE .LtE (.c (.int 1)) (.bi .len [(.v 0)]) (.c (.int 6))))) [
    .ret (.c (.bool false))] [],
  .ret (.bi .all [(.lc (.cmp .In (.v 1) (.c (.str "abcdefghijklmnopqrstuvwxyz"))) (.nm 1) (.seq (.v 0)) [] [1])])]
def d_is_name : DefT := ⟨⟨"is_name", 1, 2, mb_is_name⟩, "is_name", "is_name", defArgs (top 23), defBody (top 23), defScope (top 23), ["thing", "sign"], ["thing"]⟩
def mb_is_names : List MS := [
  .ite (.or (.not (.isi (.v 0) [.bt "tuple"])) (.or (.cmp .Gt (.bi .len [(.v 0)]) (.c (.int 8))) (.not (.bi .all [(.lc (.call 0 [(.v 1)]) (.nm 1) (.seq (.v 0)) [] [1])])))) [
    .ret (.c (.bool false))] [],
  .ret (.cmp .Eq (.bi .lenset [(.v 0)]) (.bi .len [(.v 0)]))]
def d_is_names : DefT := ⟨⟨"is_names", 1, 2, mb_is_names⟩, "is_names", "is_names", defArgs (top 24), defBody (top 24), defScope (top 24), ["thing", "name"], ["thing"]⟩
def mb_need_name : List MS := [
  .ite (.not (.call 0 [(.v 0)])) [
    .raise "BadName" [(.c (.str "one to six small letters are wanted"))]] []]
def d_need_name : DefT := ⟨⟨"need_name", 1, 1, mb_need_name⟩, "need_name", "need_name", defArgs (top 25), defBody (top 25), defScope (top 25), ["thing"], ["thing"]⟩
def mb_need_names : List MS := [
  .ite (.not (.call 1 [(.v 0)])) [
    .raise "BadNames" [(.c (.str "a tuple of at most eight unlike names is wanted"))]] []]
def d_need_names : DefT := ⟨⟨"need_names", 1, 1, mb_need_names⟩, "need_names", "need_names", defArgs (top 26), defBody (top 26), defScope (top 26), ["thing"], ["thing"]⟩
def mb__law_mixed : List MS := [
  .set (.nm 0) (.bin .Mod (.bin .Mult (.bin .Add (.bin .Add (.bin .Mod (.v 0) (.c (.int 2147483647))) (.bin .Mult (.bin .Mult (.c (.int 7919)) (.v 1)) (.v 1))) (.bin .Mult (.c (.int 31)) (.v 1))) (.c (.int 48271))) (.c (.int 2147483647))),
  .ret (.bin .Mod (.bin .Mult (.v 0) (.bin .Add (.c (.int 69621)) (.bin .Mult (.c (.int 2)) (.v 1)))) (.c (.int 2147483629)))]
def d__law_mixed : DefT := ⟨⟨"_law_mixed", 2, 2, mb__law_mixed⟩, "_law_mixed", "_law_mixed", defArgs (top 28), defBody (top 28), defScope (top 28), ["_law_number", "_law_k"], ["_law_number", "_law_k"]⟩
def mb__law_stream : List MS := [
  .ret (.lst [(.cmp .GtE (.v 0) (.bin .Pow (.c (.int 10)) (.c (.int 18)))), (.v 0), (.c (.int 0)), (.call 4 [(.v 0), (.v 1)])])]
def d__law_stream : DefT := ⟨⟨"_law_stream", 2, 2, mb__law_stream⟩, "_law_stream", "_law_stream", defArgs (top 29), defBody (top 29), defScope (top 29), ["_law_cell", "_law_k"], ["_law_cell", "_law_k"]⟩
def mb__law_take : List MS := [
  .setix 0 (.c (.int 2)) (.bin .Add (.idx (.v 0) (.c (.int 2))) (.c (.int 1))),
  .ite (.or (.not (.idx (.v 0) (.c (.int 0)))) (.or (.cmp .In (.idx (.v 0) (.c (.int 1))) (.tup [(.c (.int 0)), (.neg (.c (.int 1)))])) (.cmp .Gt (.idx (.v 0) (.c (.int 2))) (.c (.int 60))))) [
    .ret (.bin .Mod (.call 4 [(.call 4 [(.idx (.v 0) (.c (.int 3))), (.idx (.v 0) (.c (.int 2)))]), (.c (.int 7))]) (.v 1))] [],
  .set (.nm 2) (.bin .Mod (.idx (.v 0) (.c (.int 1))) (.v 1)),
  .setix 0 (.c (.int 1)) (.bin .FloorDiv (.idx (.v 0) (.c (.int 1))) (.v 1)),
  .ret (.v 2)]
def d__law_take : DefT := ⟨⟨"_law_take", 2, 3, mb__law_take⟩, "_law_take", "_law_take", defArgs (top 30), defBody (top 30), defScope (top 30), ["_law_stream_here", "_law_many", "_law_number"], ["_law_stream_here", "_law_many"]⟩
def mb__law_names_by : List MS := [
  .set (.nm 2) (.c (.str "abcdefghijklmnopqrstuvwxyz")),
  .par [3, 4] [(.call 6 [(.v 0), (.c (.int 26))]), (.idx (.lst [(.c (.int 1)), (.c (.int 3)), (.c (.int 5)), (.c (.int 7)), (.c (.int 9)), (.c (.int 11)), (.c (.int 15)), (.c (.int 17))]) (.call 6 [(.v 0), (.c (.int 8))]))],
  .set (.nm 5) (.lst []),
  .for_ (.nm 6) (.rng1 (.v 1)) [
    .set (.nm 7) (.idx (.v 2) (.bin .Mod (.bin .Add (.v 3) (.bin .Mult (.v 4) (.v 6))) (.c (.int 26)))),
    .for_ (.nm 8) (.rng1 (.call 6 [(.v 0), (.c (.int 6))])) [
      .set (.nm 7) (.bin .Add (.v 7) (.idx (.v 2) (.call 6 [(.v 0), (.c (.int 26))])))],
    .ite (.and (.cmp .NotEq (.v 5) (.lst [])) (.and (.cmp .Lt (.bi .len [(.idx (.v 5) (.neg (.c (.int 1))))]) (.c (.int 6))) (.cmp .Eq (.call 6 [(.v 0), (.c (.int 4))]) (.c (.int 1))))) [
      .set (.nm 7) (.bin .Add (.idx (.v 5) (.neg (.c (.int 1)))) (.idx (.v 2) (.call 6 [(.v 0), (.c (.int 26))])))] [],
    .expr (.mu .append 5 [(.v 7)])],
  .ret (.v 5)]
def d__law_names_by : DefT := ⟨⟨"_law_names_by", 2, 9, mb__law_names_by⟩, "_law_names_by", "_law_names_by", defArgs (top 31), defBody (top 31), defScope (top 31), ["_law_stream_here", "_law_many", "_law_letters", "_law_start", "_law_step", "_law_found", "_law_k", "_law_name", "_law_turn"], ["_law_stream_here", "_law_many"]⟩
def mb__law_word : List MS := [
  .set (.nm 1) (.lst [(.tup [(.c (.str "name")), (.isi (.v 0) [.cl "BadName"])]), (.tup [(.c (.str "names")), (.isi (.v 0) [.cl "BadNames"])])]),
  .set (.nm 1) (.bin .Add (.v 1) (.lst [(.tup [(.c (.str "saying")), (.isi (.v 0) [.cl "BadSaying"])]), (.tup [(.c (.str "setting")), (.isi (.v 0) [.cl "BadSetting"])])])),
  .set (.nm 1) (.bin .Add (.v 1) (.lst [(.tup [(.c (.str "number")), (.isi (.v 0) [.cl "BadNumber"])]), (.tup [(.c (.str "great")), (.isi (.v 0) [.cl "TooGreat"])])])),
  .expr (.mu .append 1 [(.tup [(.c (.str "other")), (.isi (.v 0) [.cl "BadLine", .cl "BadOrder", .cl "BadPaper", .cl "BadText", .cl "BadWeb", .cl "BadWeights", .cl "NoSetting"])])]),
  .expr (.mu .append 1 [(.tup [(.c (.str "more")), (.isi (.v 0) [.cl "BadAsked", .cl "Full", .cl "NoSaying", .cl "Twice"])])]),
  .set (.nm 2) (.lc (.v 3) (.tup [(.nm 3), (.nm 4)]) (.seq (.v 1)) [(.v 4)] [3, 4]),
  .ret (.ite (.and (.cmp .Eq (.bi .len [(.v 2)]) (.c (.int 1))) (.isi (.v 0) [.bt "ValueError"])) (.idx (.v 2) (.c (.int 0))) (.c (.str "many")))]
def d__law_word : DefT := ⟨⟨"_law_word", 1, 5, mb__law_word⟩, "_law_word", "_law_word", defArgs (top 32), defBody (top 32), defScope (top 32), ["_law_error", "_law_menu", "_law_found", "_law_word_here", "_law_fits"], ["_law_error"]⟩
def mb__law_said : List MS := [
  .set (.nm 2) (.c .none),
  .set (.nm 3) (.c .none),
  .tryset [
    .set (.nm 3) (.ite (.cmp .Eq (.v 0) (.c (.int 0))) (.call 2 [(.v 1)]) (.call 3 [(.v 1)]))] "ReadyError" 4 2,
  .ite (.isN true (.v 2)) [
    .ret (.call 8 [(.v 2)])] [],
  .ret (.ite (.isN false (.v 3)) (.c (.str "good")) (.c (.str "told")))]
def d__law_said : DefT := ⟨⟨"_law_said", 2, 5, mb__law_said⟩, "_law_said", "_law_said", defArgs (top 33), defBody (top 33), defScope (top 33), ["_law_which", "_law_thing", "_law_caught", "_law_found", "_law_error"], ["_law_which", "_law_thing"]⟩
def mb__law_odd_name : List MS := [
  .set (.nm 2) (.call 6 [(.v 0), (.bi .len [(.v 1)])]),
  .set (.nm 3) (.idx (.lst [(.c (.str "A")), (.c (.str "Z")), (.c (.str "0")), (.c (.str "_")), (.c (.str " ")), (.c (.str "\n")), (.c (.str "-")), (.c (.str "{")), (.c (.str "`")), (.c (.str "~"))]) (.call 6 [(.v 0), (.c (.int 10))])),
  .set (.nm 4) (.lst [(.bin .Add (.bin .Add (.sli (.v 1) none (some (.v 2))) (.v 3)) (.sli (.v 1) (some (.bin .Add (.v 2) (.c (.int 1)))) none)), (.bin .Add (.bin .Add (.sli (.v 1) none (some (.v 2))) (.v 3)) (.sli (.v 1) (some (.v 2)) none)), (.sli (.bin .Add (.v 1) (.c (.str "abcdef"))) none (some (.c (.int 7)))), (.c (.str "")), (.c .none), (.c (.int 5)), (.c (.bool true))]),
  .set (.nm 4) (.bin .Add (.v 4) (.lst [(.lst [(.v 1)]), (.tup [(.v 1)]), (.bin .Mult (.v 1) (.c (.int 5000))), (.dic [(.v 1), (.c (.int 1))]), (.bin .Add (.v 1) (.c (.str "\n")))])),
  .ret (.ite (.or (.cmp .Lt (.bi .len [(.v 1)]) (.c (.int 6))) (.cmp .Eq (.call 6 [(.v 0), (.c (.int 2))]) (.c (.int 0)))) (.idx (.v 4) (.call 6 [(.v 0), (.c (.int 12))])) (.bin .Add (.v 1) (.c (.str "z"))))]
def d__law_odd_name : DefT := ⟨⟨"_law_odd_name", 2, 5, mb__law_odd_name⟩, "_law_odd_name", "_law_odd_name", defArgs (top 34), defBody (top 34), defScope (top 34), ["_law_stream_here", "_law_name", "_law_at", "_law_sign", "_law_menu"], ["_law_stream_here", "_law_name"]⟩
def mb__law_odd_names : List MS := [
  .set (.nm 3) (.call 6 [(.v 0), (.bin .Add (.bi .len [(.v 1)]) (.c (.int 1)))]),
  .set (.nm 4) (.lst [(.bin .Add (.bin .Add (.sli (.v 1) none (some (.v 3))) (.tup [(.v 2)])) (.sli (.v 1) (some (.v 3)) none)), (.bin .Add (.bin .Add (.sli (.v 1) none (some (.v 3))) (.tup [(.v 2)])) (.sli (.v 1) (some (.bin .Add (.v 3) (.c (.int 1)))) none)), (.bi .list [(.v 1)]), (.c .none), (.c (.str "ab")), (.dic []), (.c (.int 5))]),
  .ite (.cmp .NotEq (.v 1) (.tup [])) [
    .expr (.mu .append 4 [(.bin .Add (.bin .Add (.sli (.v 1) none (some (.v 3))) (.tup [(.idx (.v 1) (.call 6 [(.v 0), (.bi .len [(.v 1)])]))])) (.sli (.v 1) (some (.v 3)) none))]),
    .expr (.mu .append 4 [(.mt .join (.c (.str " ")) [(.v 1)])])] [],
  .ret (.idx (.v 4) (.call 6 [(.v 0), (.bi .len [(.v 4)])]))]
def d__law_odd_names : DefT := ⟨⟨"_law_odd_names", 3, 5, mb__law_odd_names⟩, "_law_odd_names", "_law_odd_names", defArgs (top 35), defBody (top 35), defScope (top 35), ["_law_stream_here", "_law_names", "_law_odd", "_law_at", "_law_menu"], ["_law_stream_here", "_law_names", "_law_odd"]⟩
def mb_law : List MS := [
  .for_ (.tup [(.nm 1), (.nm 2)]) (.enum (.sli (.bin .Add (.v 0) (.lst [(.c (.int 0))])) none (some (.c (.int 63))))) [
    .set (.nm 3) (.call 5 [(.v 2), (.v 1)]),
    .set (.nm 4) (.bi .tuple [(.call 7 [(.v 3), (.call 6 [(.v 3), (.c (.int 9))])])]),
    .for_ (.nm 5) (.seq (.v 4)) [
      .ite (.or (.isB true (.call 0 [(.v 5)]) true) (.cmp .NotEq (.call 9 [(.c (.int 0)), (.v 5)]) (.c (.str "good")))) [
        .ret (.c (.bool false))] []],
    .set (.nm 6) (.call 10 [(.v 3), (.idx (.bin .Add (.v 4) (.tup [(.c (.str "q"))])) (.c (.int 0)))]),
    .for_ (.nm 7) (.rng1 (.c (.int 2))) [
      .ite (.or (.isB true (.call 1 [(.v 4)]) true) (.cmp .NotEq (.call 9 [(.c (.int 1)), (.v 4)]) (.c (.str "good")))) [
        .ret (.c (.bool false))] [],
      .ite (.or (.isB true (.call 0 [(.v 6)]) false) (.cmp .NotEq (.call 9 [(.c (.int 0)), (.v 6)]) (.c (.str "name")))) [
        .ret (.c (.bool false))] []],
    .set (.nm 8) (.bi .tuple [(.call 7 [(.v 3), (.c (.int 9))])]),
    .for_ (.nm 9) (.seq (.tup [(.call 11 [(.v 3), (.v 4), (.v 6)]), (.v 8)])) [
      .ite (.or (.isB true (.call 1 [(.v 9)]) false) (.cmp .NotEq (.call 9 [(.c (.int 1)), (.v 9)]) (.c (.str "names")))) [
        .ret (.c (.bool false))] []],
    .ite (.or (.isB true (.call 1 [(.sli (.v 8) none (some (.c (.int 8))))]) true) (.isB true (.call 0 [(.v 4)]) false)) [
      .ret (.c (.bool false))] []],
  .ret (.c (.bool true))]
def d_law : DefT := ⟨⟨"law", 1, 10, mb_law⟩, "law", "law", defArgs (top 36), defBody (top 36), defScope (top 36), ["_law_script", "_law_k", "_law_cell", "_law_stream_here", "_law_names", "_law_name", "_law_odd", "_law_turn", "_law_many", "_law_thing"], ["_law_script"]⟩
def defs0 : List (Str × DefT) := [("is_name", d_is_name), ("is_names", d_is_names), ("need_name", d_need_name), ("need_names", d_need_names), ("_law_mixed", d__law_mixed), ("_law_stream", d__law_stream), ("_law_take", d__law_take), ("_law_names_by", d__law_names_by), ("_law_word", d__law_word), ("_law_said", d__law_said), ("_law_odd_name", d__law_odd_name), ("_law_odd_names", d__law_odd_names), ("law", d_law)]
def defs : List (Str × DefT) := defs0
def cls0 : List (Str × Bool) := [("ReadyError", true), ("BadName", true), ("BadNames", true), ("BadSaying", true), ("BadSetting", true), ("BadNumber", true), ("BadWeights", true), ("BadOrder", true), ("BadLine", true), ("NoSetting", true), ("TooGreat", true), ("NoSaying", true), ("Twice", true), ("Full", true), ("BadAsked", true), ("BadText", false), ("BadWeb", false), ("BadPaper", false)]
def cls : List (Str × Bool) := cls0
def subs0 : List (Str × List Str) := [("ReadyError", ["ReadyError"]), ("BadName", ["BadName", "ReadyError"]), ("BadNames", ["BadNames", "ReadyError"]), ("BadSaying", ["BadSaying", "ReadyError"]), ("BadSetting", ["BadSetting", "ReadyError"]), ("BadNumber", ["BadNumber", "ReadyError"]), ("BadWeights", ["BadWeights", "ReadyError"]), ("BadOrder", ["BadOrder", "ReadyError"]), ("BadLine", ["BadLine", "ReadyError"]), ("NoSetting", ["NoSetting", "ReadyError"]), ("TooGreat", ["TooGreat", "ReadyError"]), ("NoSaying", ["NoSaying", "ReadyError"]), ("Twice", ["Twice", "ReadyError"]), ("Full", ["Full", "ReadyError"]), ("BadAsked", ["BadAsked", "ReadyError"]), ("BadText", ["BadText", "ReadyError"]), ("BadWeb", ["BadWeb", "ReadyError"]), ("BadPaper", ["BadPaper", "ReadyError"])]
def subs : List (Str × List Str) := subs0
def gi0 : List (Str × Int) := [("LONGEST", 6), ("MOST_NAMES", 8)]
def gi : List (Str × Int) := gi0
def gs0 : List (Str × Str) := [("LETTERS", "abcdefghijklmnopqrstuvwxyz")]
def gs : List (Str × Str) := gs0
def frees0 : List Str := ["ValueError", "all", "enumerate", "isinstance", "len", "list", "range", "set", "str", "tuple"]
def frees : List Str := frees0
def T : LawT := ⟨defs, gi, gs, cls, subs, frees⟩
theorem ok_is_name : DefC T 60 60 d_is_name where
  ok := ⟨⟨by kernel_rfl, by kernel_rfl, by kernel_rfl, by decide +kernel, by kernel_rfl, by decide +kernel, by decide +kernel⟩, rfl, rfl, by kernel_rfl⟩
  bind := fun _ _ _ _ _ _ us hl => match us, hl with | [_], _ => by kernel_rfl
theorem ok_is_names : DefC T 60 60 d_is_names where
  ok := ⟨⟨by kernel_rfl, by kernel_rfl, by kernel_rfl, by decide +kernel, by kernel_rfl, by decide +kernel, by decide +kernel⟩, rfl, rfl, by kernel_rfl⟩
  bind := fun _ _ _ _ _ _ us hl => match us, hl with | [_], _ => by kernel_rfl
theorem ok_need_name : DefC T 60 60 d_need_name where
  ok := ⟨⟨by kernel_rfl, by kernel_rfl, by kernel_rfl, by decide +kernel, by kernel_rfl, by decide +kernel, by decide +kernel⟩, rfl, rfl, by kernel_rfl⟩
  bind := fun _ _ _ _ _ _ us hl => match us, hl with | [_], _ => by kernel_rfl
theorem ok_need_names : DefC T 60 60 d_need_names where
  ok := ⟨⟨by kernel_rfl, by kernel_rfl, by kernel_rfl, by decide +kernel, by kernel_rfl, by decide +kernel, by decide +kernel⟩, rfl, rfl, by kernel_rfl⟩
  bind := fun _ _ _ _ _ _ us hl => match us, hl with | [_], _ => by kernel_rfl
theorem ok__law_mixed : DefC T 60 60 d__law_mixed where
  ok := ⟨⟨by kernel_rfl, by kernel_rfl, by kernel_rfl, by decide +kernel, by kernel_rfl, by decide +kernel, by decide +kernel⟩, rfl, rfl, by kernel_rfl⟩
  bind := fun _ _ _ _ _ _ us hl => match us, hl with | [_, _], _ => by kernel_rfl
theorem ok__law_stream : DefC T 60 60 d__law_stream where
  ok := ⟨⟨by kernel_rfl, by kernel_rfl, by kernel_rfl, by decide +kernel, by kernel_rfl, by decide +kernel, by decide +kernel⟩, rfl, rfl, by kernel_rfl⟩
  bind := fun _ _ _ _ _ _ us hl => match us, hl with | [_, _], _ => by kernel_rfl
theorem ok__law_take : DefC T 60 60 d__law_take where
  ok := ⟨⟨by kernel_rfl, by kernel_rfl, by kernel_rfl, by decide +kernel, by kernel_rfl, by decide +kernel, by decide +kernel⟩, rfl, rfl, by kernel_rfl⟩
  bind := fun _ _ _ _ _ _ us hl => match us, hl with | [_, _], _ => by kernel_rfl
theorem ok__law_names_by : DefC T 60 60 d__law_names_by where
  ok := ⟨⟨by kernel_rfl, by kernel_rfl, by kernel_rfl, by decide +kernel, by kernel_rfl, by decide +kernel, by decide +kernel⟩, rfl, rfl, by kernel_rfl⟩
  bind := fun _ _ _ _ _ _ us hl => match us, hl with | [_, _], _ => by kernel_rfl
theorem ok__law_word : DefC T 60 60 d__law_word where
  ok := ⟨⟨by kernel_rfl, by kernel_rfl, by kernel_rfl, by decide +kernel, by kernel_rfl, by decide +kernel, by decide +kernel⟩, rfl, rfl, by kernel_rfl⟩
  bind := fun _ _ _ _ _ _ us hl => match us, hl with | [_], _ => by kernel_rfl
theorem ok__law_said : DefC T 60 60 d__law_said where
  ok := ⟨⟨by kernel_rfl, by kernel_rfl, by kernel_rfl, by decide +kernel, by kernel_rfl, by decide +kernel, by decide +kernel⟩, rfl, rfl, by kernel_rfl⟩
  bind := fun _ _ _ _ _ _ us hl => match us, hl with | [_, _], _ => by kernel_rfl
theorem ok__law_odd_name : DefC T 60 60 d__law_odd_name where
  ok := ⟨⟨by kernel_rfl, by kernel_rfl, by kernel_rfl, by decide +kernel, by kernel_rfl, by decide +kernel, by decide +kernel⟩, rfl, rfl, by kernel_rfl⟩
  bind := fun _ _ _ _ _ _ us hl => match us, hl with | [_, _], _ => by kernel_rfl
theorem ok__law_odd_names : DefC T 60 60 d__law_odd_names where
  ok := ⟨⟨by kernel_rfl, by kernel_rfl, by kernel_rfl, by decide +kernel, by kernel_rfl, by decide +kernel, by decide +kernel⟩, rfl, rfl, by kernel_rfl⟩
  bind := fun _ _ _ _ _ _ us hl => match us, hl with | [_, _, _], _ => by kernel_rfl
theorem ok_law : DefC T 60 60 d_law where
  ok := ⟨⟨by kernel_rfl, by kernel_rfl, by kernel_rfl, by decide +kernel, by kernel_rfl, by decide +kernel, by decide +kernel⟩, rfl, rfl, by kernel_rfl⟩
  bind := fun _ _ _ _ _ _ us hl => match us, hl with | [_], _ => by kernel_rfl
theorem ok_all : ∀ p ∈ T.defs, DefC T 60 60 p.2 := by
  intro p h
  simp only [T, defs, defs0, List.mem_append, List.mem_cons, List.not_mem_nil, or_false] at h
  rcases h with (rfl | rfl | rfl | rfl | rfl | rfl | rfl | rfl | rfl | rfl | rfl | rfl | rfl)
  all_goals first
    | exact ok_is_name
    | exact ok_is_names
    | exact ok_need_name
    | exact ok_need_names
    | exact ok__law_mixed
    | exact ok__law_stream
    | exact ok__law_take
    | exact ok__law_names_by
    | exact ok__law_word
    | exact ok__law_said
    | exact ok__law_odd_name
    | exact ok__law_odd_names
    | exact ok_law
def names0 : List Str := ["ReadyError", "BadName", "BadNames", "BadSaying", "BadSetting", "BadNumber", "BadWeights", "BadOrder", "BadLine", "NoSetting", "TooGreat", "NoSaying", "Twice", "Full", "BadAsked", "BadText", "BadWeb", "BadPaper", "LETTERS", "LONGEST", "MOST_NAMES", "is_name", "is_names", "need_name", "need_names", "_law_mixed", "_law_stream", "_law_take", "_law_names_by", "_law_word"]
def names1 : List Str := ["_law_said", "_law_odd_name", "_law_odd_names"]
def names : List Str := names0 ++ names1
abbrev R : PySem.W.OpenRow := PySem.W.OpenLaw.row PySem.Challenge.rw_readyhall_k01_names
abbrev hk : PySem.W.Hook := hookM 4 T.B T.fn
def ob (s : PySem.W.SharedT) : He.AlD := obsMG 4 T.B T.fn (HandSHeadRun.getT s)
theorem ob_eq (s : PySem.W.SharedT) : ob s = hk.obs s.abs := obsMG_eq (HandSHeadRun.getT_eq s)
theorem run (w : World) : HandSHeadRun.RunEq R (PySem.W.view R.prog [36]) hk ob 6000 names w := by
  intro os
  kernel_rfl
end Lk01
end

section
set_option Elab.async false
set_option linter.all false
set_option maxRecDepth 100000
set_option maxHeartbeats 2000000
namespace Lk01
open PySem PM
abbrev cx (k : Nat) (pr : List Bool) : PM.Ctx := ⟨callM T.prog k, T.prog.sub, T.prog.flds, pr⟩
theorem go1 {k i : Nat} {fd : FD} {a : Val} (h : T.prog.funs[i]? = some fd) (hn : fd.np = 1 ∧ 1 ≤ fd.n) : callM T.prog (k + 1) i [a] = endM [a] (exs (cx k [owned a]) fd.mb (some a :: List.replicate (fd.n - 1) none)) := by
  show (match T.prog.funs[i]? with
    | some fd => if [a].length = fd.np ∧ fd.np ≤ fd.n then endM [a] (exs ⟨callM T.prog k, T.prog.sub, T.prog.flds, [a].map owned⟩ fd.mb ([a].map some ++ List.replicate (fd.n - fd.np) none)) else .no
    | none => .no) = _
  rw [h]
  dsimp only
  rw [hn.1, if_pos ⟨rfl, hn.2⟩]
  rfl
theorem go2 {k i : Nat} {fd : FD} {a b : Val} (h : T.prog.funs[i]? = some fd) (hn : fd.np = 2 ∧ 2 ≤ fd.n) : callM T.prog (k + 1) i [a, b] = endM [a, b] (exs (cx k [owned a, owned b]) fd.mb (some a :: some b :: List.replicate (fd.n - 2) none)) := by
  show (match T.prog.funs[i]? with
    | some fd => if [a, b].length = fd.np ∧ fd.np ≤ fd.n then endM [a, b] (exs ⟨callM T.prog k, T.prog.sub, T.prog.flds, [a, b].map owned⟩ fd.mb ([a, b].map some ++ List.replicate (fd.n - fd.np) none)) else .no
    | none => .no) = _
  rw [h]
  dsimp only
  rw [hn.1, if_pos ⟨rfl, hn.2⟩]
  rfl
theorem go3 {k i : Nat} {fd : FD} {a b c : Val} (h : T.prog.funs[i]? = some fd) (hn : fd.np = 3 ∧ 3 ≤ fd.n) : callM T.prog (k + 1) i [a, b, c] = endM [a, b, c] (exs (cx k [owned a, owned b, owned c]) fd.mb (some a :: some b :: some c :: List.replicate (fd.n - 3) none)) := by
  show (match T.prog.funs[i]? with
    | some fd => if [a, b, c].length = fd.np ∧ fd.np ≤ fd.n then endM [a, b, c] (exs ⟨callM T.prog k, T.prog.sub, T.prog.flds, [a, b, c].map owned⟩ fd.mb ([a, b, c].map some ++ List.replicate (fd.n - fd.np) none)) else .no
    | none => .no) = _
  rw [h]
  dsimp only
  rw [hn.1, if_pos ⟨rfl, hn.2⟩]
  rfl
/-! ### _law_mixed -/
def mixed (n k : Int) : Int := ((n % 2147483647 + 7919 * k * k + 31 * k) * 48271 % 2147483647) * (69621 + 2 * k) % 2147483629
theorem call_mixed (k : Nat) (n j : Int) (h0 : 0 ≤ j) (h1 : j ≤ 100000) : callM T.prog (k + 1) 4 [.d (.int n), .d (.int j)] = .ok (.d (.int (mixed n j))) [.d (.int n), .d (.int j)] := by
  rw [go2 (fd := d__law_mixed.d) rfl ⟨rfl, by decide⟩]
  have h2 : okMul 7919 j = true := by simp [PM.exs, PM.ex, PM.ev, PM.evs, PM.lcStep, PM.evo, PM.evt, PM.evi, PM.getS, PM.see, PM.sees, PM.frD, PM.binD, PM.cmpD, PM.stow, PM.stowAll, PM.asg, PM.asgs, PM.setSl, PM.setAll, PM.handOut, PM.endM, PM.parts, PM.owned, PM.isD, PM.runCall, PM.pks, PM.lend, PM.back, PM.take, PM.takes, PM.walkV, PM.walkL, PM.muV, PM.mtD, PM.biD, PM.setIx, PM.isOl, PM.isiV, PM.tyD, PM.isiD, PM.nonV, PM.truV, PM.truD, PM.partD, PM.items, PM.isiD, PM.lcFree, PM.wipeE, PM.backE, PM.intsD, PM.strsD, PM.boolsD, PM.keyD, PM.dKey, PM.enumV, PM.zipV, PM.rangeV, okMul]
  have h3 : okMul (7919 * j) j = true := by simp [PM.exs, PM.ex, PM.ev, PM.evs, PM.lcStep, PM.evo, PM.evt, PM.evi, PM.getS, PM.see, PM.sees, PM.frD, PM.binD, PM.cmpD, PM.stow, PM.stowAll, PM.asg, PM.asgs, PM.setSl, PM.setAll, PM.handOut, PM.endM, PM.parts, PM.owned, PM.isD, PM.runCall, PM.pks, PM.lend, PM.back, PM.take, PM.takes, PM.walkV, PM.walkL, PM.muV, PM.mtD, PM.biD, PM.setIx, PM.isOl, PM.isiV, PM.tyD, PM.isiD, PM.nonV, PM.truV, PM.truD, PM.partD, PM.items, PM.isiD, PM.lcFree, PM.wipeE, PM.backE, PM.intsD, PM.strsD, PM.boolsD, PM.keyD, PM.dKey, PM.enumV, PM.zipV, PM.rangeV, okMul]; omega
  have h4 : okMul 31 j = true := by simp [PM.exs, PM.ex, PM.ev, PM.evs, PM.lcStep, PM.evo, PM.evt, PM.evi, PM.getS, PM.see, PM.sees, PM.frD, PM.binD, PM.cmpD, PM.stow, PM.stowAll, PM.asg, PM.asgs, PM.setSl, PM.setAll, PM.handOut, PM.endM, PM.parts, PM.owned, PM.isD, PM.runCall, PM.pks, PM.lend, PM.back, PM.take, PM.takes, PM.walkV, PM.walkL, PM.muV, PM.mtD, PM.biD, PM.setIx, PM.isOl, PM.isiV, PM.tyD, PM.isiD, PM.nonV, PM.truV, PM.truD, PM.partD, PM.items, PM.isiD, PM.lcFree, PM.wipeE, PM.backE, PM.intsD, PM.strsD, PM.boolsD, PM.keyD, PM.dKey, PM.enumV, PM.zipV, PM.rangeV, okMul]
  have h5 : ∀ x, okMul x 48271 = true := by intro x; simp [PM.exs, PM.ex, PM.ev, PM.evs, PM.lcStep, PM.evo, PM.evt, PM.evi, PM.getS, PM.see, PM.sees, PM.frD, PM.binD, PM.cmpD, PM.stow, PM.stowAll, PM.asg, PM.asgs, PM.setSl, PM.setAll, PM.handOut, PM.endM, PM.parts, PM.owned, PM.isD, PM.runCall, PM.pks, PM.lend, PM.back, PM.take, PM.takes, PM.walkV, PM.walkL, PM.muV, PM.mtD, PM.biD, PM.setIx, PM.isOl, PM.isiV, PM.tyD, PM.isiD, PM.nonV, PM.truV, PM.truD, PM.partD, PM.items, PM.isiD, PM.lcFree, PM.wipeE, PM.backE, PM.intsD, PM.strsD, PM.boolsD, PM.keyD, PM.dKey, PM.enumV, PM.zipV, PM.rangeV, okMul]
  have h6 : okMul 2 j = true := by simp [PM.exs, PM.ex, PM.ev, PM.evs, PM.lcStep, PM.evo, PM.evt, PM.evi, PM.getS, PM.see, PM.sees, PM.frD, PM.binD, PM.cmpD, PM.stow, PM.stowAll, PM.asg, PM.asgs, PM.setSl, PM.setAll, PM.handOut, PM.endM, PM.parts, PM.owned, PM.isD, PM.runCall, PM.pks, PM.lend, PM.back, PM.take, PM.takes, PM.walkV, PM.walkL, PM.muV, PM.mtD, PM.biD, PM.setIx, PM.isOl, PM.isiV, PM.tyD, PM.isiD, PM.nonV, PM.truV, PM.truD, PM.partD, PM.items, PM.isiD, PM.lcFree, PM.wipeE, PM.backE, PM.intsD, PM.strsD, PM.boolsD, PM.keyD, PM.dKey, PM.enumV, PM.zipV, PM.rangeV, okMul]
  have h7 : ∀ x y, okMul (x % 2147483647) y = true := by intro x y; simp [PM.exs, PM.ex, PM.ev, PM.evs, PM.lcStep, PM.evo, PM.evt, PM.evi, PM.getS, PM.see, PM.sees, PM.frD, PM.binD, PM.cmpD, PM.stow, PM.stowAll, PM.asg, PM.asgs, PM.setSl, PM.setAll, PM.handOut, PM.endM, PM.parts, PM.owned, PM.isD, PM.runCall, PM.pks, PM.lend, PM.back, PM.take, PM.takes, PM.walkV, PM.walkL, PM.muV, PM.mtD, PM.biD, PM.setIx, PM.isOl, PM.isiV, PM.tyD, PM.isiD, PM.nonV, PM.truV, PM.truD, PM.partD, PM.items, PM.isiD, PM.lcFree, PM.wipeE, PM.backE, PM.intsD, PM.strsD, PM.boolsD, PM.keyD, PM.dKey, PM.enumV, PM.zipV, PM.rangeV, okMul]; omega
  simp [PM.exs, PM.ex, PM.ev, PM.evs, PM.lcStep, PM.evo, PM.evt, PM.evi, PM.getS, PM.see, PM.sees, PM.frD, PM.binD, PM.cmpD, PM.stow, PM.stowAll, PM.asg, PM.asgs, PM.setSl, PM.setAll, PM.handOut, PM.endM, PM.parts, PM.owned, PM.isD, PM.runCall, PM.pks, PM.lend, PM.back, PM.take, PM.takes, PM.walkV, PM.walkL, PM.muV, PM.mtD, PM.biD, PM.setIx, PM.isOl, PM.isiV, PM.tyD, PM.isiD, PM.nonV, PM.truV, PM.truD, PM.partD, PM.items, PM.isiD, PM.lcFree, PM.wipeE, PM.backE, PM.intsD, PM.strsD, PM.boolsD, PM.keyD, PM.dKey, PM.enumV, PM.zipV, PM.rangeV, d__law_mixed, mb__law_mixed, h2, h3, h4, h5, h6, h7, cx, mixed]
theorem mixed_lt (n j : Int) : 0 ≤ mixed n j ∧ mixed n j < 2147483629 := by unfold mixed; omega
theorem call_stream (k : Nat) (n j : Int) (h0 : 0 ≤ j) (h1 : j ≤ 100000) : callM T.prog (k + 2) 5 [.d (.int n), .d (.int j)] = .ok (.ol [.d (.bool (decide (10 ^ 18 ≤ n))), .d (.int n), .d (.int 0), .d (.int (mixed n j))]) [.d (.int n), .d (.int j)] := by
  rw [go2 (fd := d__law_stream.d) rfl ⟨rfl, by decide⟩]
  simp [PM.exs, PM.ex, PM.ev, PM.evs, PM.lcStep, PM.evo, PM.evt, PM.evi, PM.getS, PM.see, PM.sees, PM.frD, PM.binD, PM.cmpD, PM.stow, PM.stowAll, PM.asg, PM.asgs, PM.setSl, PM.setAll, PM.handOut, PM.endM, PM.parts, PM.owned, PM.isD, PM.runCall, PM.pks, PM.lend, PM.back, PM.take, PM.takes, PM.walkV, PM.walkL, PM.muV, PM.mtD, PM.biD, PM.setIx, PM.isOl, PM.isiV, PM.tyD, PM.isiD, PM.nonV, PM.truV, PM.truD, PM.partD, PM.items, PM.isiD, PM.lcFree, PM.wipeE, PM.backE, PM.intsD, PM.strsD, PM.boolsD, PM.keyD, PM.dKey, PM.enumV, PM.zipV, PM.rangeV, d__law_stream, mb__law_stream, cx, call_mixed k n j h0 h1, lineN_eq]
/-- a stream's list -/
abbrev st (b : Bool) (n c s : Int) : Val := .ol [.d (.bool b), .d (.int n), .d (.int c), .d (.int s)]
theorem inD2 (n : Int) : inD (.int n) (.tuple [.int 0, .int (-1)]) = some (decide (n = 0) || decide (n = -1)) := by
  have h : okEq (.int n) (.tuple [.int 0, .int (-1)]) = true := by
    unfold okEq
    simp [PM.exs, PM.ex, PM.ev, PM.evs, PM.lcStep, PM.evo, PM.evt, PM.evi, PM.getS, PM.see, PM.sees, PM.frD, PM.binD, PM.cmpD, PM.stow, PM.stowAll, PM.asg, PM.asgs, PM.setSl, PM.setAll, PM.handOut, PM.endM, PM.parts, PM.owned, PM.isD, PM.runCall, PM.pks, PM.lend, PM.back, PM.take, PM.takes, PM.walkV, PM.walkL, PM.muV, PM.mtD, PM.biD, PM.setIx, PM.isOl, PM.isiV, PM.tyD, PM.isiD, PM.nonV, PM.truV, PM.truD, PM.partD, PM.items, PM.isiD, PM.lcFree, PM.wipeE, PM.backE, PM.intsD, PM.strsD, PM.boolsD, PM.keyD, PM.dKey, PM.enumV, PM.zipV, PM.rangeV, PyData.canLay0, PyData.canLayAll0, PyData.depth, PyData.depthAll]
  simp only [inD, h, if_true, List.any_cons, List.any_nil, PyData.eqv, Bool.or_false]
  congr 1
  by_cases q : n = 0 <;> by_cases q2 : n = -1 <;> simp_all <;> omega
theorem call_take (k : Nat) (b : Bool) (n c s m : Int) (h0 : 0 ≤ c) (h1 : c < 100000) (hm : 0 < m) (hm2 : m < 1073741824) : ∃ n' r, 0 ≤ r ∧ r < m ∧ callM T.prog (k + 2) 6 [st b n c s, .d (.int m)] = .ok (.d (.int r)) [st b n' (c + 1) s, .d (.int m)] := by
  rw [go2 (fd := d__law_take.d) rfl ⟨rfl, by decide⟩]
  have A := call_mixed k s (c + 1) (by omega) (by omega)
  have A2 := call_mixed k (mixed s (c + 1)) 7 (by omega) (by omega)
  by_cases hA : b = false ∨ n = 0 ∨ n = -1 ∨ 60 < c + 1
  · refine ⟨n, mixed (mixed s (c + 1)) 7 % m, Int.emod_nonneg _ (by omega), Int.emod_lt_of_pos _ hm, ?_⟩
    rcases hA with rfl | hA
    · simp [PM.exs, PM.ex, PM.ev, PM.evs, PM.lcStep, PM.evo, PM.evt, PM.evi, PM.getS, PM.see, PM.sees, PM.frD, PM.binD, PM.cmpD, PM.stow, PM.stowAll, PM.asg, PM.asgs, PM.setSl, PM.setAll, PM.handOut, PM.endM, PM.parts, PM.owned, PM.isD, PM.runCall, PM.pks, PM.lend, PM.back, PM.take, PM.takes, PM.walkV, PM.walkL, PM.muV, PM.mtD, PM.biD, PM.setIx, PM.isOl, PM.isiV, PM.tyD, PM.isiD, PM.nonV, PM.truV, PM.truD, PM.partD, PM.items, PM.isiD, PM.lcFree, PM.wipeE, PM.backE, PM.intsD, PM.strsD, PM.boolsD, PM.keyD, PM.dKey, PM.enumV, PM.zipV, PM.rangeV, d__law_take, mb__law_take, cx, inD2, idxD, L2.atI, L2.ixN, lineN_eq, A, A2, hm]
    · cases b
      · simp [PM.exs, PM.ex, PM.ev, PM.evs, PM.lcStep, PM.evo, PM.evt, PM.evi, PM.getS, PM.see, PM.sees, PM.frD, PM.binD, PM.cmpD, PM.stow, PM.stowAll, PM.asg, PM.asgs, PM.setSl, PM.setAll, PM.handOut, PM.endM, PM.parts, PM.owned, PM.isD, PM.runCall, PM.pks, PM.lend, PM.back, PM.take, PM.takes, PM.walkV, PM.walkL, PM.muV, PM.mtD, PM.biD, PM.setIx, PM.isOl, PM.isiV, PM.tyD, PM.isiD, PM.nonV, PM.truV, PM.truD, PM.partD, PM.items, PM.isiD, PM.lcFree, PM.wipeE, PM.backE, PM.intsD, PM.strsD, PM.boolsD, PM.keyD, PM.dKey, PM.enumV, PM.zipV, PM.rangeV, d__law_take, mb__law_take, cx, inD2, idxD, L2.atI, L2.ixN, lineN_eq, A, A2, hm]
      · rcases hA with rfl | rfl | hA
        · simp [PM.exs, PM.ex, PM.ev, PM.evs, PM.lcStep, PM.evo, PM.evt, PM.evi, PM.getS, PM.see, PM.sees, PM.frD, PM.binD, PM.cmpD, PM.stow, PM.stowAll, PM.asg, PM.asgs, PM.setSl, PM.setAll, PM.handOut, PM.endM, PM.parts, PM.owned, PM.isD, PM.runCall, PM.pks, PM.lend, PM.back, PM.take, PM.takes, PM.walkV, PM.walkL, PM.muV, PM.mtD, PM.biD, PM.setIx, PM.isOl, PM.isiV, PM.tyD, PM.isiD, PM.nonV, PM.truV, PM.truD, PM.partD, PM.items, PM.isiD, PM.lcFree, PM.wipeE, PM.backE, PM.intsD, PM.strsD, PM.boolsD, PM.keyD, PM.dKey, PM.enumV, PM.zipV, PM.rangeV, d__law_take, mb__law_take, cx, inD2, idxD, L2.atI, L2.ixN, lineN_eq, A, A2, hm]
        · simp [PM.exs, PM.ex, PM.ev, PM.evs, PM.lcStep, PM.evo, PM.evt, PM.evi, PM.getS, PM.see, PM.sees, PM.frD, PM.binD, PM.cmpD, PM.stow, PM.stowAll, PM.asg, PM.asgs, PM.setSl, PM.setAll, PM.handOut, PM.endM, PM.parts, PM.owned, PM.isD, PM.runCall, PM.pks, PM.lend, PM.back, PM.take, PM.takes, PM.walkV, PM.walkL, PM.muV, PM.mtD, PM.biD, PM.setIx, PM.isOl, PM.isiV, PM.tyD, PM.isiD, PM.nonV, PM.truV, PM.truD, PM.partD, PM.items, PM.isiD, PM.lcFree, PM.wipeE, PM.backE, PM.intsD, PM.strsD, PM.boolsD, PM.keyD, PM.dKey, PM.enumV, PM.zipV, PM.rangeV, d__law_take, mb__law_take, cx, inD2, idxD, L2.atI, L2.ixN, lineN_eq, A, A2, hm]
        · by_cases q : n = 0 ∨ n = -1
          · rcases q with rfl | rfl <;> simp [PM.exs, PM.ex, PM.ev, PM.evs, PM.lcStep, PM.evo, PM.evt, PM.evi, PM.getS, PM.see, PM.sees, PM.frD, PM.binD, PM.cmpD, PM.stow, PM.stowAll, PM.asg, PM.asgs, PM.setSl, PM.setAll, PM.handOut, PM.endM, PM.parts, PM.owned, PM.isD, PM.runCall, PM.pks, PM.lend, PM.back, PM.take, PM.takes, PM.walkV, PM.walkL, PM.muV, PM.mtD, PM.biD, PM.setIx, PM.isOl, PM.isiV, PM.tyD, PM.isiD, PM.nonV, PM.truV, PM.truD, PM.partD, PM.items, PM.isiD, PM.lcFree, PM.wipeE, PM.backE, PM.intsD, PM.strsD, PM.boolsD, PM.keyD, PM.dKey, PM.enumV, PM.zipV, PM.rangeV, d__law_take, mb__law_take, cx, inD2, idxD, L2.atI, L2.ixN, lineN_eq, A, A2, hm]
          · have q1 : ¬ n = 0 := fun z => q (.inl z)
            have q2 : ¬ n = -1 := fun z => q (.inr z)
            simp [PM.exs, PM.ex, PM.ev, PM.evs, PM.lcStep, PM.evo, PM.evt, PM.evi, PM.getS, PM.see, PM.sees, PM.frD, PM.binD, PM.cmpD, PM.stow, PM.stowAll, PM.asg, PM.asgs, PM.setSl, PM.setAll, PM.handOut, PM.endM, PM.parts, PM.owned, PM.isD, PM.runCall, PM.pks, PM.lend, PM.back, PM.take, PM.takes, PM.walkV, PM.walkL, PM.muV, PM.mtD, PM.biD, PM.setIx, PM.isOl, PM.isiV, PM.tyD, PM.isiD, PM.nonV, PM.truV, PM.truD, PM.partD, PM.items, PM.isiD, PM.lcFree, PM.wipeE, PM.backE, PM.intsD, PM.strsD, PM.boolsD, PM.keyD, PM.dKey, PM.enumV, PM.zipV, PM.rangeV, d__law_take, mb__law_take, cx, inD2, idxD, L2.atI, L2.ixN, lineN_eq, A, A2, hm, q1, q2, hA]
  · have hb : b = true := by cases b <;> simp_all
    subst hb
    have q1 : ¬ n = 0 := fun z => hA (.inr (.inl z))
    have q2 : ¬ n = -1 := fun z => hA (.inr (.inr (.inl z)))
    have q3 : ¬ 60 < c + 1 := fun z => hA (.inr (.inr (.inr z)))
    refine ⟨n / m, n % m, Int.emod_nonneg _ (by omega), Int.emod_lt_of_pos _ hm, ?_⟩
    simp [PM.exs, PM.ex, PM.ev, PM.evs, PM.lcStep, PM.evo, PM.evt, PM.evi, PM.getS, PM.see, PM.sees, PM.frD, PM.binD, PM.cmpD, PM.stow, PM.stowAll, PM.asg, PM.asgs, PM.setSl, PM.setAll, PM.handOut, PM.endM, PM.parts, PM.owned, PM.isD, PM.runCall, PM.pks, PM.lend, PM.back, PM.take, PM.takes, PM.walkV, PM.walkL, PM.muV, PM.mtD, PM.biD, PM.setIx, PM.isOl, PM.isiV, PM.tyD, PM.isiD, PM.nonV, PM.truV, PM.truD, PM.partD, PM.items, PM.isiD, PM.lcFree, PM.wipeE, PM.backE, PM.intsD, PM.strsD, PM.boolsD, PM.keyD, PM.dKey, PM.enumV, PM.zipV, PM.rangeV, d__law_take, mb__law_take, cx, inD2, idxD, L2.atI, L2.ixN, lineN_eq, hm, hm2, q1, q2, q3]
end Lk01
end

section
set_option Elab.async false
set_option linter.all false
set_option maxRecDepth 100000
set_option maxHeartbeats 2000000
namespace Lk01
open PySem PM
theorem ev_allB {α : Type} {c : PM.Ctx} {a : ME} {e e1 : PM.Env} {f : α → Bool} {xs : List α} (h : ev c a e = .ok (.ol ((xs.map fun x => PyData.bool (f x)).map .d)) e1) : ev c (.bi .all [a]) e = .ok (.d (.bool (xs.all f))) e1 := by
  rw [ev_bi1 h]
  show (match (allD ((xs.map fun x => PyData.bool (f x)).map .d)).map PyData.list with
    | some d => opt (biD .all [d]) e1
    | none => Res.no) = _
  rw [allD_map]
  show opt ((boolsD (xs.map fun x => PyData.bool (f x))).map fun bs => Val.d (.bool (bs.all id))) e1 = _
  rw [boolsD_map]
  simp [PM.exs, PM.ex, PM.ev, PM.evs, PM.lcStep, PM.evo, PM.evt, PM.evi, PM.getS, PM.see, PM.sees, PM.frD, PM.binD, PM.cmpD, PM.stow, PM.stowAll, PM.asg, PM.asgs, PM.setSl, PM.setAll, PM.handOut, PM.endM, PM.parts, PM.owned, PM.isD, PM.runCall, PM.pks, PM.lend, PM.back, PM.take, PM.takes, PM.walkV, PM.walkL, PM.muV, PM.mtD, PM.biD, PM.setIx, PM.isOl, PM.isiV, PM.tyD, PM.isiD, PM.nonV, PM.truV, PM.truD, PM.partD, PM.items, PM.isiD, PM.lcFree, PM.wipeE, PM.backE, PM.intsD, PM.strsD, PM.boolsD, PM.keyD, PM.dKey, PM.enumV, PM.zipV, PM.rangeV]
def LET : Str := "abcdefghijklmnopqrstuvwxyz"
def isName : D → Bool
  | .str z => decide (1 ≤ z.length) && decide (z.length ≤ 6) && z.cps.toList.all (fun n => decide (n ∈ LET.cps.toList))
  | _ => false
/-- a text's length is in reach -/
def Fit : D → Prop
  | .str z => z.length ≤ 16777216
  | _ => True
theorem letters_ev (c : PM.Ctx) (z : Str) (hz : z.length ≤ 16777216) (hp : c.pr[1]? ≠ some true) (hp0 : c.pr[0]? ≠ some true) :
    ev c (.lc (.cmp .In (.v 1) (.c (.str "abcdefghijklmnopqrstuvwxyz"))) (.nm 1) (.seq (.v 0)) [] [1]) [some (.d (.str z)), none] = .ok (.ol ((z.cps.toList.map fun n => PyData.bool (decide (n ∈ LET.cps.toList))).map .d)) [some (.d (.str z)), none] := by
  have := ev_lc' (c := c) (elt := .cmp .In (.v 1) (.c (.str "abcdefghijklmnopqrstuvwxyz"))) (t := .nm 1) (it := .seq (.v 0)) (own := [1]) (e := [some (.d (.str z)), none]) (e1 := [some (.d (.str z)), none]) (xs := signsD z)
    (g := fun x => .bool (match x with
      | .str c => match c.cps.toList with
        | [n] => decide (n ∈ LET.cps.toList)
        | _ => false
      | _ => false)) (by simp [PM.exs, PM.ex, PM.ev, PM.evs, PM.lcStep, PM.evo, PM.evt, PM.evi, PM.getS, PM.see, PM.sees, PM.frD, PM.binD, PM.cmpD, PM.stow, PM.stowAll, PM.asg, PM.asgs, PM.setSl, PM.setAll, PM.handOut, PM.endM, PM.parts, PM.owned, PM.isD, PM.runCall, PM.pks, PM.lend, PM.back, PM.take, PM.takes, PM.walkV, PM.walkL, PM.muV, PM.mtD, PM.biD, PM.setIx, PM.isOl, PM.isiV, PM.tyD, PM.isiD, PM.nonV, PM.truV, PM.truD, PM.partD, PM.items, PM.isiD, PM.lcFree, PM.wipeE, PM.backE, PM.intsD, PM.strsD, PM.boolsD, PM.keyD, PM.dKey, PM.enumV, PM.zipV, PM.rangeV, hz, lineN_eq]) (by simp [PM.exs, PM.ex, PM.ev, PM.evs, PM.lcStep, PM.evo, PM.evt, PM.evi, PM.getS, PM.see, PM.sees, PM.frD, PM.binD, PM.cmpD, PM.stow, PM.stowAll, PM.asg, PM.asgs, PM.setSl, PM.setAll, PM.handOut, PM.endM, PM.parts, PM.owned, PM.isD, PM.runCall, PM.pks, PM.lend, PM.back, PM.take, PM.takes, PM.walkV, PM.walkL, PM.muV, PM.mtD, PM.biD, PM.setIx, PM.isOl, PM.isiV, PM.tyD, PM.isiD, PM.nonV, PM.truV, PM.truD, PM.partD, PM.items, PM.isiD, PM.lcFree, PM.wipeE, PM.backE, PM.intsD, PM.strsD, PM.boolsD, PM.keyD, PM.dKey, PM.enumV, PM.zipV, PM.rangeV, hp]) (fun x hx => by
        obtain ⟨n, hn, rfl⟩ := List.mem_map.mp (show x ∈ z.cps.toList.map (fun c => PyData.str ⟨#[c]⟩) from hx)
        simp [PM.exs, PM.ex, PM.ev, PM.evs, PM.lcStep, PM.evo, PM.evt, PM.evi, PM.getS, PM.see, PM.sees, PM.frD, PM.binD, PM.cmpD, PM.stow, PM.stowAll, PM.asg, PM.asgs, PM.setSl, PM.setAll, PM.handOut, PM.endM, PM.parts, PM.owned, PM.isD, PM.runCall, PM.pks, PM.lend, PM.back, PM.take, PM.takes, PM.walkV, PM.walkL, PM.muV, PM.mtD, PM.biD, PM.setIx, PM.isOl, PM.isiV, PM.tyD, PM.isiD, PM.nonV, PM.truV, PM.truD, PM.partD, PM.items, PM.isiD, PM.lcFree, PM.wipeE, PM.backE, PM.intsD, PM.strsD, PM.boolsD, PM.keyD, PM.dKey, PM.enumV, PM.zipV, PM.rangeV, hp, inD, LET]) (by simpa [PM.exs, PM.ex, PM.ev, PM.evs, PM.lcStep, PM.evo, PM.evt, PM.evi, PM.getS, PM.see, PM.sees, PM.frD, PM.binD, PM.cmpD, PM.stow, PM.stowAll, PM.asg, PM.asgs, PM.setSl, PM.setAll, PM.handOut, PM.endM, PM.parts, PM.owned, PM.isD, PM.runCall, PM.pks, PM.lend, PM.back, PM.take, PM.takes, PM.walkV, PM.walkL, PM.muV, PM.mtD, PM.biD, PM.setIx, PM.isOl, PM.isiV, PM.tyD, PM.isiD, PM.nonV, PM.truV, PM.truD, PM.partD, PM.items, PM.isiD, PM.lcFree, PM.wipeE, PM.backE, PM.intsD, PM.strsD, PM.boolsD, PM.keyD, PM.dKey, PM.enumV, PM.zipV, PM.rangeV, signsD, lineN_eq, Str.length] using hz)
  rw [this]
  simp [PM.exs, PM.ex, PM.ev, PM.evs, PM.lcStep, PM.evo, PM.evt, PM.evi, PM.getS, PM.see, PM.sees, PM.frD, PM.binD, PM.cmpD, PM.stow, PM.stowAll, PM.asg, PM.asgs, PM.setSl, PM.setAll, PM.handOut, PM.endM, PM.parts, PM.owned, PM.isD, PM.runCall, PM.pks, PM.lend, PM.back, PM.take, PM.takes, PM.walkV, PM.walkL, PM.muV, PM.mtD, PM.biD, PM.setIx, PM.isOl, PM.isiV, PM.tyD, PM.isiD, PM.nonV, PM.truV, PM.truD, PM.partD, PM.items, PM.isiD, PM.lcFree, PM.wipeE, PM.backE, PM.intsD, PM.strsD, PM.boolsD, PM.keyD, PM.dKey, PM.enumV, PM.zipV, PM.rangeV, signsD]
theorem call_is_name (k : Nat) (x : D) (hx : Fit x) : callM T.prog (k + 1) 0 [.d x] = .ok (.d (.bool (isName x))) [.d x] := by
  rw [go1 (fd := d_is_name.d) rfl ⟨rfl, by decide⟩]
  cases x with
  | str z =>
    have hz : z.length ≤ 16777216 := hx
    by_cases h1 : 1 ≤ z.length ∧ z.length ≤ 6
    · have L := letters_ev (cx k [owned (.d (.str z))]) z hz (by simp [PM.exs, PM.ex, PM.ev, PM.evs, PM.lcStep, PM.evo, PM.evt, PM.evi, PM.getS, PM.see, PM.sees, PM.frD, PM.binD, PM.cmpD, PM.stow, PM.stowAll, PM.asg, PM.asgs, PM.setSl, PM.setAll, PM.handOut, PM.endM, PM.parts, PM.owned, PM.isD, PM.runCall, PM.pks, PM.lend, PM.back, PM.take, PM.takes, PM.walkV, PM.walkL, PM.muV, PM.mtD, PM.biD, PM.setIx, PM.isOl, PM.isiV, PM.tyD, PM.isiD, PM.nonV, PM.truV, PM.truD, PM.partD, PM.items, PM.isiD, PM.lcFree, PM.wipeE, PM.backE, PM.intsD, PM.strsD, PM.boolsD, PM.keyD, PM.dKey, PM.enumV, PM.zipV, PM.rangeV]) (by simp [PM.exs, PM.ex, PM.ev, PM.evs, PM.lcStep, PM.evo, PM.evt, PM.evi, PM.getS, PM.see, PM.sees, PM.frD, PM.binD, PM.cmpD, PM.stow, PM.stowAll, PM.asg, PM.asgs, PM.setSl, PM.setAll, PM.handOut, PM.endM, PM.parts, PM.owned, PM.isD, PM.runCall, PM.pks, PM.lend, PM.back, PM.take, PM.takes, PM.walkV, PM.walkL, PM.muV, PM.mtD, PM.biD, PM.setIx, PM.isOl, PM.isiV, PM.tyD, PM.isiD, PM.nonV, PM.truV, PM.truD, PM.partD, PM.items, PM.isiD, PM.lcFree, PM.wipeE, PM.backE, PM.intsD, PM.strsD, PM.boolsD, PM.keyD, PM.dKey, PM.enumV, PM.zipV, PM.rangeV])
      rw [show d_is_name.d.mb = mb_is_name from rfl, mb_is_name, exs_nx (e1 := [some (.d (.str z)), none]), exs_ret (v := .d (.bool (isName (.str z)))) (e1 := [some (.d (.str z)), none])]
      · simp [PM.exs, PM.ex, PM.ev, PM.evs, PM.lcStep, PM.evo, PM.evt, PM.evi, PM.getS, PM.see, PM.sees, PM.frD, PM.binD, PM.cmpD, PM.stow, PM.stowAll, PM.asg, PM.asgs, PM.setSl, PM.setAll, PM.handOut, PM.endM, PM.parts, PM.owned, PM.isD, PM.runCall, PM.pks, PM.lend, PM.back, PM.take, PM.takes, PM.walkV, PM.walkL, PM.muV, PM.mtD, PM.biD, PM.setIx, PM.isOl, PM.isiV, PM.tyD, PM.isiD, PM.nonV, PM.truV, PM.truD, PM.partD, PM.items, PM.isiD, PM.lcFree, PM.wipeE, PM.backE, PM.intsD, PM.strsD, PM.boolsD, PM.keyD, PM.dKey, PM.enumV, PM.zipV, PM.rangeV]
      · have := boolsD_map (fun n => decide (n ∈ LET.cps.toList)) z.cps.toList
        refine ex_ret (v := .d (.bool (isName (.str z)))) (e1 := [some (.d (.str z)), none]) ?_ rfl
        rw [ev_allB L]
        simp [PM.exs, PM.ex, PM.ev, PM.evs, PM.lcStep, PM.evo, PM.evt, PM.evi, PM.getS, PM.see, PM.sees, PM.frD, PM.binD, PM.cmpD, PM.stow, PM.stowAll, PM.asg, PM.asgs, PM.setSl, PM.setAll, PM.handOut, PM.endM, PM.parts, PM.owned, PM.isD, PM.runCall, PM.pks, PM.lend, PM.back, PM.take, PM.takes, PM.walkV, PM.walkL, PM.muV, PM.mtD, PM.biD, PM.setIx, PM.isOl, PM.isiV, PM.tyD, PM.isiD, PM.nonV, PM.truV, PM.truD, PM.partD, PM.items, PM.isiD, PM.lcFree, PM.wipeE, PM.backE, PM.intsD, PM.strsD, PM.boolsD, PM.keyD, PM.dKey, PM.enumV, PM.zipV, PM.rangeV, isName, h1.1, h1.2]
      · have e1 : (1 : Int) ≤ (z.length : Int) := by omega
        have e2 : (z.length : Int) ≤ 6 := by omega
        simp [PM.exs, PM.ex, PM.ev, PM.evs, PM.lcStep, PM.evo, PM.evt, PM.evi, PM.getS, PM.see, PM.sees, PM.frD, PM.binD, PM.cmpD, PM.stow, PM.stowAll, PM.asg, PM.asgs, PM.setSl, PM.setAll, PM.handOut, PM.endM, PM.parts, PM.owned, PM.isD, PM.runCall, PM.pks, PM.lend, PM.back, PM.take, PM.takes, PM.walkV, PM.walkL, PM.muV, PM.mtD, PM.biD, PM.setIx, PM.isOl, PM.isiV, PM.tyD, PM.isiD, PM.nonV, PM.truV, PM.truD, PM.partD, PM.items, PM.isiD, PM.lcFree, PM.wipeE, PM.backE, PM.intsD, PM.strsD, PM.boolsD, PM.keyD, PM.dKey, PM.enumV, PM.zipV, PM.rangeV, hz, lineN_eq, e1, e2, d_is_name]
    · have e0 : isName (.str z) = false := by
        unfold isName
        simp only [Bool.and_eq_false_iff, decide_eq_false_iff_not]
        by_cases q : 1 ≤ z.length
        · exact .inl (.inr fun z' => h1 ⟨q, z'⟩)
        · exact .inl (.inl q)
      rw [e0]
      by_cases q : 1 ≤ z.length
      · have q2 : ¬ z.length ≤ 6 := fun z' => h1 ⟨q, z'⟩
        have e1 : (1 : Int) ≤ (z.length : Int) := by omega
        have e2 : ¬ (z.length : Int) ≤ 6 := by omega
        simp [PM.exs, PM.ex, PM.ev, PM.evs, PM.lcStep, PM.evo, PM.evt, PM.evi, PM.getS, PM.see, PM.sees, PM.frD, PM.binD, PM.cmpD, PM.stow, PM.stowAll, PM.asg, PM.asgs, PM.setSl, PM.setAll, PM.handOut, PM.endM, PM.parts, PM.owned, PM.isD, PM.runCall, PM.pks, PM.lend, PM.back, PM.take, PM.takes, PM.walkV, PM.walkL, PM.muV, PM.mtD, PM.biD, PM.setIx, PM.isOl, PM.isiV, PM.tyD, PM.isiD, PM.nonV, PM.truV, PM.truD, PM.partD, PM.items, PM.isiD, PM.lcFree, PM.wipeE, PM.backE, PM.intsD, PM.strsD, PM.boolsD, PM.keyD, PM.dKey, PM.enumV, PM.zipV, PM.rangeV, d_is_name, mb_is_name, hz, lineN_eq, e1, e2]
      · have e1 : ¬ (1 : Int) ≤ (z.length : Int) := by omega
        simp [PM.exs, PM.ex, PM.ev, PM.evs, PM.lcStep, PM.evo, PM.evt, PM.evi, PM.getS, PM.see, PM.sees, PM.frD, PM.binD, PM.cmpD, PM.stow, PM.stowAll, PM.asg, PM.asgs, PM.setSl, PM.setAll, PM.handOut, PM.endM, PM.parts, PM.owned, PM.isD, PM.runCall, PM.pks, PM.lend, PM.back, PM.take, PM.takes, PM.walkV, PM.walkL, PM.muV, PM.mtD, PM.biD, PM.setIx, PM.isOl, PM.isiV, PM.tyD, PM.isiD, PM.nonV, PM.truV, PM.truD, PM.partD, PM.items, PM.isiD, PM.lcFree, PM.wipeE, PM.backE, PM.intsD, PM.strsD, PM.boolsD, PM.keyD, PM.dKey, PM.enumV, PM.zipV, PM.rangeV, d_is_name, mb_is_name, hz, lineN_eq, e1]
  | _ => simp [PM.exs, PM.ex, PM.ev, PM.evs, PM.lcStep, PM.evo, PM.evt, PM.evi, PM.getS, PM.see, PM.sees, PM.frD, PM.binD, PM.cmpD, PM.stow, PM.stowAll, PM.asg, PM.asgs, PM.setSl, PM.setAll, PM.handOut, PM.endM, PM.parts, PM.owned, PM.isD, PM.runCall, PM.pks, PM.lend, PM.back, PM.take, PM.takes, PM.walkV, PM.walkL, PM.muV, PM.mtD, PM.biD, PM.setIx, PM.isOl, PM.isiV, PM.tyD, PM.isiD, PM.nonV, PM.truV, PM.truD, PM.partD, PM.items, PM.isiD, PM.lcFree, PM.wipeE, PM.backE, PM.intsD, PM.strsD, PM.boolsD, PM.keyD, PM.dKey, PM.enumV, PM.zipV, PM.rangeV, d_is_name, mb_is_name, isName]
end Lk01
end

section
set_option Elab.async false
set_option linter.all false
set_option maxRecDepth 100000
set_option maxHeartbeats 2000000
namespace Lk01
open PySem PM
@[simp] theorem eqD_int (i j : Int) : eqD (.int i) (.int j) = some (decide (i = j)) := by
  simp [PM.exs, PM.ex, PM.ev, PM.evs, PM.lcStep, PM.evo, PM.evt, PM.evi, PM.getS, PM.see, PM.sees, PM.frD, PM.binD, PM.cmpD, PM.stow, PM.stowAll, PM.asg, PM.asgs, PM.setSl, PM.setAll, PM.handOut, PM.endM, PM.parts, PM.owned, PM.isD, PM.runCall, PM.pks, PM.lend, PM.back, PM.take, PM.takes, PM.walkV, PM.walkL, PM.muV, PM.mtD, PM.biD, PM.setIx, PM.isOl, PM.isiV, PM.tyD, PM.isiD, PM.nonV, PM.truV, PM.truD, PM.partD, PM.items, PM.isiD, PM.lcFree, PM.wipeE, PM.backE, PM.intsD, PM.strsD, PM.boolsD, PM.keyD, PM.dKey, PM.enumV, PM.zipV, PM.rangeV, eqD, scalD, PyData.eqv]
  try rfl
@[simp] theorem eqD_str (i j : Str) : eqD (.str i) (.str j) = some (decide (i = j)) := by
  simp [PM.exs, PM.ex, PM.ev, PM.evs, PM.lcStep, PM.evo, PM.evt, PM.evi, PM.getS, PM.see, PM.sees, PM.frD, PM.binD, PM.cmpD, PM.stow, PM.stowAll, PM.asg, PM.asgs, PM.setSl, PM.setAll, PM.handOut, PM.endM, PM.parts, PM.owned, PM.isD, PM.runCall, PM.pks, PM.lend, PM.back, PM.take, PM.takes, PM.walkV, PM.walkL, PM.muV, PM.mtD, PM.biD, PM.setIx, PM.isOl, PM.isiV, PM.tyD, PM.isiD, PM.nonV, PM.truV, PM.truD, PM.partD, PM.items, PM.isiD, PM.lcFree, PM.wipeE, PM.backE, PM.intsD, PM.strsD, PM.boolsD, PM.keyD, PM.dKey, PM.enumV, PM.zipV, PM.rangeV, eqD, scalD, PyData.eqv]
  try rfl
def isNames : D → Bool
  | .tuple xs => decide (xs.length ≤ 8) && xs.all isName && (match strsD xs with
    | some ss => decide ((dedS ss).length = xs.length)
    | none => false)
  | _ => false
def FitN : D → Prop
  | .tuple xs => ∀ y ∈ xs, Fit y
  | _ => True
theorem names_ev (k : Nat) (c : PM.Ctx) (hc : c = cx (k + 1) [false]) (xs : List D) (hf : ∀ y ∈ xs, Fit y) (hl : xs.length ≤ 8) :
    ev c (.lc (.call 0 [.v 1]) (.nm 1) (.seq (.v 0)) [] [1]) [some (.d (.tuple xs)), none] = .ok (.ol ((xs.map fun x => PyData.bool (isName x)).map .d)) [some (.d (.tuple xs)), none] := by
  subst hc
  exact ev_lc' (own := [1]) (e := [some (.d (.tuple xs)), none]) (e1 := [some (.d (.tuple xs)), none]) (xs := xs)
    (g := fun x => .bool (isName x)) (by simp [PM.exs, PM.ex, PM.ev, PM.evs, PM.lcStep, PM.evo, PM.evt, PM.evi, PM.getS, PM.see, PM.sees, PM.frD, PM.binD, PM.cmpD, PM.stow, PM.stowAll, PM.asg, PM.asgs, PM.setSl, PM.setAll, PM.handOut, PM.endM, PM.parts, PM.owned, PM.isD, PM.runCall, PM.pks, PM.lend, PM.back, PM.take, PM.takes, PM.walkV, PM.walkL, PM.muV, PM.mtD, PM.biD, PM.setIx, PM.isOl, PM.isiV, PM.tyD, PM.isiD, PM.nonV, PM.truV, PM.truD, PM.partD, PM.items, PM.isiD, PM.lcFree, PM.wipeE, PM.backE, PM.intsD, PM.strsD, PM.boolsD, PM.keyD, PM.dKey, PM.enumV, PM.zipV, PM.rangeV, lineN_eq]) (by simp [PM.exs, PM.ex, PM.ev, PM.evs, PM.lcStep, PM.evo, PM.evt, PM.evi, PM.getS, PM.see, PM.sees, PM.frD, PM.binD, PM.cmpD, PM.stow, PM.stowAll, PM.asg, PM.asgs, PM.setSl, PM.setAll, PM.handOut, PM.endM, PM.parts, PM.owned, PM.isD, PM.runCall, PM.pks, PM.lend, PM.back, PM.take, PM.takes, PM.walkV, PM.walkL, PM.muV, PM.mtD, PM.biD, PM.setIx, PM.isOl, PM.isiV, PM.tyD, PM.isiD, PM.nonV, PM.truV, PM.truD, PM.partD, PM.items, PM.isiD, PM.lcFree, PM.wipeE, PM.backE, PM.intsD, PM.strsD, PM.boolsD, PM.keyD, PM.dKey, PM.enumV, PM.zipV, PM.rangeV]) (fun x hx => by
        simp [PM.exs, PM.ex, PM.ev, PM.evs, PM.lcStep, PM.evo, PM.evt, PM.evi, PM.getS, PM.see, PM.sees, PM.frD, PM.binD, PM.cmpD, PM.stow, PM.stowAll, PM.asg, PM.asgs, PM.setSl, PM.setAll, PM.handOut, PM.endM, PM.parts, PM.owned, PM.isD, PM.runCall, PM.pks, PM.lend, PM.back, PM.take, PM.takes, PM.walkV, PM.walkL, PM.muV, PM.mtD, PM.biD, PM.setIx, PM.isOl, PM.isiV, PM.tyD, PM.isiD, PM.nonV, PM.truV, PM.truD, PM.partD, PM.items, PM.isiD, PM.lcFree, PM.wipeE, PM.backE, PM.intsD, PM.strsD, PM.boolsD, PM.keyD, PM.dKey, PM.enumV, PM.zipV, PM.rangeV, cx, call_is_name k x (hf x hx)]) (by rw [lineN_eq]; omega)
theorem strsD_names : ∀ (xs : List D), xs.all isName = true → ∃ ss, strsD xs = some ss ∧ ss.length = xs.length
  | [], _ => ⟨[], rfl, rfl⟩
  | x :: r, h => by
    rw [List.all_cons, Bool.and_eq_true] at h
    obtain ⟨ss, h1, h2⟩ := strsD_names r h.2
    cases x <;> simp [PM.exs, PM.ex, PM.ev, PM.evs, PM.lcStep, PM.evo, PM.evt, PM.evi, PM.getS, PM.see, PM.sees, PM.frD, PM.binD, PM.cmpD, PM.stow, PM.stowAll, PM.asg, PM.asgs, PM.setSl, PM.setAll, PM.handOut, PM.endM, PM.parts, PM.owned, PM.isD, PM.runCall, PM.pks, PM.lend, PM.back, PM.take, PM.takes, PM.walkV, PM.walkL, PM.muV, PM.mtD, PM.biD, PM.setIx, PM.isOl, PM.isiV, PM.tyD, PM.isiD, PM.nonV, PM.truV, PM.truD, PM.partD, PM.items, PM.isiD, PM.lcFree, PM.wipeE, PM.backE, PM.intsD, PM.strsD, PM.boolsD, PM.keyD, PM.dKey, PM.enumV, PM.zipV, PM.rangeV, isName] at h
    rename_i z
    exact ⟨z :: ss, by simp [PM.exs, PM.ex, PM.ev, PM.evs, PM.lcStep, PM.evo, PM.evt, PM.evi, PM.getS, PM.see, PM.sees, PM.frD, PM.binD, PM.cmpD, PM.stow, PM.stowAll, PM.asg, PM.asgs, PM.setSl, PM.setAll, PM.handOut, PM.endM, PM.parts, PM.owned, PM.isD, PM.runCall, PM.pks, PM.lend, PM.back, PM.take, PM.takes, PM.walkV, PM.walkL, PM.muV, PM.mtD, PM.biD, PM.setIx, PM.isOl, PM.isiV, PM.tyD, PM.isiD, PM.nonV, PM.truV, PM.truD, PM.partD, PM.items, PM.isiD, PM.lcFree, PM.wipeE, PM.backE, PM.intsD, PM.strsD, PM.boolsD, PM.keyD, PM.dKey, PM.enumV, PM.zipV, PM.rangeV, h1], by simp [PM.exs, PM.ex, PM.ev, PM.evs, PM.lcStep, PM.evo, PM.evt, PM.evi, PM.getS, PM.see, PM.sees, PM.frD, PM.binD, PM.cmpD, PM.stow, PM.stowAll, PM.asg, PM.asgs, PM.setSl, PM.setAll, PM.handOut, PM.endM, PM.parts, PM.owned, PM.isD, PM.runCall, PM.pks, PM.lend, PM.back, PM.take, PM.takes, PM.walkV, PM.walkL, PM.muV, PM.mtD, PM.biD, PM.setIx, PM.isOl, PM.isiV, PM.tyD, PM.isiD, PM.nonV, PM.truV, PM.truD, PM.partD, PM.items, PM.isiD, PM.lcFree, PM.wipeE, PM.backE, PM.intsD, PM.strsD, PM.boolsD, PM.keyD, PM.dKey, PM.enumV, PM.zipV, PM.rangeV, h2]⟩
theorem call_is_names (k : Nat) (x : D) (hx : FitN x) : callM T.prog (k + 2) 1 [.d x] = .ok (.d (.bool (isNames x))) [.d x] := by
  rw [go1 (fd := d_is_names.d) rfl ⟨rfl, by decide⟩]
  cases x with
  | tuple xs =>
    by_cases h1 : xs.length ≤ 8
    · have e1 : ¬ (8 : Int) < (xs.length : Int) := by omega
      have L := names_ev k (cx (k + 1) [owned (.d (.tuple xs))]) rfl xs hx h1
      have B := ev_allB L
      rw [show d_is_names.d.mb = mb_is_names from rfl, mb_is_names]
      cases q : xs.all isName with
      | false =>
        have e2 : isNames (.tuple xs) = false := by simp [PM.exs, PM.ex, PM.ev, PM.evs, PM.lcStep, PM.evo, PM.evt, PM.evi, PM.getS, PM.see, PM.sees, PM.frD, PM.binD, PM.cmpD, PM.stow, PM.stowAll, PM.asg, PM.asgs, PM.setSl, PM.setAll, PM.handOut, PM.endM, PM.parts, PM.owned, PM.isD, PM.runCall, PM.pks, PM.lend, PM.back, PM.take, PM.takes, PM.walkV, PM.walkL, PM.muV, PM.mtD, PM.biD, PM.setIx, PM.isOl, PM.isiV, PM.tyD, PM.isiD, PM.nonV, PM.truV, PM.truD, PM.partD, PM.items, PM.isiD, PM.lcFree, PM.wipeE, PM.backE, PM.intsD, PM.strsD, PM.boolsD, PM.keyD, PM.dKey, PM.enumV, PM.zipV, PM.rangeV, isNames, q]
        rw [e2, exs_ret (v := .d (.bool false)) (e1 := [some (.d (.tuple xs)), none])]
        · simp [PM.exs, PM.ex, PM.ev, PM.evs, PM.lcStep, PM.evo, PM.evt, PM.evi, PM.getS, PM.see, PM.sees, PM.frD, PM.binD, PM.cmpD, PM.stow, PM.stowAll, PM.asg, PM.asgs, PM.setSl, PM.setAll, PM.handOut, PM.endM, PM.parts, PM.owned, PM.isD, PM.runCall, PM.pks, PM.lend, PM.back, PM.take, PM.takes, PM.walkV, PM.walkL, PM.muV, PM.mtD, PM.biD, PM.setIx, PM.isOl, PM.isiV, PM.tyD, PM.isiD, PM.nonV, PM.truV, PM.truD, PM.partD, PM.items, PM.isiD, PM.lcFree, PM.wipeE, PM.backE, PM.intsD, PM.strsD, PM.boolsD, PM.keyD, PM.dKey, PM.enumV, PM.zipV, PM.rangeV]
        · rw [show (List.replicate (d_is_names.d.n - 1) (none : Option Val)) = [none] from rfl]
          rw [ex_if (k := true) (e1 := [some (.d (.tuple xs)), none])]
          · simp [PM.exs, PM.ex, PM.ev, PM.evs, PM.lcStep, PM.evo, PM.evt, PM.evi, PM.getS, PM.see, PM.sees, PM.frD, PM.binD, PM.cmpD, PM.stow, PM.stowAll, PM.asg, PM.asgs, PM.setSl, PM.setAll, PM.handOut, PM.endM, PM.parts, PM.owned, PM.isD, PM.runCall, PM.pks, PM.lend, PM.back, PM.take, PM.takes, PM.walkV, PM.walkL, PM.muV, PM.mtD, PM.biD, PM.setIx, PM.isOl, PM.isiV, PM.tyD, PM.isiD, PM.nonV, PM.truV, PM.truD, PM.partD, PM.items, PM.isiD, PM.lcFree, PM.wipeE, PM.backE, PM.intsD, PM.strsD, PM.boolsD, PM.keyD, PM.dKey, PM.enumV, PM.zipV, PM.rangeV]
          · rw [ev_or_f (e1 := [some (.d (.tuple xs)), none]) (by simp [PM.exs, PM.ex, PM.ev, PM.evs, PM.lcStep, PM.evo, PM.evt, PM.evi, PM.getS, PM.see, PM.sees, PM.frD, PM.binD, PM.cmpD, PM.stow, PM.stowAll, PM.asg, PM.asgs, PM.setSl, PM.setAll, PM.handOut, PM.endM, PM.parts, PM.owned, PM.isD, PM.runCall, PM.pks, PM.lend, PM.back, PM.take, PM.takes, PM.walkV, PM.walkL, PM.muV, PM.mtD, PM.biD, PM.setIx, PM.isOl, PM.isiV, PM.tyD, PM.isiD, PM.nonV, PM.truV, PM.truD, PM.partD, PM.items, PM.isiD, PM.lcFree, PM.wipeE, PM.backE, PM.intsD, PM.strsD, PM.boolsD, PM.keyD, PM.dKey, PM.enumV, PM.zipV, PM.rangeV]), ev_or_f (e1 := [some (.d (.tuple xs)), none]) (by simp [PM.exs, PM.ex, PM.ev, PM.evs, PM.lcStep, PM.evo, PM.evt, PM.evi, PM.getS, PM.see, PM.sees, PM.frD, PM.binD, PM.cmpD, PM.stow, PM.stowAll, PM.asg, PM.asgs, PM.setSl, PM.setAll, PM.handOut, PM.endM, PM.parts, PM.owned, PM.isD, PM.runCall, PM.pks, PM.lend, PM.back, PM.take, PM.takes, PM.walkV, PM.walkL, PM.muV, PM.mtD, PM.biD, PM.setIx, PM.isOl, PM.isiV, PM.tyD, PM.isiD, PM.nonV, PM.truV, PM.truD, PM.partD, PM.items, PM.isiD, PM.lcFree, PM.wipeE, PM.backE, PM.intsD, PM.strsD, PM.boolsD, PM.keyD, PM.dKey, PM.enumV, PM.zipV, PM.rangeV, e1]), ev_not (k := false) (e1 := [some (.d (.tuple xs)), none])]
            · rfl
            · rw [B, q]
      | true =>
        obtain ⟨ss, s1, s2⟩ := strsD_names xs q
        have e2 : isNames (.tuple xs) = decide ((dedS ss).length = xs.length) := by simp [PM.exs, PM.ex, PM.ev, PM.evs, PM.lcStep, PM.evo, PM.evt, PM.evi, PM.getS, PM.see, PM.sees, PM.frD, PM.binD, PM.cmpD, PM.stow, PM.stowAll, PM.asg, PM.asgs, PM.setSl, PM.setAll, PM.handOut, PM.endM, PM.parts, PM.owned, PM.isD, PM.runCall, PM.pks, PM.lend, PM.back, PM.take, PM.takes, PM.walkV, PM.walkL, PM.muV, PM.mtD, PM.biD, PM.setIx, PM.isOl, PM.isiV, PM.tyD, PM.isiD, PM.nonV, PM.truV, PM.truD, PM.partD, PM.items, PM.isiD, PM.lcFree, PM.wipeE, PM.backE, PM.intsD, PM.strsD, PM.boolsD, PM.keyD, PM.dKey, PM.enumV, PM.zipV, PM.rangeV, isNames, q, h1, s1]
        have e3 : ss.length < 1000 := by omega
        rw [e2, exs_nx (e1 := [some (.d (.tuple xs)), none])]
        · simp [PM.exs, PM.ex, PM.ev, PM.evs, PM.lcStep, PM.evo, PM.evt, PM.evi, PM.getS, PM.see, PM.sees, PM.frD, PM.binD, PM.cmpD, PM.stow, PM.stowAll, PM.asg, PM.asgs, PM.setSl, PM.setAll, PM.handOut, PM.endM, PM.parts, PM.owned, PM.isD, PM.runCall, PM.pks, PM.lend, PM.back, PM.take, PM.takes, PM.walkV, PM.walkL, PM.muV, PM.mtD, PM.biD, PM.setIx, PM.isOl, PM.isiV, PM.tyD, PM.isiD, PM.nonV, PM.truV, PM.truD, PM.partD, PM.items, PM.isiD, PM.lcFree, PM.wipeE, PM.backE, PM.intsD, PM.strsD, PM.boolsD, PM.keyD, PM.dKey, PM.enumV, PM.zipV, PM.rangeV, s1, e3, Int.natCast_inj]
        · rw [show (List.replicate (d_is_names.d.n - 1) (none : Option Val)) = [none] from rfl]
          rw [ex_if (k := false) (e1 := [some (.d (.tuple xs)), none])]
          · simp [PM.exs, PM.ex, PM.ev, PM.evs, PM.lcStep, PM.evo, PM.evt, PM.evi, PM.getS, PM.see, PM.sees, PM.frD, PM.binD, PM.cmpD, PM.stow, PM.stowAll, PM.asg, PM.asgs, PM.setSl, PM.setAll, PM.handOut, PM.endM, PM.parts, PM.owned, PM.isD, PM.runCall, PM.pks, PM.lend, PM.back, PM.take, PM.takes, PM.walkV, PM.walkL, PM.muV, PM.mtD, PM.biD, PM.setIx, PM.isOl, PM.isiV, PM.tyD, PM.isiD, PM.nonV, PM.truV, PM.truD, PM.partD, PM.items, PM.isiD, PM.lcFree, PM.wipeE, PM.backE, PM.intsD, PM.strsD, PM.boolsD, PM.keyD, PM.dKey, PM.enumV, PM.zipV, PM.rangeV]
          · rw [ev_or_f (e1 := [some (.d (.tuple xs)), none]) (by simp [PM.exs, PM.ex, PM.ev, PM.evs, PM.lcStep, PM.evo, PM.evt, PM.evi, PM.getS, PM.see, PM.sees, PM.frD, PM.binD, PM.cmpD, PM.stow, PM.stowAll, PM.asg, PM.asgs, PM.setSl, PM.setAll, PM.handOut, PM.endM, PM.parts, PM.owned, PM.isD, PM.runCall, PM.pks, PM.lend, PM.back, PM.take, PM.takes, PM.walkV, PM.walkL, PM.muV, PM.mtD, PM.biD, PM.setIx, PM.isOl, PM.isiV, PM.tyD, PM.isiD, PM.nonV, PM.truV, PM.truD, PM.partD, PM.items, PM.isiD, PM.lcFree, PM.wipeE, PM.backE, PM.intsD, PM.strsD, PM.boolsD, PM.keyD, PM.dKey, PM.enumV, PM.zipV, PM.rangeV]), ev_or_f (e1 := [some (.d (.tuple xs)), none]) (by simp [PM.exs, PM.ex, PM.ev, PM.evs, PM.lcStep, PM.evo, PM.evt, PM.evi, PM.getS, PM.see, PM.sees, PM.frD, PM.binD, PM.cmpD, PM.stow, PM.stowAll, PM.asg, PM.asgs, PM.setSl, PM.setAll, PM.handOut, PM.endM, PM.parts, PM.owned, PM.isD, PM.runCall, PM.pks, PM.lend, PM.back, PM.take, PM.takes, PM.walkV, PM.walkL, PM.muV, PM.mtD, PM.biD, PM.setIx, PM.isOl, PM.isiV, PM.tyD, PM.isiD, PM.nonV, PM.truV, PM.truD, PM.partD, PM.items, PM.isiD, PM.lcFree, PM.wipeE, PM.backE, PM.intsD, PM.strsD, PM.boolsD, PM.keyD, PM.dKey, PM.enumV, PM.zipV, PM.rangeV, e1]), ev_not (k := true) (e1 := [some (.d (.tuple xs)), none])]
            · rfl
            · rw [B, q]
    · have e1 : (8 : Int) < (xs.length : Int) := by omega
      have e2 : isNames (.tuple xs) = false := by simp [PM.exs, PM.ex, PM.ev, PM.evs, PM.lcStep, PM.evo, PM.evt, PM.evi, PM.getS, PM.see, PM.sees, PM.frD, PM.binD, PM.cmpD, PM.stow, PM.stowAll, PM.asg, PM.asgs, PM.setSl, PM.setAll, PM.handOut, PM.endM, PM.parts, PM.owned, PM.isD, PM.runCall, PM.pks, PM.lend, PM.back, PM.take, PM.takes, PM.walkV, PM.walkL, PM.muV, PM.mtD, PM.biD, PM.setIx, PM.isOl, PM.isiV, PM.tyD, PM.isiD, PM.nonV, PM.truV, PM.truD, PM.partD, PM.items, PM.isiD, PM.lcFree, PM.wipeE, PM.backE, PM.intsD, PM.strsD, PM.boolsD, PM.keyD, PM.dKey, PM.enumV, PM.zipV, PM.rangeV, isNames, h1]
      simp [PM.exs, PM.ex, PM.ev, PM.evs, PM.lcStep, PM.evo, PM.evt, PM.evi, PM.getS, PM.see, PM.sees, PM.frD, PM.binD, PM.cmpD, PM.stow, PM.stowAll, PM.asg, PM.asgs, PM.setSl, PM.setAll, PM.handOut, PM.endM, PM.parts, PM.owned, PM.isD, PM.runCall, PM.pks, PM.lend, PM.back, PM.take, PM.takes, PM.walkV, PM.walkL, PM.muV, PM.mtD, PM.biD, PM.setIx, PM.isOl, PM.isiV, PM.tyD, PM.isiD, PM.nonV, PM.truV, PM.truD, PM.partD, PM.items, PM.isiD, PM.lcFree, PM.wipeE, PM.backE, PM.intsD, PM.strsD, PM.boolsD, PM.keyD, PM.dKey, PM.enumV, PM.zipV, PM.rangeV, d_is_names, mb_is_names, e1, e2]
  | _ => simp [PM.exs, PM.ex, PM.ev, PM.evs, PM.lcStep, PM.evo, PM.evt, PM.evi, PM.getS, PM.see, PM.sees, PM.frD, PM.binD, PM.cmpD, PM.stow, PM.stowAll, PM.asg, PM.asgs, PM.setSl, PM.setAll, PM.handOut, PM.endM, PM.parts, PM.owned, PM.isD, PM.runCall, PM.pks, PM.lend, PM.back, PM.take, PM.takes, PM.walkV, PM.walkL, PM.muV, PM.mtD, PM.biD, PM.setIx, PM.isOl, PM.isiV, PM.tyD, PM.isiD, PM.nonV, PM.truV, PM.truD, PM.partD, PM.items, PM.isiD, PM.lcFree, PM.wipeE, PM.backE, PM.intsD, PM.strsD, PM.boolsD, PM.keyD, PM.dKey, PM.enumV, PM.zipV, PM.rangeV, d_is_names, mb_is_names, isNames]
@[simp] theorem flds0 (x : Str) : T.prog.flds x = [] := rfl
theorem call_need_name (k : Nat) (x : D) (hx : Fit x) : callM T.prog (k + 2) 2 [.d x] = if isName x then .ok (.d .none) [.d x] else .ex ⟨"BadName", []⟩ [.d x] := by
  rw [go1 (fd := d_need_name.d) rfl ⟨rfl, by decide⟩]
  cases q : isName x <;> simp [PM.exs, PM.ex, PM.ev, PM.evs, PM.lcStep, PM.evo, PM.evt, PM.evi, PM.getS, PM.see, PM.sees, PM.frD, PM.binD, PM.cmpD, PM.stow, PM.stowAll, PM.asg, PM.asgs, PM.setSl, PM.setAll, PM.handOut, PM.endM, PM.parts, PM.owned, PM.isD, PM.runCall, PM.pks, PM.lend, PM.back, PM.take, PM.takes, PM.walkV, PM.walkL, PM.muV, PM.mtD, PM.biD, PM.setIx, PM.isOl, PM.isiV, PM.tyD, PM.isiD, PM.nonV, PM.truV, PM.truD, PM.partD, PM.items, PM.isiD, PM.lcFree, PM.wipeE, PM.backE, PM.intsD, PM.strsD, PM.boolsD, PM.keyD, PM.dKey, PM.enumV, PM.zipV, PM.rangeV, d_need_name, mb_need_name, cx, call_is_name k x hx, q, lineN_eq, excOf]
theorem call_need_names (k : Nat) (x : D) (hx : FitN x) : callM T.prog (k + 3) 3 [.d x] = if isNames x then .ok (.d .none) [.d x] else .ex ⟨"BadNames", []⟩ [.d x] := by
  rw [go1 (fd := d_need_names.d) rfl ⟨rfl, by decide⟩]
  cases q : isNames x <;> simp [PM.exs, PM.ex, PM.ev, PM.evs, PM.lcStep, PM.evo, PM.evt, PM.evi, PM.getS, PM.see, PM.sees, PM.frD, PM.binD, PM.cmpD, PM.stow, PM.stowAll, PM.asg, PM.asgs, PM.setSl, PM.setAll, PM.handOut, PM.endM, PM.parts, PM.owned, PM.isD, PM.runCall, PM.pks, PM.lend, PM.back, PM.take, PM.takes, PM.walkV, PM.walkL, PM.muV, PM.mtD, PM.biD, PM.setIx, PM.isOl, PM.isiV, PM.tyD, PM.isiD, PM.nonV, PM.truV, PM.truD, PM.partD, PM.items, PM.isiD, PM.lcFree, PM.wipeE, PM.backE, PM.intsD, PM.strsD, PM.boolsD, PM.keyD, PM.dKey, PM.enumV, PM.zipV, PM.rangeV, d_need_names, mb_need_names, cx, call_is_names k x hx, q, lineN_eq, excOf]
end Lk01
end

section
set_option Elab.async false
set_option linter.all false
set_option maxRecDepth 100000
set_option maxHeartbeats 2000000
namespace Lk01
open PySem PM
theorem call_word_name (k : Nat) : callM T.prog (k + 1) 8 [.ex "BadName" []] = .ok (.d (.str "name")) [.ex "BadName" []] := by
  kernel_rfl
theorem call_word_names (k : Nat) : callM T.prog (k + 1) 8 [.ex "BadNames" []] = .ok (.d (.str "names")) [.ex "BadNames" []] := by
  kernel_rfl
theorem call_said0 (k : Nat) (x : D) (hx : Fit x) : callM T.prog (k + 3) 9 [.d (.int 0), .d x] = .ok (.d (.str (if isName x then "good" else "name"))) [.d (.int 0), .d x] := by
  rw [go2 (fd := d__law_said.d) rfl ⟨rfl, by decide⟩]
  have A := call_need_name k x hx
  have W := call_word_name (k + 1)
  have S : T.prog.sub (Str.ofString "BadName") (Str.ofString "ReadyError") = true := by kernel_rfl
  cases q : isName x <;> simp [PM.exs, PM.ex, PM.ev, PM.evs, PM.lcStep, PM.evo, PM.evt, PM.evi, PM.getS, PM.see, PM.sees, PM.frD, PM.binD, PM.cmpD, PM.stow, PM.stowAll, PM.asg, PM.asgs, PM.setSl, PM.setAll, PM.handOut, PM.endM, PM.parts, PM.owned, PM.isD, PM.runCall, PM.pks, PM.lend, PM.back, PM.take, PM.takes, PM.walkV, PM.walkL, PM.muV, PM.mtD, PM.biD, PM.setIx, PM.isOl, PM.isiV, PM.tyD, PM.isiD, PM.nonV, PM.truV, PM.truD, PM.partD, PM.items, PM.isiD, PM.lcFree, PM.wipeE, PM.backE, PM.intsD, PM.strsD, PM.boolsD, PM.keyD, PM.dKey, PM.enumV, PM.zipV, PM.rangeV, q] at A <;> simp [PM.exs, PM.ex, PM.ev, PM.evs, PM.lcStep, PM.evo, PM.evt, PM.evi, PM.getS, PM.see, PM.sees, PM.frD, PM.binD, PM.cmpD, PM.stow, PM.stowAll, PM.asg, PM.asgs, PM.setSl, PM.setAll, PM.handOut, PM.endM, PM.parts, PM.owned, PM.isD, PM.runCall, PM.pks, PM.lend, PM.back, PM.take, PM.takes, PM.walkV, PM.walkL, PM.muV, PM.mtD, PM.biD, PM.setIx, PM.isOl, PM.isiV, PM.tyD, PM.isiD, PM.nonV, PM.truV, PM.truD, PM.partD, PM.items, PM.isiD, PM.lcFree, PM.wipeE, PM.backE, PM.intsD, PM.strsD, PM.boolsD, PM.keyD, PM.dKey, PM.enumV, PM.zipV, PM.rangeV, d__law_said, mb__law_said, cx, A, W, S]
theorem call_said1 (k : Nat) (x : D) (hx : FitN x) : callM T.prog (k + 4) 9 [.d (.int 1), .d x] = .ok (.d (.str (if isNames x then "good" else "names"))) [.d (.int 1), .d x] := by
  rw [go2 (fd := d__law_said.d) rfl ⟨rfl, by decide⟩]
  have A := call_need_names k x hx
  have W := call_word_names (k + 2)
  have S : T.prog.sub (Str.ofString "BadNames") (Str.ofString "ReadyError") = true := by kernel_rfl
  cases q : isNames x <;> simp [PM.exs, PM.ex, PM.ev, PM.evs, PM.lcStep, PM.evo, PM.evt, PM.evi, PM.getS, PM.see, PM.sees, PM.frD, PM.binD, PM.cmpD, PM.stow, PM.stowAll, PM.asg, PM.asgs, PM.setSl, PM.setAll, PM.handOut, PM.endM, PM.parts, PM.owned, PM.isD, PM.runCall, PM.pks, PM.lend, PM.back, PM.take, PM.takes, PM.walkV, PM.walkL, PM.muV, PM.mtD, PM.biD, PM.setIx, PM.isOl, PM.isiV, PM.tyD, PM.isiD, PM.nonV, PM.truV, PM.truD, PM.partD, PM.items, PM.isiD, PM.lcFree, PM.wipeE, PM.backE, PM.intsD, PM.strsD, PM.boolsD, PM.keyD, PM.dKey, PM.enumV, PM.zipV, PM.rangeV, q] at A <;> simp [PM.exs, PM.ex, PM.ev, PM.evs, PM.lcStep, PM.evo, PM.evt, PM.evi, PM.getS, PM.see, PM.sees, PM.frD, PM.binD, PM.cmpD, PM.stow, PM.stowAll, PM.asg, PM.asgs, PM.setSl, PM.setAll, PM.handOut, PM.endM, PM.parts, PM.owned, PM.isD, PM.runCall, PM.pks, PM.lend, PM.back, PM.take, PM.takes, PM.walkV, PM.walkL, PM.muV, PM.mtD, PM.biD, PM.setIx, PM.isOl, PM.isiV, PM.tyD, PM.isiD, PM.nonV, PM.truV, PM.truD, PM.partD, PM.items, PM.isiD, PM.lcFree, PM.wipeE, PM.backE, PM.intsD, PM.strsD, PM.boolsD, PM.keyD, PM.dKey, PM.enumV, PM.zipV, PM.rangeV, d__law_said, mb__law_said, cx, A, W, S]
end Lk01
end

section
set_option Elab.async false
set_option linter.all false
set_option maxRecDepth 100000
set_option maxHeartbeats 2000000
namespace Lk01
open PySem PM
/-! names as lists of signs -/
def W (l : List Nat) : Str := ⟨l.toArray⟩
abbrev nmD (l : List Nat) : D := .str (W l)
@[simp] theorem W_app (a b : List Nat) : W a ++ W b = W (a ++ b) := by
  show Str.mk _ = Str.mk _
  simp [PM.exs, PM.ex, PM.ev, PM.evs, PM.lcStep, PM.evo, PM.evt, PM.evi, PM.getS, PM.see, PM.sees, PM.frD, PM.binD, PM.cmpD, PM.stow, PM.stowAll, PM.asg, PM.asgs, PM.setSl, PM.setAll, PM.handOut, PM.endM, PM.parts, PM.owned, PM.isD, PM.runCall, PM.pks, PM.lend, PM.back, PM.take, PM.takes, PM.walkV, PM.walkL, PM.muV, PM.mtD, PM.biD, PM.setIx, PM.isOl, PM.isiV, PM.tyD, PM.isiD, PM.nonV, PM.truV, PM.truD, PM.partD, PM.items, PM.isiD, PM.lcFree, PM.wipeE, PM.backE, PM.intsD, PM.strsD, PM.boolsD, PM.keyD, PM.dKey, PM.enumV, PM.zipV, PM.rangeV, W]
@[simp] theorem W_len (l : List Nat) : (W l).length = l.length := by simp [PM.exs, PM.ex, PM.ev, PM.evs, PM.lcStep, PM.evo, PM.evt, PM.evi, PM.getS, PM.see, PM.sees, PM.frD, PM.binD, PM.cmpD, PM.stow, PM.stowAll, PM.asg, PM.asgs, PM.setSl, PM.setAll, PM.handOut, PM.endM, PM.parts, PM.owned, PM.isD, PM.runCall, PM.pks, PM.lend, PM.back, PM.take, PM.takes, PM.walkV, PM.walkL, PM.muV, PM.mtD, PM.biD, PM.setIx, PM.isOl, PM.isiV, PM.tyD, PM.isiD, PM.nonV, PM.truV, PM.truD, PM.partD, PM.items, PM.isiD, PM.lcFree, PM.wipeE, PM.backE, PM.intsD, PM.strsD, PM.boolsD, PM.keyD, PM.dKey, PM.enumV, PM.zipV, PM.rangeV, W, Str.length]
@[simp] theorem W_cps (l : List Nat) : (W l).cps.toList = l := by simp [PM.exs, PM.ex, PM.ev, PM.evs, PM.lcStep, PM.evo, PM.evt, PM.evi, PM.getS, PM.see, PM.sees, PM.frD, PM.binD, PM.cmpD, PM.stow, PM.stowAll, PM.asg, PM.asgs, PM.setSl, PM.setAll, PM.handOut, PM.endM, PM.parts, PM.owned, PM.isD, PM.runCall, PM.pks, PM.lend, PM.back, PM.take, PM.takes, PM.walkV, PM.walkL, PM.muV, PM.mtD, PM.biD, PM.setIx, PM.isOl, PM.isiV, PM.tyD, PM.isiD, PM.nonV, PM.truV, PM.truD, PM.partD, PM.items, PM.isiD, PM.lcFree, PM.wipeE, PM.backE, PM.intsD, PM.strsD, PM.boolsD, PM.keyD, PM.dKey, PM.enumV, PM.zipV, PM.rangeV, W]
theorem W_inj {a b : List Nat} (h : W a = W b) : a = b := by
  have := congrArg (fun z : Str => z.cps.toList) h
  simpa [PM.exs, PM.ex, PM.ev, PM.evs, PM.lcStep, PM.evo, PM.evt, PM.evi, PM.getS, PM.see, PM.sees, PM.frD, PM.binD, PM.cmpD, PM.stow, PM.stowAll, PM.asg, PM.asgs, PM.setSl, PM.setAll, PM.handOut, PM.endM, PM.parts, PM.owned, PM.isD, PM.runCall, PM.pks, PM.lend, PM.back, PM.take, PM.takes, PM.walkV, PM.walkL, PM.muV, PM.mtD, PM.biD, PM.setIx, PM.isOl, PM.isiV, PM.tyD, PM.isiD, PM.nonV, PM.truV, PM.truD, PM.partD, PM.items, PM.isiD, PM.lcFree, PM.wipeE, PM.backE, PM.intsD, PM.strsD, PM.boolsD, PM.keyD, PM.dKey, PM.enumV, PM.zipV, PM.rangeV] using this
theorem LETl : LET.cps.toList = List.range' 97 26 := by decide +kernel
theorem letD (i : Int) (h0 : 0 ≤ i) (h1 : i < 26) : idxD (.str (Str.ofString "abcdefghijklmnopqrstuvwxyz")) (.int i) = some (nmD [i.toNat + 97]) := by
  show (if LET.length ≤ lineN then (L2.atI LET.cps.toList i).map fun c => PyData.str ⟨#[c]⟩ else none) = _
  rw [if_pos (by rw [lineN_eq]; decide +kernel), LETl]
  unfold L2.atI L2.ixN
  rw [if_pos h0, List.length_range', if_pos (by omega)]
  simp [PM.exs, PM.ex, PM.ev, PM.evs, PM.lcStep, PM.evo, PM.evt, PM.evi, PM.getS, PM.see, PM.sees, PM.frD, PM.binD, PM.cmpD, PM.stow, PM.stowAll, PM.asg, PM.asgs, PM.setSl, PM.setAll, PM.handOut, PM.endM, PM.parts, PM.owned, PM.isD, PM.runCall, PM.pks, PM.lend, PM.back, PM.take, PM.takes, PM.walkV, PM.walkL, PM.muV, PM.mtD, PM.biD, PM.setIx, PM.isOl, PM.isiV, PM.tyD, PM.isiD, PM.nonV, PM.truV, PM.truD, PM.partD, PM.items, PM.isiD, PM.lcFree, PM.wipeE, PM.backE, PM.intsD, PM.strsD, PM.boolsD, PM.keyD, PM.dKey, PM.enumV, PM.zipV, PM.rangeV]
  refine ⟨97 + i.toNat, ?_, ?_⟩
  · rw [List.getElem?_range' (by omega)]; simp [PM.exs, PM.ex, PM.ev, PM.evs, PM.lcStep, PM.evo, PM.evt, PM.evi, PM.getS, PM.see, PM.sees, PM.frD, PM.binD, PM.cmpD, PM.stow, PM.stowAll, PM.asg, PM.asgs, PM.setSl, PM.setAll, PM.handOut, PM.endM, PM.parts, PM.owned, PM.isD, PM.runCall, PM.pks, PM.lend, PM.back, PM.take, PM.takes, PM.walkV, PM.walkL, PM.muV, PM.mtD, PM.biD, PM.setIx, PM.isOl, PM.isiV, PM.tyD, PM.isiD, PM.nonV, PM.truV, PM.truD, PM.partD, PM.items, PM.isiD, PM.lcFree, PM.wipeE, PM.backE, PM.intsD, PM.strsD, PM.boolsD, PM.keyD, PM.dKey, PM.enumV, PM.zipV, PM.rangeV]
  · simp [PM.exs, PM.ex, PM.ev, PM.evs, PM.lcStep, PM.evo, PM.evt, PM.evi, PM.getS, PM.see, PM.sees, PM.frD, PM.binD, PM.cmpD, PM.stow, PM.stowAll, PM.asg, PM.asgs, PM.setSl, PM.setAll, PM.handOut, PM.endM, PM.parts, PM.owned, PM.isD, PM.runCall, PM.pks, PM.lend, PM.back, PM.take, PM.takes, PM.walkV, PM.walkL, PM.muV, PM.mtD, PM.biD, PM.setIx, PM.isOl, PM.isiV, PM.tyD, PM.isiD, PM.nonV, PM.truV, PM.truD, PM.partD, PM.items, PM.isiD, PM.lcFree, PM.wipeE, PM.backE, PM.intsD, PM.strsD, PM.boolsD, PM.keyD, PM.dKey, PM.enumV, PM.zipV, PM.rangeV, W]; omega
def Valid (l : List Nat) : Prop := 1 ≤ l.length ∧ l.length ≤ 6 ∧ ∀ n ∈ l, 97 ≤ n ∧ n < 123
theorem isName_nm (l : List Nat) : isName (nmD l) = true ↔ Valid l := by
  simp only [isName, W_len, W_cps, Bool.and_eq_true, decide_eq_true_eq, List.all_eq_true, Valid, LETl, List.mem_range'_1]
  constructor
  · rintro ⟨⟨a, b⟩, c⟩
    exact ⟨a, b, fun n h => by have := c n h; omega⟩
  · rintro ⟨a, b, c⟩
    exact ⟨⟨a, b⟩, fun n h => by have := c n h; omega⟩
structure Inv (c : Nat → Nat) (k : Nat) (ls : List (List Nat)) : Prop where
  len : ls.length = k
  ok : ∀ l ∈ ls, Valid l
  nd : ls.Nodup
  hd : ∀ l ∈ ls, ∃ j, j < k ∧ l.head? = some (c j)
  lg : ∀ z, ls.getLast? = some z → ∀ l ∈ ls, l.head? = z.head? → l.length ≤ z.length
theorem Inv.nil (c : Nat → Nat) : Inv c 0 [] where
  len := rfl
  ok := fun _ h => by cases h
  nd := List.nodup_nil
  hd := fun _ h => by cases h
  lg := fun _ _ _ h => by cases h
theorem Inv.fresh {c : Nat → Nat} {k : Nat} {ls : List (List Nat)} (I : Inv c k ls) {w : List Nat} (hv : Valid w) (hh : w.head? = some (c k)) (hc : ∀ j, j < k → c j ≠ c k) : Inv c (k + 1) (ls ++ [w]) where
  len := by simp [PM.exs, PM.ex, PM.ev, PM.evs, PM.lcStep, PM.evo, PM.evt, PM.evi, PM.getS, PM.see, PM.sees, PM.frD, PM.binD, PM.cmpD, PM.stow, PM.stowAll, PM.asg, PM.asgs, PM.setSl, PM.setAll, PM.handOut, PM.endM, PM.parts, PM.owned, PM.isD, PM.runCall, PM.pks, PM.lend, PM.back, PM.take, PM.takes, PM.walkV, PM.walkL, PM.muV, PM.mtD, PM.biD, PM.setIx, PM.isOl, PM.isiV, PM.tyD, PM.isiD, PM.nonV, PM.truV, PM.truD, PM.partD, PM.items, PM.isiD, PM.lcFree, PM.wipeE, PM.backE, PM.intsD, PM.strsD, PM.boolsD, PM.keyD, PM.dKey, PM.enumV, PM.zipV, PM.rangeV, I.len]
  ok := fun l h => by
    rcases List.mem_append.mp h with h | h
    · exact I.ok l h
    · rw [List.mem_singleton.mp h]; exact hv
  nd := by
    refine List.nodup_append.mpr ⟨I.nd, by simp [PM.exs, PM.ex, PM.ev, PM.evs, PM.lcStep, PM.evo, PM.evt, PM.evi, PM.getS, PM.see, PM.sees, PM.frD, PM.binD, PM.cmpD, PM.stow, PM.stowAll, PM.asg, PM.asgs, PM.setSl, PM.setAll, PM.handOut, PM.endM, PM.parts, PM.owned, PM.isD, PM.runCall, PM.pks, PM.lend, PM.back, PM.take, PM.takes, PM.walkV, PM.walkL, PM.muV, PM.mtD, PM.biD, PM.setIx, PM.isOl, PM.isiV, PM.tyD, PM.isiD, PM.nonV, PM.truV, PM.truD, PM.partD, PM.items, PM.isiD, PM.lcFree, PM.wipeE, PM.backE, PM.intsD, PM.strsD, PM.boolsD, PM.keyD, PM.dKey, PM.enumV, PM.zipV, PM.rangeV], fun a ha b hb => ?_⟩
    rw [List.mem_singleton.mp hb]
    intro e
    obtain ⟨j, hj, hj2⟩ := I.hd a ha
    rw [e, hh] at hj2
    exact hc j hj (by injection hj2 with z; exact z.symm)
  hd := fun l h => by
    rcases List.mem_append.mp h with h | h
    · obtain ⟨j, a, b⟩ := I.hd l h
      exact ⟨j, by omega, b⟩
    · rw [List.mem_singleton.mp h]; exact ⟨k, by omega, hh⟩
  lg := fun z hz l h e => by
    have hz : z = w := by simpa [PM.exs, PM.ex, PM.ev, PM.evs, PM.lcStep, PM.evo, PM.evt, PM.evi, PM.getS, PM.see, PM.sees, PM.frD, PM.binD, PM.cmpD, PM.stow, PM.stowAll, PM.asg, PM.asgs, PM.setSl, PM.setAll, PM.handOut, PM.endM, PM.parts, PM.owned, PM.isD, PM.runCall, PM.pks, PM.lend, PM.back, PM.take, PM.takes, PM.walkV, PM.walkL, PM.muV, PM.mtD, PM.biD, PM.setIx, PM.isOl, PM.isiV, PM.tyD, PM.isiD, PM.nonV, PM.truV, PM.truD, PM.partD, PM.items, PM.isiD, PM.lcFree, PM.wipeE, PM.backE, PM.intsD, PM.strsD, PM.boolsD, PM.keyD, PM.dKey, PM.enumV, PM.zipV, PM.rangeV] using hz.symm
    subst hz
    rcases List.mem_append.mp h with h | h
    · obtain ⟨j, hj, hj2⟩ := I.hd l h
      rw [e, hh] at hj2
      exact absurd (by injection hj2 with y; exact y.symm) (hc j hj)
    · rw [List.mem_singleton.mp h]; exact Nat.le_refl _
theorem Inv.more {c : Nat → Nat} {k : Nat} {ls : List (List Nat)} (I : Inv c k ls) {z : List Nat} (hz : ls.getLast? = some z) (hl : z.length < 6) {x : Nat} (hx : 97 ≤ x ∧ x < 123) : Inv c (k + 1) (ls ++ [z ++ [x]]) := by
  have mz : z ∈ ls := List.mem_of_getLast? hz
  have vz := I.ok z mz
  have hh : (z ++ [x]).head? = z.head? := by
    cases z with
    | nil => have := vz.1; simp [PM.exs, PM.ex, PM.ev, PM.evs, PM.lcStep, PM.evo, PM.evt, PM.evi, PM.getS, PM.see, PM.sees, PM.frD, PM.binD, PM.cmpD, PM.stow, PM.stowAll, PM.asg, PM.asgs, PM.setSl, PM.setAll, PM.handOut, PM.endM, PM.parts, PM.owned, PM.isD, PM.runCall, PM.pks, PM.lend, PM.back, PM.take, PM.takes, PM.walkV, PM.walkL, PM.muV, PM.mtD, PM.biD, PM.setIx, PM.isOl, PM.isiV, PM.tyD, PM.isiD, PM.nonV, PM.truV, PM.truD, PM.partD, PM.items, PM.isiD, PM.lcFree, PM.wipeE, PM.backE, PM.intsD, PM.strsD, PM.boolsD, PM.keyD, PM.dKey, PM.enumV, PM.zipV, PM.rangeV] at this
    | cons a r => rfl
  exact {
    len := by simp [PM.exs, PM.ex, PM.ev, PM.evs, PM.lcStep, PM.evo, PM.evt, PM.evi, PM.getS, PM.see, PM.sees, PM.frD, PM.binD, PM.cmpD, PM.stow, PM.stowAll, PM.asg, PM.asgs, PM.setSl, PM.setAll, PM.handOut, PM.endM, PM.parts, PM.owned, PM.isD, PM.runCall, PM.pks, PM.lend, PM.back, PM.take, PM.takes, PM.walkV, PM.walkL, PM.muV, PM.mtD, PM.biD, PM.setIx, PM.isOl, PM.isiV, PM.tyD, PM.isiD, PM.nonV, PM.truV, PM.truD, PM.partD, PM.items, PM.isiD, PM.lcFree, PM.wipeE, PM.backE, PM.intsD, PM.strsD, PM.boolsD, PM.keyD, PM.dKey, PM.enumV, PM.zipV, PM.rangeV, I.len]
    ok := fun l h => by
      rcases List.mem_append.mp h with h | h
      · exact I.ok l h
      · rw [List.mem_singleton.mp h]
        refine ⟨by simp [PM.exs, PM.ex, PM.ev, PM.evs, PM.lcStep, PM.evo, PM.evt, PM.evi, PM.getS, PM.see, PM.sees, PM.frD, PM.binD, PM.cmpD, PM.stow, PM.stowAll, PM.asg, PM.asgs, PM.setSl, PM.setAll, PM.handOut, PM.endM, PM.parts, PM.owned, PM.isD, PM.runCall, PM.pks, PM.lend, PM.back, PM.take, PM.takes, PM.walkV, PM.walkL, PM.muV, PM.mtD, PM.biD, PM.setIx, PM.isOl, PM.isiV, PM.tyD, PM.isiD, PM.nonV, PM.truV, PM.truD, PM.partD, PM.items, PM.isiD, PM.lcFree, PM.wipeE, PM.backE, PM.intsD, PM.strsD, PM.boolsD, PM.keyD, PM.dKey, PM.enumV, PM.zipV, PM.rangeV], by simp [PM.exs, PM.ex, PM.ev, PM.evs, PM.lcStep, PM.evo, PM.evt, PM.evi, PM.getS, PM.see, PM.sees, PM.frD, PM.binD, PM.cmpD, PM.stow, PM.stowAll, PM.asg, PM.asgs, PM.setSl, PM.setAll, PM.handOut, PM.endM, PM.parts, PM.owned, PM.isD, PM.runCall, PM.pks, PM.lend, PM.back, PM.take, PM.takes, PM.walkV, PM.walkL, PM.muV, PM.mtD, PM.biD, PM.setIx, PM.isOl, PM.isiV, PM.tyD, PM.isiD, PM.nonV, PM.truV, PM.truD, PM.partD, PM.items, PM.isiD, PM.lcFree, PM.wipeE, PM.backE, PM.intsD, PM.strsD, PM.boolsD, PM.keyD, PM.dKey, PM.enumV, PM.zipV, PM.rangeV]; omega, fun n hn => ?_⟩
        rcases List.mem_append.mp hn with hn | hn
        · exact vz.2.2 n hn
        · rw [List.mem_singleton.mp hn]; exact hx
    nd := by
      refine List.nodup_append.mpr ⟨I.nd, by simp [PM.exs, PM.ex, PM.ev, PM.evs, PM.lcStep, PM.evo, PM.evt, PM.evi, PM.getS, PM.see, PM.sees, PM.frD, PM.binD, PM.cmpD, PM.stow, PM.stowAll, PM.asg, PM.asgs, PM.setSl, PM.setAll, PM.handOut, PM.endM, PM.parts, PM.owned, PM.isD, PM.runCall, PM.pks, PM.lend, PM.back, PM.take, PM.takes, PM.walkV, PM.walkL, PM.muV, PM.mtD, PM.biD, PM.setIx, PM.isOl, PM.isiV, PM.tyD, PM.isiD, PM.nonV, PM.truV, PM.truD, PM.partD, PM.items, PM.isiD, PM.lcFree, PM.wipeE, PM.backE, PM.intsD, PM.strsD, PM.boolsD, PM.keyD, PM.dKey, PM.enumV, PM.zipV, PM.rangeV], fun a ha b hb => ?_⟩
      rw [List.mem_singleton.mp hb]
      intro e
      subst e
      have := I.lg z hz _ ha hh
      simp [PM.exs, PM.ex, PM.ev, PM.evs, PM.lcStep, PM.evo, PM.evt, PM.evi, PM.getS, PM.see, PM.sees, PM.frD, PM.binD, PM.cmpD, PM.stow, PM.stowAll, PM.asg, PM.asgs, PM.setSl, PM.setAll, PM.handOut, PM.endM, PM.parts, PM.owned, PM.isD, PM.runCall, PM.pks, PM.lend, PM.back, PM.take, PM.takes, PM.walkV, PM.walkL, PM.muV, PM.mtD, PM.biD, PM.setIx, PM.isOl, PM.isiV, PM.tyD, PM.isiD, PM.nonV, PM.truV, PM.truD, PM.partD, PM.items, PM.isiD, PM.lcFree, PM.wipeE, PM.backE, PM.intsD, PM.strsD, PM.boolsD, PM.keyD, PM.dKey, PM.enumV, PM.zipV, PM.rangeV] at this
      omega
    hd := fun l h => by
      rcases List.mem_append.mp h with h | h
      · obtain ⟨j, a, b⟩ := I.hd l h
        exact ⟨j, by omega, b⟩
      · rw [List.mem_singleton.mp h]
        obtain ⟨j, a, b⟩ := I.hd z mz
        exact ⟨j, by omega, by rw [hh]; exact b⟩
    lg := fun y hy l h e => by
      have hy : y = z ++ [x] := by simpa [PM.exs, PM.ex, PM.ev, PM.evs, PM.lcStep, PM.evo, PM.evt, PM.evi, PM.getS, PM.see, PM.sees, PM.frD, PM.binD, PM.cmpD, PM.stow, PM.stowAll, PM.asg, PM.asgs, PM.setSl, PM.setAll, PM.handOut, PM.endM, PM.parts, PM.owned, PM.isD, PM.runCall, PM.pks, PM.lend, PM.back, PM.take, PM.takes, PM.walkV, PM.walkL, PM.muV, PM.mtD, PM.biD, PM.setIx, PM.isOl, PM.isiV, PM.tyD, PM.isiD, PM.nonV, PM.truV, PM.truD, PM.partD, PM.items, PM.isiD, PM.lcFree, PM.wipeE, PM.backE, PM.intsD, PM.strsD, PM.boolsD, PM.keyD, PM.dKey, PM.enumV, PM.zipV, PM.rangeV] using hy.symm
      subst hy
      rcases List.mem_append.mp h with h | h
      · have := I.lg z hz l h (by rw [e, hh])
        simp [PM.exs, PM.ex, PM.ev, PM.evs, PM.lcStep, PM.evo, PM.evt, PM.evi, PM.getS, PM.see, PM.sees, PM.frD, PM.binD, PM.cmpD, PM.stow, PM.stowAll, PM.asg, PM.asgs, PM.setSl, PM.setAll, PM.handOut, PM.endM, PM.parts, PM.owned, PM.isD, PM.runCall, PM.pks, PM.lend, PM.back, PM.take, PM.takes, PM.walkV, PM.walkL, PM.muV, PM.mtD, PM.biD, PM.setIx, PM.isOl, PM.isiV, PM.tyD, PM.isiD, PM.nonV, PM.truV, PM.truD, PM.partD, PM.items, PM.isiD, PM.lcFree, PM.wipeE, PM.backE, PM.intsD, PM.strsD, PM.boolsD, PM.keyD, PM.dKey, PM.enumV, PM.zipV, PM.rangeV]; omega
      · rw [List.mem_singleton.mp h]; exact Nat.le_refl _ }
/-- the first letters are unlike -/
theorem heads (s t : Int) (ht : t = 1 ∨ t = 3 ∨ t = 5 ∨ t = 7 ∨ t = 9 ∨ t = 11 ∨ t = 15 ∨ t = 17) (i j : Nat) (hij : i < j) (hj : j < 9) : ((s + t * i) % 26).toNat + 97 ≠ ((s + t * j) % 26).toNat + 97 := by
  rcases ht with rfl | rfl | rfl | rfl | rfl | rfl | rfl | rfl <;> omega
theorem rangeV_get : ∀ (n : Nat) (lo : Int) (i : Nat) (x : D), (rangeV lo n)[i]? = some x → x = .int (lo + i) ∧ i < n
  | 0, _, _, _, h => by cases h
  | n + 1, lo, 0, x, h => by
    have : PyData.int lo = x := by simpa [PM.exs, PM.ex, PM.ev, PM.evs, PM.lcStep, PM.evo, PM.evt, PM.evi, PM.getS, PM.see, PM.sees, PM.frD, PM.binD, PM.cmpD, PM.stow, PM.stowAll, PM.asg, PM.asgs, PM.setSl, PM.setAll, PM.handOut, PM.endM, PM.parts, PM.owned, PM.isD, PM.runCall, PM.pks, PM.lend, PM.back, PM.take, PM.takes, PM.walkV, PM.walkL, PM.muV, PM.mtD, PM.biD, PM.setIx, PM.isOl, PM.isiV, PM.tyD, PM.isiD, PM.nonV, PM.truV, PM.truD, PM.partD, PM.items, PM.isiD, PM.lcFree, PM.wipeE, PM.backE, PM.intsD, PM.strsD, PM.boolsD, PM.keyD, PM.dKey, PM.enumV, PM.zipV, PM.rangeV, rangeV] using h
    exact ⟨by rw [← this]; simp [PM.exs, PM.ex, PM.ev, PM.evs, PM.lcStep, PM.evo, PM.evt, PM.evi, PM.getS, PM.see, PM.sees, PM.frD, PM.binD, PM.cmpD, PM.stow, PM.stowAll, PM.asg, PM.asgs, PM.setSl, PM.setAll, PM.handOut, PM.endM, PM.parts, PM.owned, PM.isD, PM.runCall, PM.pks, PM.lend, PM.back, PM.take, PM.takes, PM.walkV, PM.walkL, PM.muV, PM.mtD, PM.biD, PM.setIx, PM.isOl, PM.isiV, PM.tyD, PM.isiD, PM.nonV, PM.truV, PM.truD, PM.partD, PM.items, PM.isiD, PM.lcFree, PM.wipeE, PM.backE, PM.intsD, PM.strsD, PM.boolsD, PM.keyD, PM.dKey, PM.enumV, PM.zipV, PM.rangeV], by omega⟩
  | n + 1, lo, i + 1, x, h => by
    obtain ⟨a, b⟩ := rangeV_get n (lo + 1) i x (by simpa [PM.exs, PM.ex, PM.ev, PM.evs, PM.lcStep, PM.evo, PM.evt, PM.evi, PM.getS, PM.see, PM.sees, PM.frD, PM.binD, PM.cmpD, PM.stow, PM.stowAll, PM.asg, PM.asgs, PM.setSl, PM.setAll, PM.handOut, PM.endM, PM.parts, PM.owned, PM.isD, PM.runCall, PM.pks, PM.lend, PM.back, PM.take, PM.takes, PM.walkV, PM.walkL, PM.muV, PM.mtD, PM.biD, PM.setIx, PM.isOl, PM.isiV, PM.tyD, PM.isiD, PM.nonV, PM.truV, PM.truD, PM.partD, PM.items, PM.isiD, PM.lcFree, PM.wipeE, PM.backE, PM.intsD, PM.strsD, PM.boolsD, PM.keyD, PM.dKey, PM.enumV, PM.zipV, PM.rangeV, rangeV] using h)
    exact ⟨by rw [a]; congr 1; push_cast; omega, by omega⟩
theorem rangeV_len : ∀ (n : Nat) (lo : Int), (rangeV lo n).length = n
  | 0, _ => rfl
  | n + 1, lo => by rw [rangeV, List.length_cons, rangeV_len n]
theorem strOk_valid {l : List Nat} (h : Valid l) : PyData.strOk (W l) = true := by
  unfold PyData.strOk
  simp [PM.exs, PM.ex, PM.ev, PM.evs, PM.lcStep, PM.evo, PM.evt, PM.evi, PM.getS, PM.see, PM.sees, PM.frD, PM.binD, PM.cmpD, PM.stow, PM.stowAll, PM.asg, PM.asgs, PM.setSl, PM.setAll, PM.handOut, PM.endM, PM.parts, PM.owned, PM.isD, PM.runCall, PM.pks, PM.lend, PM.back, PM.take, PM.takes, PM.walkV, PM.walkL, PM.muV, PM.mtD, PM.biD, PM.setIx, PM.isOl, PM.isiV, PM.tyD, PM.isiD, PM.nonV, PM.truV, PM.truD, PM.partD, PM.items, PM.isiD, PM.lcFree, PM.wipeE, PM.backE, PM.intsD, PM.strsD, PM.boolsD, PM.keyD, PM.dKey, PM.enumV, PM.zipV, PM.rangeV, W]
  intro n hn
  have := h.2.2 n (by simpa [PM.exs, PM.ex, PM.ev, PM.evs, PM.lcStep, PM.evo, PM.evt, PM.evi, PM.getS, PM.see, PM.sees, PM.frD, PM.binD, PM.cmpD, PM.stow, PM.stowAll, PM.asg, PM.asgs, PM.setSl, PM.setAll, PM.handOut, PM.endM, PM.parts, PM.owned, PM.isD, PM.runCall, PM.pks, PM.lend, PM.back, PM.take, PM.takes, PM.walkV, PM.walkL, PM.muV, PM.mtD, PM.biD, PM.setIx, PM.isOl, PM.isiV, PM.tyD, PM.isiD, PM.nonV, PM.truV, PM.truD, PM.partD, PM.items, PM.isiD, PM.lcFree, PM.wipeE, PM.backE, PM.intsD, PM.strsD, PM.boolsD, PM.keyD, PM.dKey, PM.enumV, PM.zipV, PM.rangeV] using hn)
  omega
theorem lay_names : ∀ {ls : List (List Nat)}, (∀ l ∈ ls, Valid l) → PyData.canLayAll0 (ls.map nmD) = true
  | [], _ => by simp [PM.exs, PM.ex, PM.ev, PM.evs, PM.lcStep, PM.evo, PM.evt, PM.evi, PM.getS, PM.see, PM.sees, PM.frD, PM.binD, PM.cmpD, PM.stow, PM.stowAll, PM.asg, PM.asgs, PM.setSl, PM.setAll, PM.handOut, PM.endM, PM.parts, PM.owned, PM.isD, PM.runCall, PM.pks, PM.lend, PM.back, PM.take, PM.takes, PM.walkV, PM.walkL, PM.muV, PM.mtD, PM.biD, PM.setIx, PM.isOl, PM.isiV, PM.tyD, PM.isiD, PM.nonV, PM.truV, PM.truD, PM.partD, PM.items, PM.isiD, PM.lcFree, PM.wipeE, PM.backE, PM.intsD, PM.strsD, PM.boolsD, PM.keyD, PM.dKey, PM.enumV, PM.zipV, PM.rangeV, PyData.canLayAll0]
  | l :: r, h => by
    rw [List.map_cons]
    simp only [PyData.canLayAll0, PyData.canLay0, Bool.and_eq_true]
    exact ⟨strOk_valid (h l List.mem_cons_self), lay_names fun x m => h x (List.mem_cons_of_mem _ m)⟩
theorem eqD_nil {ls : List (List Nat)} (h : ∀ l ∈ ls, Valid l) : eqD (.list (ls.map nmD)) (.list []) = some (decide (ls = [])) := by
  have h1 : okEq (.list (ls.map nmD)) (.list []) = true := by
    unfold okEq
    simp [PM.exs, PM.ex, PM.ev, PM.evs, PM.lcStep, PM.evo, PM.evt, PM.evi, PM.getS, PM.see, PM.sees, PM.frD, PM.binD, PM.cmpD, PM.stow, PM.stowAll, PM.asg, PM.asgs, PM.setSl, PM.setAll, PM.handOut, PM.endM, PM.parts, PM.owned, PM.isD, PM.runCall, PM.pks, PM.lend, PM.back, PM.take, PM.takes, PM.walkV, PM.walkL, PM.muV, PM.mtD, PM.biD, PM.setIx, PM.isOl, PM.isiV, PM.tyD, PM.isiD, PM.nonV, PM.truV, PM.truD, PM.partD, PM.items, PM.isiD, PM.lcFree, PM.wipeE, PM.backE, PM.intsD, PM.strsD, PM.boolsD, PM.keyD, PM.dKey, PM.enumV, PM.zipV, PM.rangeV, PyData.canLay0, PyData.canLayAll0, lay_names h, PyData.depth, PyData.depthAll]
    try omega
  unfold eqD
  rw [h1]
  cases ls <;> simp [PM.exs, PM.ex, PM.ev, PM.evs, PM.lcStep, PM.evo, PM.evt, PM.evi, PM.getS, PM.see, PM.sees, PM.frD, PM.binD, PM.cmpD, PM.stow, PM.stowAll, PM.asg, PM.asgs, PM.setSl, PM.setAll, PM.handOut, PM.endM, PM.parts, PM.owned, PM.isD, PM.runCall, PM.pks, PM.lend, PM.back, PM.take, PM.takes, PM.walkV, PM.walkL, PM.muV, PM.mtD, PM.biD, PM.setIx, PM.isOl, PM.isiV, PM.tyD, PM.isiD, PM.nonV, PM.truV, PM.truD, PM.partD, PM.items, PM.isiD, PM.lcFree, PM.wipeE, PM.backE, PM.intsD, PM.strsD, PM.boolsD, PM.keyD, PM.dKey, PM.enumV, PM.zipV, PM.rangeV, PyData.eqv, PyData.eqvAll]
theorem eqD_nilT {ls : List (List Nat)} (h : ∀ l ∈ ls, Valid l) : eqD (.tuple (ls.map nmD)) (.tuple []) = some (decide (ls = [])) := by
  have h1 : okEq (.tuple (ls.map nmD)) (.tuple []) = true := by
    unfold okEq
    simp [PM.exs, PM.ex, PM.ev, PM.evs, PM.lcStep, PM.evo, PM.evt, PM.evi, PM.getS, PM.see, PM.sees, PM.frD, PM.binD, PM.cmpD, PM.stow, PM.stowAll, PM.asg, PM.asgs, PM.setSl, PM.setAll, PM.handOut, PM.endM, PM.parts, PM.owned, PM.isD, PM.runCall, PM.pks, PM.lend, PM.back, PM.take, PM.takes, PM.walkV, PM.walkL, PM.muV, PM.mtD, PM.biD, PM.setIx, PM.isOl, PM.isiV, PM.tyD, PM.isiD, PM.nonV, PM.truV, PM.truD, PM.partD, PM.items, PM.isiD, PM.lcFree, PM.wipeE, PM.backE, PM.intsD, PM.strsD, PM.boolsD, PM.keyD, PM.dKey, PM.enumV, PM.zipV, PM.rangeV, PyData.canLay0, PyData.canLayAll0, lay_names h, PyData.depth, PyData.depthAll]
    try omega
  unfold eqD
  rw [h1]
  cases ls <;> simp [PM.exs, PM.ex, PM.ev, PM.evs, PM.lcStep, PM.evo, PM.evt, PM.evi, PM.getS, PM.see, PM.sees, PM.frD, PM.binD, PM.cmpD, PM.stow, PM.stowAll, PM.asg, PM.asgs, PM.setSl, PM.setAll, PM.handOut, PM.endM, PM.parts, PM.owned, PM.isD, PM.runCall, PM.pks, PM.lend, PM.back, PM.take, PM.takes, PM.walkV, PM.walkL, PM.muV, PM.mtD, PM.biD, PM.setIx, PM.isOl, PM.isiV, PM.tyD, PM.isiD, PM.nonV, PM.truV, PM.truD, PM.partD, PM.items, PM.isiD, PM.lcFree, PM.wipeE, PM.backE, PM.intsD, PM.strsD, PM.boolsD, PM.keyD, PM.dKey, PM.enumV, PM.zipV, PM.rangeV, PyData.eqv, PyData.eqvAll]
theorem last_ix {ls : List (List Nat)} {z : List Nat} (h : ls.getLast? = some z) : idxD (.list (ls.map nmD)) (.int (-1)) = some (nmD z) := by
  show L2.atI (ls.map nmD) (-1) = _
  have hl : 0 < ls.length := by cases ls <;> simp [PM.exs, PM.ex, PM.ev, PM.evs, PM.lcStep, PM.evo, PM.evt, PM.evi, PM.getS, PM.see, PM.sees, PM.frD, PM.binD, PM.cmpD, PM.stow, PM.stowAll, PM.asg, PM.asgs, PM.setSl, PM.setAll, PM.handOut, PM.endM, PM.parts, PM.owned, PM.isD, PM.runCall, PM.pks, PM.lend, PM.back, PM.take, PM.takes, PM.walkV, PM.walkL, PM.muV, PM.mtD, PM.biD, PM.setIx, PM.isOl, PM.isiV, PM.tyD, PM.isiD, PM.nonV, PM.truV, PM.truD, PM.partD, PM.items, PM.isiD, PM.lcFree, PM.wipeE, PM.backE, PM.intsD, PM.strsD, PM.boolsD, PM.keyD, PM.dKey, PM.enumV, PM.zipV, PM.rangeV] at h ⊢
  unfold L2.atI L2.ixN
  rw [if_neg (by decide), List.length_map, if_pos (by omega)]
  rw [Option.bind_some, List.getElem?_map, show ((-1 : Int) + (ls.length : Int)).toNat = ls.length - 1 by omega, ← List.getLast?_eq_getElem?, h]
  rfl
end Lk01
end

section
set_option Elab.async false
set_option linter.all false
set_option maxRecDepth 100000
set_option maxHeartbeats 2000000
namespace Lk01
open PySem PM
def vals (ls : List (List Nat)) : List Val := ls.map fun l => .d (nmD l)
@[simp] theorem allD_vals (ls : List (List Nat)) : allD (vals ls) = some (ls.map nmD) := by
  have : vals ls = (ls.map nmD).map .d := by simp [PM.exs, PM.ex, PM.ev, PM.evs, PM.lcStep, PM.evo, PM.evt, PM.evi, PM.getS, PM.see, PM.sees, PM.frD, PM.binD, PM.cmpD, PM.stow, PM.stowAll, PM.asg, PM.asgs, PM.setSl, PM.setAll, PM.handOut, PM.endM, PM.parts, PM.owned, PM.isD, PM.runCall, PM.pks, PM.lend, PM.back, PM.take, PM.takes, PM.walkV, PM.walkL, PM.muV, PM.mtD, PM.biD, PM.setIx, PM.isOl, PM.isiV, PM.tyD, PM.isiD, PM.nonV, PM.truV, PM.truD, PM.partD, PM.items, PM.isiD, PM.lcFree, PM.wipeE, PM.backE, PM.intsD, PM.strsD, PM.boolsD, PM.keyD, PM.dKey, PM.enumV, PM.zipV, PM.rangeV, vals, Function.comp_def]
  rw [this, allD_map]
@[simp] theorem vals_snoc (ls : List (List Nat)) (w : List Nat) : vals ls ++ [.d (.str (W w))] = vals (ls ++ [w]) := by simp [PM.exs, PM.ex, PM.ev, PM.evs, PM.lcStep, PM.evo, PM.evt, PM.evi, PM.getS, PM.see, PM.sees, PM.frD, PM.binD, PM.cmpD, PM.stow, PM.stowAll, PM.asg, PM.asgs, PM.setSl, PM.setAll, PM.handOut, PM.endM, PM.parts, PM.owned, PM.isD, PM.runCall, PM.pks, PM.lend, PM.back, PM.take, PM.takes, PM.walkV, PM.walkL, PM.muV, PM.mtD, PM.biD, PM.setIx, PM.isOl, PM.isiV, PM.tyD, PM.isiD, PM.nonV, PM.truV, PM.truD, PM.partD, PM.items, PM.isiD, PM.lcFree, PM.wipeE, PM.backE, PM.intsD, PM.strsD, PM.boolsD, PM.keyD, PM.dKey, PM.enumV, PM.zipV, PM.rangeV, vals]
@[simp] theorem vals_len (ls : List (List Nat)) : (vals ls).length = ls.length := by simp [PM.exs, PM.ex, PM.ev, PM.evs, PM.lcStep, PM.evo, PM.evt, PM.evi, PM.getS, PM.see, PM.sees, PM.frD, PM.binD, PM.cmpD, PM.stow, PM.stowAll, PM.asg, PM.asgs, PM.setSl, PM.setAll, PM.handOut, PM.endM, PM.parts, PM.owned, PM.isD, PM.runCall, PM.pks, PM.lend, PM.back, PM.take, PM.takes, PM.walkV, PM.walkL, PM.muV, PM.mtD, PM.biD, PM.setIx, PM.isOl, PM.isiV, PM.tyD, PM.isiD, PM.nonV, PM.truV, PM.truD, PM.partD, PM.items, PM.isiD, PM.lcFree, PM.wipeE, PM.backE, PM.intsD, PM.strsD, PM.boolsD, PM.keyD, PM.dKey, PM.enumV, PM.zipV, PM.rangeV, vals]
theorem take_ev (k : Nat) (pr : List Bool) (a : ME) (b : Bool) (n c s m : Int) (t : PM.Env) (ha : ev (cx (k + 2) pr) a (some (st b n c s) :: t) = .ok (.d (.int m)) (some (st b n c s) :: t)) (h0 : 0 ≤ c) (h1 : c < 100000) (hm : 0 < m) (hm2 : m < 1073741824) :
    ∃ n' r, 0 ≤ r ∧ r < m ∧ ev (cx (k + 2) pr) (.call 6 [.v 0, a]) (some (st b n c s) :: t) = .ok (.d (.int r)) (some (st b n' (c + 1) s) :: t) := by
  obtain ⟨n', r, r0, r1, T1⟩ := call_take k b n c s m h0 h1 hm hm2
  refine ⟨n', r, r0, r1, ?_⟩
  show (evs (cx (k + 2) pr) [.v 0, a] (some (st b n c s) :: t)).bind _ = _
  have e1 : evs (cx (k + 2) pr) [.v 0, a] (some (st b n c s) :: t) = .ok [.pk 0, .d (.int m)] (some (st b n c s) :: t) := by
    show ((ev (cx (k + 2) pr) (.v 0) (some (st b n c s) :: t)).bind fun v e1 => (evs (cx (k + 2) pr) [a] e1).bind fun vs e2 => Res.ok (v :: vs) e2) = _
    have e2 : ev (cx (k + 2) pr) (.v 0) (some (st b n c s) :: t) = .ok (.pk 0) (some (st b n c s) :: t) := by simp [PM.exs, PM.ex, PM.ev, PM.evs, PM.lcStep, PM.evo, PM.evt, PM.evi, PM.getS, PM.see, PM.sees, PM.frD, PM.binD, PM.cmpD, PM.stow, PM.stowAll, PM.asg, PM.asgs, PM.setSl, PM.setAll, PM.handOut, PM.endM, PM.parts, PM.owned, PM.isD, PM.runCall, PM.pks, PM.lend, PM.back, PM.take, PM.takes, PM.walkV, PM.walkL, PM.muV, PM.mtD, PM.biD, PM.setIx, PM.isOl, PM.isiV, PM.tyD, PM.isiD, PM.nonV, PM.truV, PM.truD, PM.partD, PM.items, PM.isiD, PM.lcFree, PM.wipeE, PM.backE, PM.intsD, PM.strsD, PM.boolsD, PM.keyD, PM.dKey, PM.enumV, PM.zipV, PM.rangeV]
    rw [e2]
    show ((ev (cx (k + 2) pr) a (some (st b n c s) :: t)).bind fun v e1 => (Res.ok [] e1).bind fun vs e2 => Res.ok (v :: vs) e2).bind _ = _
    rw [ha]
    rfl
  rw [e1]
  show runCall (cx (k + 2) pr) 6 [.pk 0, .d (.int m)] (some (st b n c s) :: t) = _
  simp [PM.exs, PM.ex, PM.ev, PM.evs, PM.lcStep, PM.evo, PM.evt, PM.evi, PM.getS, PM.see, PM.sees, PM.frD, PM.binD, PM.cmpD, PM.stow, PM.stowAll, PM.asg, PM.asgs, PM.setSl, PM.setAll, PM.handOut, PM.endM, PM.parts, PM.owned, PM.isD, PM.runCall, PM.pks, PM.lend, PM.back, PM.take, PM.takes, PM.walkV, PM.walkL, PM.muV, PM.mtD, PM.biD, PM.setIx, PM.isOl, PM.isiV, PM.tyD, PM.isiD, PM.nonV, PM.truV, PM.truD, PM.partD, PM.items, PM.isiD, PM.lcFree, PM.wipeE, PM.backE, PM.intsD, PM.strsD, PM.boolsD, PM.keyD, PM.dKey, PM.enumV, PM.zipV, PM.rangeV, T1, cx]
abbrev EN (b : Bool) (n c s m s0 s1 : Int) (ls : List (List Nat)) (o6 o7 o8 : Option Val) : PM.Env := [some (st b n c s), some (.d (.int m)), some (.d (.str (Str.ofString "abcdefghijklmnopqrstuvwxyz"))), some (.d (.int s0)), some (.d (.int s1)), some (.ol (vals ls)), o6, o7, o8]
def cHead (s0 s1 : Int) (j : Nat) : Nat := ((s0 + s1 * j) % 26).toNat + 97
abbrev inner : MS := .for_ (.nm 8) (.rng1 (.call 6 [(.v 0), (.c (.int 6))])) [
      .set (.nm 7) (.bin .Add (.v 7) (.idx (.v 2) (.call 6 [(.v 0), (.c (.int 26))])))]
theorem inner_ok (k : Nat) (b : Bool) (n c s m s0 s1 : Int) (ls : List (List Nat)) (o6 o8 : Option Val) (w0 : Nat) (hw : 97 ≤ w0 ∧ w0 < 123) (h0 : 0 ≤ c) (h1 : c < 99000) :
    ∃ n' c' w o8', c ≤ c' ∧ c' ≤ c + 6 ∧ Valid w ∧ w.head? = some w0 ∧ ex (cx (k + 2) [true, false]) inner (EN b n c s m s0 s1 ls o6 (some (.d (nmD [w0]))) o8) = .ok .nx (EN b n' c' s m s0 s1 ls o6 (some (.d (nmD w))) o8') := by
  obtain ⟨n1, r, r0, r1, T1⟩ := take_ev k [true, false] (.c (.int 6)) b n c s 6 [some (.d (.int m)), some (.d (.str (Str.ofString "abcdefghijklmnopqrstuvwxyz"))), some (.d (.int s0)), some (.d (.int s1)), some (.ol (vals ls)), o6, some (.d (nmD [w0])), o8] rfl h0 (by omega) (by omega) (by omega)
  have L := forL_ok (f := fun x e2 => match asg (cx (k + 2) [true, false]) (.nm 8) (.d x) e2 with
    | some e3 => exs (cx (k + 2) [true, false]) [.set (.nm 7) (.bin .Add (.v 7) (.idx (.v 2) (.call 6 [(.v 0), (.c (.int 26))])))] e3
    | none => Res.no) (xs := rangeV 0 r.toNat) (e := EN b n1 (c + 1) s m s0 s1 ls o6 (some (.d (nmD [w0]))) o8)
    (fun i e => ∃ n' w o8', w.length = 1 + i ∧ (∀ x ∈ w, 97 ≤ x ∧ x < 123) ∧ w.head? = some w0 ∧ e = EN b n' (c + 1 + i) s m s0 s1 ls o6 (some (.d (nmD w))) o8')
    ⟨n1, [w0], o8, rfl, fun x h => by rw [List.mem_singleton.mp h]; exact hw, rfl, by simp [PM.exs, PM.ex, PM.ev, PM.evs, PM.lcStep, PM.evo, PM.evt, PM.evi, PM.getS, PM.see, PM.sees, PM.frD, PM.binD, PM.cmpD, PM.stow, PM.stowAll, PM.asg, PM.asgs, PM.setSl, PM.setAll, PM.handOut, PM.endM, PM.parts, PM.owned, PM.isD, PM.runCall, PM.pks, PM.lend, PM.back, PM.take, PM.takes, PM.walkV, PM.walkL, PM.muV, PM.mtD, PM.biD, PM.setIx, PM.isOl, PM.isiV, PM.tyD, PM.isiD, PM.nonV, PM.truV, PM.truD, PM.partD, PM.items, PM.isiD, PM.lcFree, PM.wipeE, PM.backE, PM.intsD, PM.strsD, PM.boolsD, PM.keyD, PM.dKey, PM.enumV, PM.zipV, PM.rangeV]⟩
    (fun i x e hi P => by
      obtain ⟨rfl, hi2⟩ := rangeV_get _ _ _ _ hi
      obtain ⟨n', w, o8', a1, a2, a3, rfl⟩ := P
      obtain ⟨n2, r2, q0, q1, T2⟩ := take_ev k [true, false] (.c (.int 26)) b n' (c + 1 + i) s 26 [some (.d (.int m)), some (.d (.str (Str.ofString "abcdefghijklmnopqrstuvwxyz"))), some (.d (.int s0)), some (.d (.int s1)), some (.ol (vals ls)), o6, some (.d (nmD w)), some (.d (.int (0 + i)))] rfl (by omega) (by omega) (by omega) (by omega)
      refine ⟨EN b n2 (c + 1 + (i + 1 : Nat)) s m s0 s1 ls o6 (some (.d (nmD (w ++ [r2.toNat + 97])))) (some (.d (.int (0 + i)))), ?_, ⟨n2, w ++ [r2.toNat + 97], _, by simp [PM.exs, PM.ex, PM.ev, PM.evs, PM.lcStep, PM.evo, PM.evt, PM.evi, PM.getS, PM.see, PM.sees, PM.frD, PM.binD, PM.cmpD, PM.stow, PM.stowAll, PM.asg, PM.asgs, PM.setSl, PM.setAll, PM.handOut, PM.endM, PM.parts, PM.owned, PM.isD, PM.runCall, PM.pks, PM.lend, PM.back, PM.take, PM.takes, PM.walkV, PM.walkL, PM.muV, PM.mtD, PM.biD, PM.setIx, PM.isOl, PM.isiV, PM.tyD, PM.isiD, PM.nonV, PM.truV, PM.truD, PM.partD, PM.items, PM.isiD, PM.lcFree, PM.wipeE, PM.backE, PM.intsD, PM.strsD, PM.boolsD, PM.keyD, PM.dKey, PM.enumV, PM.zipV, PM.rangeV]; omega, fun x h => ?_, ?_, rfl⟩⟩
      · show exs (cx (k + 2) [true, false]) _ (EN b n' (c + 1 + i) s m s0 s1 ls o6 (some (.d (nmD w))) (some (.d (.int (0 + i))))) = _
        rw [exs_nx (e1 := EN b n2 (c + 1 + (i + 1 : Nat)) s m s0 s1 ls o6 (some (.d (nmD (w ++ [r2.toNat + 97])))) (some (.d (.int (0 + i)))))]
        · rfl
        · refine ex_set (v := .d (nmD (w ++ [r2.toNat + 97]))) (v' := .d (nmD (w ++ [r2.toNat + 97]))) (e1 := EN b n2 (c + 1 + i + 1) s m s0 s1 ls o6 (some (.d (nmD w))) (some (.d (.int (0 + i))))) (e2 := EN b n2 (c + 1 + i + 1) s m s0 s1 ls o6 (some (.d (nmD w))) (some (.d (.int (0 + i))))) ?_ rfl (by simp [PM.exs, PM.ex, PM.ev, PM.evs, PM.lcStep, PM.evo, PM.evt, PM.evi, PM.getS, PM.see, PM.sees, PM.frD, PM.binD, PM.cmpD, PM.stow, PM.stowAll, PM.asg, PM.asgs, PM.setSl, PM.setAll, PM.handOut, PM.endM, PM.parts, PM.owned, PM.isD, PM.runCall, PM.pks, PM.lend, PM.back, PM.take, PM.takes, PM.walkV, PM.walkL, PM.muV, PM.mtD, PM.biD, PM.setIx, PM.isOl, PM.isiV, PM.tyD, PM.isiD, PM.nonV, PM.truV, PM.truD, PM.partD, PM.items, PM.isiD, PM.lcFree, PM.wipeE, PM.backE, PM.intsD, PM.strsD, PM.boolsD, PM.keyD, PM.dKey, PM.enumV, PM.zipV, PM.rangeV]) (by simp [PM.exs, PM.ex, PM.ev, PM.evs, PM.lcStep, PM.evo, PM.evt, PM.evi, PM.getS, PM.see, PM.sees, PM.frD, PM.binD, PM.cmpD, PM.stow, PM.stowAll, PM.asg, PM.asgs, PM.setSl, PM.setAll, PM.handOut, PM.endM, PM.parts, PM.owned, PM.isD, PM.runCall, PM.pks, PM.lend, PM.back, PM.take, PM.takes, PM.walkV, PM.walkL, PM.muV, PM.mtD, PM.biD, PM.setIx, PM.isOl, PM.isiV, PM.tyD, PM.isiD, PM.nonV, PM.truV, PM.truD, PM.partD, PM.items, PM.isiD, PM.lcFree, PM.wipeE, PM.backE, PM.intsD, PM.strsD, PM.boolsD, PM.keyD, PM.dKey, PM.enumV, PM.zipV, PM.rangeV]) |>.trans ?_
          · have LD := letD r2 q0 q1
            have hw : w.length + 1 ≤ lineN := by rw [lineN_eq]; omega
            simp only [ev, getS, List.getElem?_cons_succ, List.getElem?_cons_zero, Option.join_some, Res.bind_ok]
            simp only [ev] at T2
            rw [T2]
            simp [PM.exs, PM.ex, PM.ev, PM.evs, PM.lcStep, PM.evo, PM.evt, PM.evi, PM.getS, PM.see, PM.sees, PM.frD, PM.binD, PM.cmpD, PM.stow, PM.stowAll, PM.asg, PM.asgs, PM.setSl, PM.setAll, PM.handOut, PM.endM, PM.parts, PM.owned, PM.isD, PM.runCall, PM.pks, PM.lend, PM.back, PM.take, PM.takes, PM.walkV, PM.walkL, PM.muV, PM.mtD, PM.biD, PM.setIx, PM.isOl, PM.isiV, PM.tyD, PM.isiD, PM.nonV, PM.truV, PM.truD, PM.partD, PM.items, PM.isiD, PM.lcFree, PM.wipeE, PM.backE, PM.intsD, PM.strsD, PM.boolsD, PM.keyD, PM.dKey, PM.enumV, PM.zipV, PM.rangeV, LD, hw]
          · simp only [List.set_cons_succ, List.set_cons_zero]
            rw [show (c + 1 + (i : Int) + 1) = c + 1 + ((i + 1 : Nat) : Int) by omega]
      · rcases List.mem_append.mp h with h | h
        · exact a2 x h
        · rw [List.mem_singleton.mp h]; omega
      · cases w with
        | nil => cases a3
        | cons y z => exact a3)
  obtain ⟨e', L1, n', w, o8', a1, a2, a3, rfl⟩ := L
  rw [rangeV_len] at a1 L1
  refine ⟨n', c + 1 + (r.toNat : Int), w, o8', by omega, by omega, ⟨by omega, by omega, a2⟩, a3, ?_⟩
  show (evi (cx (k + 2) [true, false]) (.rng1 (.call 6 [(.v 0), (.c (.int 6))])) (EN b n c s m s0 s1 ls o6 (some (.d (nmD [w0]))) o8)).bind _ = _
  have e1 : evi (cx (k + 2) [true, false]) (.rng1 (.call 6 [(.v 0), (.c (.int 6))])) (EN b n c s m s0 s1 ls o6 (some (.d (nmD [w0]))) o8) = .ok (rangeV 0 r.toNat) (EN b n1 (c + 1) s m s0 s1 ls o6 (some (.d (nmD [w0]))) o8) := by
    show (ev (cx (k + 2) [true, false]) (.call 6 [(.v 0), (.c (.int 6))]) _).bind _ = _
    rw [T1]
    show (if -(2 ^ 62) ≤ r ∧ r < 2 ^ 62 then Res.ok (rangeV 0 r.toNat) _ else Res.no) = _
    rw [if_pos (by omega)]
  rw [e1]
  exact L1
end Lk01
end

section
set_option Elab.async false
set_option linter.all false
set_option maxRecDepth 100000
set_option maxHeartbeats 2000000
namespace Lk01
open PySem PM
abbrev bodyN : List MS := [
    .set (.nm 7) (.idx (.v 2) (.bin .Mod (.bin .Add (.v 3) (.bin .Mult (.v 4) (.v 6))) (.c (.int 26)))),
    inner,
    .ite (.and (.cmp .NotEq (.v 5) (.lst [])) (.and (.cmp .Lt (.bi .len [(.idx (.v 5) (.neg (.c (.int 1))))]) (.c (.int 6))) (.cmp .Eq (.call 6 [(.v 0), (.c (.int 4))]) (.c (.int 1))))) [
      .set (.nm 7) (.bin .Add (.idx (.v 5) (.neg (.c (.int 1)))) (.idx (.v 2) (.call 6 [(.v 0), (.c (.int 26))])))] [],
    .expr (.mu .append 5 [(.v 7)])]
theorem eqD_nil2 {ls : List (List Nat)} (h : ∀ l ∈ ls, Valid l) : eqD (.list (ls.map nmD)) (.list (List.map id [])) = some (decide (ls = [])) := eqD_nil h
theorem ite_ok (k : Nat) (b : Bool) (n c s m s0 s1 : Int) (ls : List (List Nat)) (o6 o8 : Option Val) (cf : Nat → Nat) (i : Nat) (I : Inv cf i ls) (hi : i < 9) (w : List Nat) (hv : Valid w) (hh : w.head? = some (cf i)) (hc : ∀ j, j < i → cf j ≠ cf i) (h0 : 0 ≤ c) (h1 : c < 99000) :
    ∃ n' c' w', c ≤ c' ∧ c' ≤ c + 2 ∧ Inv cf (i + 1) (ls ++ [w']) ∧ ex (cx (k + 2) [true, false]) (.ite (.and (.cmp .NotEq (.v 5) (.lst [])) (.and (.cmp .Lt (.bi .len [(.idx (.v 5) (.neg (.c (.int 1))))]) (.c (.int 6))) (.cmp .Eq (.call 6 [(.v 0), (.c (.int 4))]) (.c (.int 1))))) [
      .set (.nm 7) (.bin .Add (.idx (.v 5) (.neg (.c (.int 1)))) (.idx (.v 2) (.call 6 [(.v 0), (.c (.int 26))])))] []) (EN b n c s m s0 s1 ls o6 (some (.d (nmD w))) o8) = .ok .nx (EN b n' c' s m s0 s1 ls o6 (some (.d (nmD w'))) o8) := by
  have e1 : ev (cx (k + 2) [true, false]) (.cmp .NotEq (.v 5) (.lst [])) (EN b n c s m s0 s1 ls o6 (some (.d (nmD w))) o8) = .ok (.d (.bool (!decide (ls = [])))) (EN b n c s m s0 s1 ls o6 (some (.d (nmD w))) o8) := by
    have := eqD_nil I.ok
    simp [PM.exs, PM.ex, PM.ev, PM.evs, PM.lcStep, PM.evo, PM.evt, PM.evi, PM.getS, PM.see, PM.sees, PM.frD, PM.binD, PM.cmpD, PM.stow, PM.stowAll, PM.asg, PM.asgs, PM.setSl, PM.setAll, PM.handOut, PM.endM, PM.parts, PM.owned, PM.isD, PM.runCall, PM.pks, PM.lend, PM.back, PM.take, PM.takes, PM.walkV, PM.walkL, PM.muV, PM.mtD, PM.biD, PM.setIx, PM.isOl, PM.isiV, PM.tyD, PM.isiD, PM.nonV, PM.truV, PM.truD, PM.partD, PM.items, PM.isiD, PM.lcFree, PM.wipeE, PM.backE, PM.intsD, PM.strsD, PM.boolsD, PM.keyD, PM.dKey, PM.enumV, PM.zipV, PM.rangeV, this]
  by_cases q : ls = []
  · refine ⟨n, c, w, by omega, by omega, I.fresh hv hh hc, ?_⟩
    rw [ex_if (k := false) (e1 := EN b n c s m s0 s1 ls o6 (some (.d (nmD w))) o8)]
    · simp [PM.exs, PM.ex, PM.ev, PM.evs, PM.lcStep, PM.evo, PM.evt, PM.evi, PM.getS, PM.see, PM.sees, PM.frD, PM.binD, PM.cmpD, PM.stow, PM.stowAll, PM.asg, PM.asgs, PM.setSl, PM.setAll, PM.handOut, PM.endM, PM.parts, PM.owned, PM.isD, PM.runCall, PM.pks, PM.lend, PM.back, PM.take, PM.takes, PM.walkV, PM.walkL, PM.muV, PM.mtD, PM.biD, PM.setIx, PM.isOl, PM.isiV, PM.tyD, PM.isiD, PM.nonV, PM.truV, PM.truD, PM.partD, PM.items, PM.isiD, PM.lcFree, PM.wipeE, PM.backE, PM.intsD, PM.strsD, PM.boolsD, PM.keyD, PM.dKey, PM.enumV, PM.zipV, PM.rangeV]
    · rw [ev_and_f (e1 := EN b n c s m s0 s1 ls o6 (some (.d (nmD w))) o8)]
      rw [e1]; simp [PM.exs, PM.ex, PM.ev, PM.evs, PM.lcStep, PM.evo, PM.evt, PM.evi, PM.getS, PM.see, PM.sees, PM.frD, PM.binD, PM.cmpD, PM.stow, PM.stowAll, PM.asg, PM.asgs, PM.setSl, PM.setAll, PM.handOut, PM.endM, PM.parts, PM.owned, PM.isD, PM.runCall, PM.pks, PM.lend, PM.back, PM.take, PM.takes, PM.walkV, PM.walkL, PM.muV, PM.mtD, PM.biD, PM.setIx, PM.isOl, PM.isiV, PM.tyD, PM.isiD, PM.nonV, PM.truV, PM.truD, PM.partD, PM.items, PM.isiD, PM.lcFree, PM.wipeE, PM.backE, PM.intsD, PM.strsD, PM.boolsD, PM.keyD, PM.dKey, PM.enumV, PM.zipV, PM.rangeV, q]
  · obtain ⟨z, hz⟩ : ∃ z, ls.getLast? = some z := by
      cases hg : ls.getLast? with
      | none => exact absurd (List.getLast?_eq_none_iff.mp hg) q
      | some z => exact ⟨z, rfl⟩
    have e1' : ev (cx (k + 2) [true, false]) (.cmp .NotEq (.v 5) (.lst [])) (EN b n c s m s0 s1 ls o6 (some (.d (nmD w))) o8) = .ok (.d (.bool true)) (EN b n c s m s0 s1 ls o6 (some (.d (nmD w))) o8) := by
      rw [e1]; simp [PM.exs, PM.ex, PM.ev, PM.evs, PM.lcStep, PM.evo, PM.evt, PM.evi, PM.getS, PM.see, PM.sees, PM.frD, PM.binD, PM.cmpD, PM.stow, PM.stowAll, PM.asg, PM.asgs, PM.setSl, PM.setAll, PM.handOut, PM.endM, PM.parts, PM.owned, PM.isD, PM.runCall, PM.pks, PM.lend, PM.back, PM.take, PM.takes, PM.walkV, PM.walkL, PM.muV, PM.mtD, PM.biD, PM.setIx, PM.isOl, PM.isiV, PM.tyD, PM.isiD, PM.nonV, PM.truV, PM.truD, PM.partD, PM.items, PM.isiD, PM.lcFree, PM.wipeE, PM.backE, PM.intsD, PM.strsD, PM.boolsD, PM.keyD, PM.dKey, PM.enumV, PM.zipV, PM.rangeV, q]
    have LI := last_ix hz
    have vz := I.ok z (List.mem_of_getLast? hz)
    have hz2 : z.length ≤ lineN := by rw [lineN_eq]; have := vz.2.1; omega
    have e2 : ev (cx (k + 2) [true, false]) (.cmp .Lt (.bi .len [(.idx (.v 5) (.neg (.c (.int 1))))]) (.c (.int 6))) (EN b n c s m s0 s1 ls o6 (some (.d (nmD w))) o8) = .ok (.d (.bool (decide (z.length < 6)))) (EN b n c s m s0 s1 ls o6 (some (.d (nmD w))) o8) := by
      simp [PM.exs, PM.ex, PM.ev, PM.evs, PM.lcStep, PM.evo, PM.evt, PM.evi, PM.getS, PM.see, PM.sees, PM.frD, PM.binD, PM.cmpD, PM.stow, PM.stowAll, PM.asg, PM.asgs, PM.setSl, PM.setAll, PM.handOut, PM.endM, PM.parts, PM.owned, PM.isD, PM.runCall, PM.pks, PM.lend, PM.back, PM.take, PM.takes, PM.walkV, PM.walkL, PM.muV, PM.mtD, PM.biD, PM.setIx, PM.isOl, PM.isiV, PM.tyD, PM.isiD, PM.nonV, PM.truV, PM.truD, PM.partD, PM.items, PM.isiD, PM.lcFree, PM.wipeE, PM.backE, PM.intsD, PM.strsD, PM.boolsD, PM.keyD, PM.dKey, PM.enumV, PM.zipV, PM.rangeV, LI, hz2]
      omega
    by_cases q2 : z.length < 6
    · obtain ⟨n2, r2, q0, q1, T2⟩ := take_ev k [true, false] (.c (.int 4)) b n c s 4 [some (.d (.int m)), some (.d (.str (Str.ofString "abcdefghijklmnopqrstuvwxyz"))), some (.d (.int s0)), some (.d (.int s1)), some (.ol (vals ls)), o6, some (.d (nmD w)), o8] rfl (by omega) (by omega) (by omega) (by omega)
      have e3 : ev (cx (k + 2) [true, false]) (.cmp .Eq (.call 6 [(.v 0), (.c (.int 4))]) (.c (.int 1))) (EN b n c s m s0 s1 ls o6 (some (.d (nmD w))) o8) = .ok (.d (.bool (decide (r2 = 1)))) (EN b n2 (c + 1) s m s0 s1 ls o6 (some (.d (nmD w))) o8) := by
        show (ev (cx (k + 2) [true, false]) (.call 6 [(.v 0), (.c (.int 4))]) _).bind _ = _
        rw [T2]
        simp [PM.exs, PM.ex, PM.ev, PM.evs, PM.lcStep, PM.evo, PM.evt, PM.evi, PM.getS, PM.see, PM.sees, PM.frD, PM.binD, PM.cmpD, PM.stow, PM.stowAll, PM.asg, PM.asgs, PM.setSl, PM.setAll, PM.handOut, PM.endM, PM.parts, PM.owned, PM.isD, PM.runCall, PM.pks, PM.lend, PM.back, PM.take, PM.takes, PM.walkV, PM.walkL, PM.muV, PM.mtD, PM.biD, PM.setIx, PM.isOl, PM.isiV, PM.tyD, PM.isiD, PM.nonV, PM.truV, PM.truD, PM.partD, PM.items, PM.isiD, PM.lcFree, PM.wipeE, PM.backE, PM.intsD, PM.strsD, PM.boolsD, PM.keyD, PM.dKey, PM.enumV, PM.zipV, PM.rangeV]
      have e4 : ev (cx (k + 2) [true, false]) (.and (.cmp .NotEq (.v 5) (.lst [])) (.and (.cmp .Lt (.bi .len [(.idx (.v 5) (.neg (.c (.int 1))))]) (.c (.int 6))) (.cmp .Eq (.call 6 [(.v 0), (.c (.int 4))]) (.c (.int 1))))) (EN b n c s m s0 s1 ls o6 (some (.d (nmD w))) o8) = .ok (.d (.bool (decide (r2 = 1)))) (EN b n2 (c + 1) s m s0 s1 ls o6 (some (.d (nmD w))) o8) := by
        rw [ev_and_t e1', ev_and_t (by rw [e2]; simp [PM.exs, PM.ex, PM.ev, PM.evs, PM.lcStep, PM.evo, PM.evt, PM.evi, PM.getS, PM.see, PM.sees, PM.frD, PM.binD, PM.cmpD, PM.stow, PM.stowAll, PM.asg, PM.asgs, PM.setSl, PM.setAll, PM.handOut, PM.endM, PM.parts, PM.owned, PM.isD, PM.runCall, PM.pks, PM.lend, PM.back, PM.take, PM.takes, PM.walkV, PM.walkL, PM.muV, PM.mtD, PM.biD, PM.setIx, PM.isOl, PM.isiV, PM.tyD, PM.isiD, PM.nonV, PM.truV, PM.truD, PM.partD, PM.items, PM.isiD, PM.lcFree, PM.wipeE, PM.backE, PM.intsD, PM.strsD, PM.boolsD, PM.keyD, PM.dKey, PM.enumV, PM.zipV, PM.rangeV, q2]; rfl), e3]
      rw [ex_if e4]
      by_cases q3 : r2 = 1
      · obtain ⟨n3, r3, p0, p1, T3⟩ := take_ev k [true, false] (.c (.int 26)) b n2 (c + 1) s 26 [some (.d (.int m)), some (.d (.str (Str.ofString "abcdefghijklmnopqrstuvwxyz"))), some (.d (.int s0)), some (.d (.int s1)), some (.ol (vals ls)), o6, some (.d (nmD w)), o8] rfl (by omega) (by omega) (by omega) (by omega)
        refine ⟨n3, c + 2, z ++ [r3.toNat + 97], by omega, by omega, I.more hz q2 (by omega), ?_⟩
        rw [if_pos (by simpa [PM.exs, PM.ex, PM.ev, PM.evs, PM.lcStep, PM.evo, PM.evt, PM.evi, PM.getS, PM.see, PM.sees, PM.frD, PM.binD, PM.cmpD, PM.stow, PM.stowAll, PM.asg, PM.asgs, PM.setSl, PM.setAll, PM.handOut, PM.endM, PM.parts, PM.owned, PM.isD, PM.runCall, PM.pks, PM.lend, PM.back, PM.take, PM.takes, PM.walkV, PM.walkL, PM.muV, PM.mtD, PM.biD, PM.setIx, PM.isOl, PM.isiV, PM.tyD, PM.isiD, PM.nonV, PM.truV, PM.truD, PM.partD, PM.items, PM.isiD, PM.lcFree, PM.wipeE, PM.backE, PM.intsD, PM.strsD, PM.boolsD, PM.keyD, PM.dKey, PM.enumV, PM.zipV, PM.rangeV] using q3)]
        rw [exs_nx (e1 := EN b n3 (c + 2) s m s0 s1 ls o6 (some (.d (nmD (z ++ [r3.toNat + 97])))) o8)]
        · rfl
        · refine ex_set (v := .d (nmD (z ++ [r3.toNat + 97]))) (v' := .d (nmD (z ++ [r3.toNat + 97]))) (e1 := EN b n3 (c + 1 + 1) s m s0 s1 ls o6 (some (.d (nmD w))) o8) (e2 := EN b n3 (c + 1 + 1) s m s0 s1 ls o6 (some (.d (nmD w))) o8) ?_ rfl (by simp [PM.exs, PM.ex, PM.ev, PM.evs, PM.lcStep, PM.evo, PM.evt, PM.evi, PM.getS, PM.see, PM.sees, PM.frD, PM.binD, PM.cmpD, PM.stow, PM.stowAll, PM.asg, PM.asgs, PM.setSl, PM.setAll, PM.handOut, PM.endM, PM.parts, PM.owned, PM.isD, PM.runCall, PM.pks, PM.lend, PM.back, PM.take, PM.takes, PM.walkV, PM.walkL, PM.muV, PM.mtD, PM.biD, PM.setIx, PM.isOl, PM.isiV, PM.tyD, PM.isiD, PM.nonV, PM.truV, PM.truD, PM.partD, PM.items, PM.isiD, PM.lcFree, PM.wipeE, PM.backE, PM.intsD, PM.strsD, PM.boolsD, PM.keyD, PM.dKey, PM.enumV, PM.zipV, PM.rangeV]) (by simp [PM.exs, PM.ex, PM.ev, PM.evs, PM.lcStep, PM.evo, PM.evt, PM.evi, PM.getS, PM.see, PM.sees, PM.frD, PM.binD, PM.cmpD, PM.stow, PM.stowAll, PM.asg, PM.asgs, PM.setSl, PM.setAll, PM.handOut, PM.endM, PM.parts, PM.owned, PM.isD, PM.runCall, PM.pks, PM.lend, PM.back, PM.take, PM.takes, PM.walkV, PM.walkL, PM.muV, PM.mtD, PM.biD, PM.setIx, PM.isOl, PM.isiV, PM.tyD, PM.isiD, PM.nonV, PM.truV, PM.truD, PM.partD, PM.items, PM.isiD, PM.lcFree, PM.wipeE, PM.backE, PM.intsD, PM.strsD, PM.boolsD, PM.keyD, PM.dKey, PM.enumV, PM.zipV, PM.rangeV]) |>.trans ?_
          · have LD := letD r3 p0 p1
            have hw : z.length + 1 ≤ lineN := by rw [lineN_eq]; omega
            show (ev (cx (k + 2) [true, false]) (.idx (.v 5) (.neg (.c (.int 1)))) _).bind _ = _
            have e5 : ev (cx (k + 2) [true, false]) (.idx (.v 5) (.neg (.c (.int 1)))) (EN b n2 (c + 1) s m s0 s1 ls o6 (some (.d (nmD w))) o8) = .ok (.d (nmD z)) (EN b n2 (c + 1) s m s0 s1 ls o6 (some (.d (nmD w))) o8) := by simp [PM.exs, PM.ex, PM.ev, PM.evs, PM.lcStep, PM.evo, PM.evt, PM.evi, PM.getS, PM.see, PM.sees, PM.frD, PM.binD, PM.cmpD, PM.stow, PM.stowAll, PM.asg, PM.asgs, PM.setSl, PM.setAll, PM.handOut, PM.endM, PM.parts, PM.owned, PM.isD, PM.runCall, PM.pks, PM.lend, PM.back, PM.take, PM.takes, PM.walkV, PM.walkL, PM.muV, PM.mtD, PM.biD, PM.setIx, PM.isOl, PM.isiV, PM.tyD, PM.isiD, PM.nonV, PM.truV, PM.truD, PM.partD, PM.items, PM.isiD, PM.lcFree, PM.wipeE, PM.backE, PM.intsD, PM.strsD, PM.boolsD, PM.keyD, PM.dKey, PM.enumV, PM.zipV, PM.rangeV, LI]
            rw [e5]
            have e6 : ev (cx (k + 2) [true, false]) (.idx (.v 2) (.call 6 [(.v 0), (.c (.int 26))])) (EN b n2 (c + 1) s m s0 s1 ls o6 (some (.d (nmD w))) o8) = .ok (.d (nmD [r3.toNat + 97])) (EN b n3 (c + 1 + 1) s m s0 s1 ls o6 (some (.d (nmD w))) o8) := by
              show (ev (cx (k + 2) [true, false]) (.v 2) _).bind (fun va e1 => (ev (cx (k + 2) [true, false]) (.call 6 [(.v 0), (.c (.int 26))]) e1).bind _) = _
              rw [show ev (cx (k + 2) [true, false]) (.v 2) (EN b n2 (c + 1) s m s0 s1 ls o6 (some (.d (nmD w))) o8) = .ok (.d (.str (Str.ofString "abcdefghijklmnopqrstuvwxyz"))) (EN b n2 (c + 1) s m s0 s1 ls o6 (some (.d (nmD w))) o8) from rfl, Res.bind_ok, T3]
              simp [PM.exs, PM.ex, PM.ev, PM.evs, PM.lcStep, PM.evo, PM.evt, PM.evi, PM.getS, PM.see, PM.sees, PM.frD, PM.binD, PM.cmpD, PM.stow, PM.stowAll, PM.asg, PM.asgs, PM.setSl, PM.setAll, PM.handOut, PM.endM, PM.parts, PM.owned, PM.isD, PM.runCall, PM.pks, PM.lend, PM.back, PM.take, PM.takes, PM.walkV, PM.walkL, PM.muV, PM.mtD, PM.biD, PM.setIx, PM.isOl, PM.isiV, PM.tyD, PM.isiD, PM.nonV, PM.truV, PM.truD, PM.partD, PM.items, PM.isiD, PM.lcFree, PM.wipeE, PM.backE, PM.intsD, PM.strsD, PM.boolsD, PM.keyD, PM.dKey, PM.enumV, PM.zipV, PM.rangeV, LD]
            show (ev (cx (k + 2) [true, false]) (.idx (.v 2) (.call 6 [(.v 0), (.c (.int 26))])) _).bind _ = _
            rw [e6]
            simp [PM.exs, PM.ex, PM.ev, PM.evs, PM.lcStep, PM.evo, PM.evt, PM.evi, PM.getS, PM.see, PM.sees, PM.frD, PM.binD, PM.cmpD, PM.stow, PM.stowAll, PM.asg, PM.asgs, PM.setSl, PM.setAll, PM.handOut, PM.endM, PM.parts, PM.owned, PM.isD, PM.runCall, PM.pks, PM.lend, PM.back, PM.take, PM.takes, PM.walkV, PM.walkL, PM.muV, PM.mtD, PM.biD, PM.setIx, PM.isOl, PM.isiV, PM.tyD, PM.isiD, PM.nonV, PM.truV, PM.truD, PM.partD, PM.items, PM.isiD, PM.lcFree, PM.wipeE, PM.backE, PM.intsD, PM.strsD, PM.boolsD, PM.keyD, PM.dKey, PM.enumV, PM.zipV, PM.rangeV, hw]
          · simp only [List.set_cons_succ, List.set_cons_zero]
            rw [show (c + 1 + 1) = c + 2 by omega]
      · refine ⟨n2, c + 1, w, by omega, by omega, I.fresh hv hh hc, ?_⟩
        rw [if_neg (by simpa [PM.exs, PM.ex, PM.ev, PM.evs, PM.lcStep, PM.evo, PM.evt, PM.evi, PM.getS, PM.see, PM.sees, PM.frD, PM.binD, PM.cmpD, PM.stow, PM.stowAll, PM.asg, PM.asgs, PM.setSl, PM.setAll, PM.handOut, PM.endM, PM.parts, PM.owned, PM.isD, PM.runCall, PM.pks, PM.lend, PM.back, PM.take, PM.takes, PM.walkV, PM.walkL, PM.muV, PM.mtD, PM.biD, PM.setIx, PM.isOl, PM.isiV, PM.tyD, PM.isiD, PM.nonV, PM.truV, PM.truD, PM.partD, PM.items, PM.isiD, PM.lcFree, PM.wipeE, PM.backE, PM.intsD, PM.strsD, PM.boolsD, PM.keyD, PM.dKey, PM.enumV, PM.zipV, PM.rangeV] using q3)]
        rfl
    · refine ⟨n, c, w, by omega, by omega, I.fresh hv hh hc, ?_⟩
      rw [ex_if (k := false) (e1 := EN b n c s m s0 s1 ls o6 (some (.d (nmD w))) o8)]
      · rfl
      · rw [ev_and_t e1', ev_and_f (e1 := EN b n c s m s0 s1 ls o6 (some (.d (nmD w))) o8)]
        rw [e2]; simp [PM.exs, PM.ex, PM.ev, PM.evs, PM.lcStep, PM.evo, PM.evt, PM.evi, PM.getS, PM.see, PM.sees, PM.frD, PM.binD, PM.cmpD, PM.stow, PM.stowAll, PM.asg, PM.asgs, PM.setSl, PM.setAll, PM.handOut, PM.endM, PM.parts, PM.owned, PM.isD, PM.runCall, PM.pks, PM.lend, PM.back, PM.take, PM.takes, PM.walkV, PM.walkL, PM.muV, PM.mtD, PM.biD, PM.setIx, PM.isOl, PM.isiV, PM.tyD, PM.isiD, PM.nonV, PM.truV, PM.truD, PM.partD, PM.items, PM.isiD, PM.lcFree, PM.wipeE, PM.backE, PM.intsD, PM.strsD, PM.boolsD, PM.keyD, PM.dKey, PM.enumV, PM.zipV, PM.rangeV, q2]
theorem body_ok (k : Nat) (b : Bool) (n c s m s0 s1 : Int) (ls : List (List Nat)) (o7 o8 : Option Val) (i : Nat) (h1' : 0 ≤ s1 ∧ s1 < 18) (I : Inv (cHead s0 s1) i ls) (hi : i < 9) (hc : ∀ j, j < i → cHead s0 s1 j ≠ cHead s0 s1 i) (h0 : 0 ≤ c) (h1 : c < 98000) :
    ∃ n' c' w' o8', c ≤ c' ∧ c' ≤ c + 8 ∧ Inv (cHead s0 s1) (i + 1) (ls ++ [w']) ∧ exs (cx (k + 2) [true, false]) bodyN (EN b n c s m s0 s1 ls (some (.d (.int i))) o7 o8) = .ok .nx (EN b n' c' s m s0 s1 (ls ++ [w']) (some (.d (.int i))) (some (.d (nmD w'))) o8') := by
  have hcm : okMul s1 i = true := by simp [PM.exs, PM.ex, PM.ev, PM.evs, PM.lcStep, PM.evo, PM.evt, PM.evi, PM.getS, PM.see, PM.sees, PM.frD, PM.binD, PM.cmpD, PM.stow, PM.stowAll, PM.asg, PM.asgs, PM.setSl, PM.setAll, PM.handOut, PM.endM, PM.parts, PM.owned, PM.isD, PM.runCall, PM.pks, PM.lend, PM.back, PM.take, PM.takes, PM.walkV, PM.walkL, PM.muV, PM.mtD, PM.biD, PM.setIx, PM.isOl, PM.isiV, PM.tyD, PM.isiD, PM.nonV, PM.truV, PM.truD, PM.partD, PM.items, PM.isiD, PM.lcFree, PM.wipeE, PM.backE, PM.intsD, PM.strsD, PM.boolsD, PM.keyD, PM.dKey, PM.enumV, PM.zipV, PM.rangeV, okMul]; omega
  have LD := letD ((s0 + s1 * i) % 26) (Int.emod_nonneg _ (by omega)) (Int.emod_lt_of_pos _ (by omega))
  have S1 : ex (cx (k + 2) [true, false]) (.set (.nm 7) (.idx (.v 2) (.bin .Mod (.bin .Add (.v 3) (.bin .Mult (.v 4) (.v 6))) (.c (.int 26))))) (EN b n c s m s0 s1 ls (some (.d (.int i))) o7 o8) = .ok .nx (EN b n c s m s0 s1 ls (some (.d (.int i))) (some (.d (nmD [cHead s0 s1 i]))) o8) := by
    simp [PM.exs, PM.ex, PM.ev, PM.evs, PM.lcStep, PM.evo, PM.evt, PM.evi, PM.getS, PM.see, PM.sees, PM.frD, PM.binD, PM.cmpD, PM.stow, PM.stowAll, PM.asg, PM.asgs, PM.setSl, PM.setAll, PM.handOut, PM.endM, PM.parts, PM.owned, PM.isD, PM.runCall, PM.pks, PM.lend, PM.back, PM.take, PM.takes, PM.walkV, PM.walkL, PM.muV, PM.mtD, PM.biD, PM.setIx, PM.isOl, PM.isiV, PM.tyD, PM.isiD, PM.nonV, PM.truV, PM.truD, PM.partD, PM.items, PM.isiD, PM.lcFree, PM.wipeE, PM.backE, PM.intsD, PM.strsD, PM.boolsD, PM.keyD, PM.dKey, PM.enumV, PM.zipV, PM.rangeV, hcm, LD, cHead]
  obtain ⟨n1, c1, w, o8', a1, a2, a3, a4, S2⟩ := inner_ok k b n c s m s0 s1 ls (some (.d (.int i))) o8 (cHead s0 s1 i) (by unfold cHead; omega) h0 (by omega)
  obtain ⟨n2, c2, w', b1, b2, b3, S3⟩ := ite_ok k b n1 c1 s m s0 s1 ls (some (.d (.int i))) o8' (cHead s0 s1) i I hi w a3 a4 hc (by omega) (by omega)
  refine ⟨n2, c2, w', o8', by omega, by omega, b3, ?_⟩
  rw [exs_nx S1, exs_nx S2, exs_nx S3]
  have hl : ls.length < lineN := by rw [lineN_eq, I.len]; omega
  simp [PM.exs, PM.ex, PM.ev, PM.evs, PM.lcStep, PM.evo, PM.evt, PM.evi, PM.getS, PM.see, PM.sees, PM.frD, PM.binD, PM.cmpD, PM.stow, PM.stowAll, PM.asg, PM.asgs, PM.setSl, PM.setAll, PM.handOut, PM.endM, PM.parts, PM.owned, PM.isD, PM.runCall, PM.pks, PM.lend, PM.back, PM.take, PM.takes, PM.walkV, PM.walkL, PM.muV, PM.mtD, PM.biD, PM.setIx, PM.isOl, PM.isiV, PM.tyD, PM.isiD, PM.nonV, PM.truV, PM.truD, PM.partD, PM.items, PM.isiD, PM.lcFree, PM.wipeE, PM.backE, PM.intsD, PM.strsD, PM.boolsD, PM.keyD, PM.dKey, PM.enumV, PM.zipV, PM.rangeV, hl]
end Lk01
end

section
set_option Elab.async false
set_option linter.all false
set_option maxRecDepth 100000
set_option maxHeartbeats 2000000
namespace Lk01
open PySem PM
abbrev stepsL : ME := .lst [(.c (.int 1)), (.c (.int 3)), (.c (.int 5)), (.c (.int 7)), (.c (.int 9)), (.c (.int 11)), (.c (.int 15)), (.c (.int 17))]
def IsStep (t : Int) : Prop := t = 1 ∨ t = 3 ∨ t = 5 ∨ t = 7 ∨ t = 9 ∨ t = 11 ∨ t = 15 ∨ t = 17
theorem par_ok (k : Nat) (b : Bool) (n c s m : Int) (t2 : Option Val) (h0 : 0 ≤ c) (h1 : c < 98000) :
    ∃ n' s0 s1, IsStep s1 ∧ ex (cx (k + 2) [true, false]) (.par [3, 4] [(.call 6 [(.v 0), (.c (.int 26))]), (.idx stepsL (.call 6 [(.v 0), (.c (.int 8))]))]) [some (st b n c s), some (.d (.int m)), t2, none, none, none, none, none, none] = .ok .nx [some (st b n' (c + 2) s), some (.d (.int m)), t2, some (.d (.int s0)), some (.d (.int s1)), none, none, none, none] := by
  obtain ⟨n1, r1, p0, p1, T1⟩ := take_ev k [true, false] (.c (.int 26)) b n c s 26 [some (.d (.int m)), t2, none, none, none, none, none, none] rfl h0 (by omega) (by omega) (by omega)
  obtain ⟨n2, r2, q0, q1, T2⟩ := take_ev k [true, false] (.c (.int 8)) b n1 (c + 1) s 8 [some (.d (.int m)), t2, none, none, none, none, none, none] rfl (by omega) (by omega) (by omega) (by omega)
  have key : ∃ s1, IsStep s1 ∧ ev (cx (k + 2) [true, false]) (.idx stepsL (.call 6 [(.v 0), (.c (.int 8))])) [some (st b n1 (c + 1) s), some (.d (.int m)), t2, none, none, none, none, none, none] = .ok (.d (.int s1)) [some (st b n2 (c + 1 + 1) s), some (.d (.int m)), t2, none, none, none, none, none, none] := by
    have e0 : ev (cx (k + 2) [true, false]) stepsL [some (st b n1 (c + 1) s), some (.d (.int m)), t2, none, none, none, none, none, none] = .ok (.ol [.d (.int 1), .d (.int 3), .d (.int 5), .d (.int 7), .d (.int 9), .d (.int 11), .d (.int 15), .d (.int 17)]) [some (st b n1 (c + 1) s), some (.d (.int m)), t2, none, none, none, none, none, none] := by
      simp [PM.exs, PM.ex, PM.ev, PM.evs, PM.lcStep, PM.evo, PM.evt, PM.evi, PM.getS, PM.see, PM.sees, PM.frD, PM.binD, PM.cmpD, PM.stow, PM.stowAll, PM.asg, PM.asgs, PM.setSl, PM.setAll, PM.handOut, PM.endM, PM.parts, PM.owned, PM.isD, PM.runCall, PM.pks, PM.lend, PM.back, PM.take, PM.takes, PM.walkV, PM.walkL, PM.muV, PM.mtD, PM.biD, PM.setIx, PM.isOl, PM.isiV, PM.tyD, PM.isiD, PM.nonV, PM.truV, PM.truD, PM.partD, PM.items, PM.isiD, PM.lcFree, PM.wipeE, PM.backE, PM.intsD, PM.strsD, PM.boolsD, PM.keyD, PM.dKey, PM.enumV, PM.zipV, PM.rangeV, lineN_eq]
    have e1 : ev (cx (k + 2) [true, false]) (.idx stepsL (.call 6 [(.v 0), (.c (.int 8))])) [some (st b n1 (c + 1) s), some (.d (.int m)), t2, none, none, none, none, none, none] = opt ((idxD (.list [.int 1, .int 3, .int 5, .int 7, .int 9, .int 11, .int 15, .int 17]) (.int r2)).map .d) [some (st b n2 (c + 1 + 1) s), some (.d (.int m)), t2, none, none, none, none, none, none] := by
      show (ev (cx (k + 2) [true, false]) stepsL _).bind _ = _
      rw [e0]
      show (ev (cx (k + 2) [true, false]) (.call 6 [(.v 0), (.c (.int 8))]) _).bind _ = _
      rw [T2]
      rfl
    rw [e1]
    have : r2 = 0 ∨ r2 = 1 ∨ r2 = 2 ∨ r2 = 3 ∨ r2 = 4 ∨ r2 = 5 ∨ r2 = 6 ∨ r2 = 7 := by omega
    rcases this with rfl | rfl | rfl | rfl | rfl | rfl | rfl | rfl
    · exact ⟨1, by simp [PM.exs, PM.ex, PM.ev, PM.evs, PM.lcStep, PM.evo, PM.evt, PM.evi, PM.getS, PM.see, PM.sees, PM.frD, PM.binD, PM.cmpD, PM.stow, PM.stowAll, PM.asg, PM.asgs, PM.setSl, PM.setAll, PM.handOut, PM.endM, PM.parts, PM.owned, PM.isD, PM.runCall, PM.pks, PM.lend, PM.back, PM.take, PM.takes, PM.walkV, PM.walkL, PM.muV, PM.mtD, PM.biD, PM.setIx, PM.isOl, PM.isiV, PM.tyD, PM.isiD, PM.nonV, PM.truV, PM.truD, PM.partD, PM.items, PM.isiD, PM.lcFree, PM.wipeE, PM.backE, PM.intsD, PM.strsD, PM.boolsD, PM.keyD, PM.dKey, PM.enumV, PM.zipV, PM.rangeV, IsStep], rfl⟩
    · exact ⟨3, by simp [PM.exs, PM.ex, PM.ev, PM.evs, PM.lcStep, PM.evo, PM.evt, PM.evi, PM.getS, PM.see, PM.sees, PM.frD, PM.binD, PM.cmpD, PM.stow, PM.stowAll, PM.asg, PM.asgs, PM.setSl, PM.setAll, PM.handOut, PM.endM, PM.parts, PM.owned, PM.isD, PM.runCall, PM.pks, PM.lend, PM.back, PM.take, PM.takes, PM.walkV, PM.walkL, PM.muV, PM.mtD, PM.biD, PM.setIx, PM.isOl, PM.isiV, PM.tyD, PM.isiD, PM.nonV, PM.truV, PM.truD, PM.partD, PM.items, PM.isiD, PM.lcFree, PM.wipeE, PM.backE, PM.intsD, PM.strsD, PM.boolsD, PM.keyD, PM.dKey, PM.enumV, PM.zipV, PM.rangeV, IsStep], rfl⟩
    · exact ⟨5, by simp [PM.exs, PM.ex, PM.ev, PM.evs, PM.lcStep, PM.evo, PM.evt, PM.evi, PM.getS, PM.see, PM.sees, PM.frD, PM.binD, PM.cmpD, PM.stow, PM.stowAll, PM.asg, PM.asgs, PM.setSl, PM.setAll, PM.handOut, PM.endM, PM.parts, PM.owned, PM.isD, PM.runCall, PM.pks, PM.lend, PM.back, PM.take, PM.takes, PM.walkV, PM.walkL, PM.muV, PM.mtD, PM.biD, PM.setIx, PM.isOl, PM.isiV, PM.tyD, PM.isiD, PM.nonV, PM.truV, PM.truD, PM.partD, PM.items, PM.isiD, PM.lcFree, PM.wipeE, PM.backE, PM.intsD, PM.strsD, PM.boolsD, PM.keyD, PM.dKey, PM.enumV, PM.zipV, PM.rangeV, IsStep], rfl⟩
    · exact ⟨7, by simp [PM.exs, PM.ex, PM.ev, PM.evs, PM.lcStep, PM.evo, PM.evt, PM.evi, PM.getS, PM.see, PM.sees, PM.frD, PM.binD, PM.cmpD, PM.stow, PM.stowAll, PM.asg, PM.asgs, PM.setSl, PM.setAll, PM.handOut, PM.endM, PM.parts, PM.owned, PM.isD, PM.runCall, PM.pks, PM.lend, PM.back, PM.take, PM.takes, PM.walkV, PM.walkL, PM.muV, PM.mtD, PM.biD, PM.setIx, PM.isOl, PM.isiV, PM.tyD, PM.isiD, PM.nonV, PM.truV, PM.truD, PM.partD, PM.items, PM.isiD, PM.lcFree, PM.wipeE, PM.backE, PM.intsD, PM.strsD, PM.boolsD, PM.keyD, PM.dKey, PM.enumV, PM.zipV, PM.rangeV, IsStep], rfl⟩
    · exact ⟨9, by simp [PM.exs, PM.ex, PM.ev, PM.evs, PM.lcStep, PM.evo, PM.evt, PM.evi, PM.getS, PM.see, PM.sees, PM.frD, PM.binD, PM.cmpD, PM.stow, PM.stowAll, PM.asg, PM.asgs, PM.setSl, PM.setAll, PM.handOut, PM.endM, PM.parts, PM.owned, PM.isD, PM.runCall, PM.pks, PM.lend, PM.back, PM.take, PM.takes, PM.walkV, PM.walkL, PM.muV, PM.mtD, PM.biD, PM.setIx, PM.isOl, PM.isiV, PM.tyD, PM.isiD, PM.nonV, PM.truV, PM.truD, PM.partD, PM.items, PM.isiD, PM.lcFree, PM.wipeE, PM.backE, PM.intsD, PM.strsD, PM.boolsD, PM.keyD, PM.dKey, PM.enumV, PM.zipV, PM.rangeV, IsStep], rfl⟩
    · exact ⟨11, by simp [PM.exs, PM.ex, PM.ev, PM.evs, PM.lcStep, PM.evo, PM.evt, PM.evi, PM.getS, PM.see, PM.sees, PM.frD, PM.binD, PM.cmpD, PM.stow, PM.stowAll, PM.asg, PM.asgs, PM.setSl, PM.setAll, PM.handOut, PM.endM, PM.parts, PM.owned, PM.isD, PM.runCall, PM.pks, PM.lend, PM.back, PM.take, PM.takes, PM.walkV, PM.walkL, PM.muV, PM.mtD, PM.biD, PM.setIx, PM.isOl, PM.isiV, PM.tyD, PM.isiD, PM.nonV, PM.truV, PM.truD, PM.partD, PM.items, PM.isiD, PM.lcFree, PM.wipeE, PM.backE, PM.intsD, PM.strsD, PM.boolsD, PM.keyD, PM.dKey, PM.enumV, PM.zipV, PM.rangeV, IsStep], rfl⟩
    · exact ⟨15, by simp [PM.exs, PM.ex, PM.ev, PM.evs, PM.lcStep, PM.evo, PM.evt, PM.evi, PM.getS, PM.see, PM.sees, PM.frD, PM.binD, PM.cmpD, PM.stow, PM.stowAll, PM.asg, PM.asgs, PM.setSl, PM.setAll, PM.handOut, PM.endM, PM.parts, PM.owned, PM.isD, PM.runCall, PM.pks, PM.lend, PM.back, PM.take, PM.takes, PM.walkV, PM.walkL, PM.muV, PM.mtD, PM.biD, PM.setIx, PM.isOl, PM.isiV, PM.tyD, PM.isiD, PM.nonV, PM.truV, PM.truD, PM.partD, PM.items, PM.isiD, PM.lcFree, PM.wipeE, PM.backE, PM.intsD, PM.strsD, PM.boolsD, PM.keyD, PM.dKey, PM.enumV, PM.zipV, PM.rangeV, IsStep], rfl⟩
    · exact ⟨17, by simp [PM.exs, PM.ex, PM.ev, PM.evs, PM.lcStep, PM.evo, PM.evt, PM.evi, PM.getS, PM.see, PM.sees, PM.frD, PM.binD, PM.cmpD, PM.stow, PM.stowAll, PM.asg, PM.asgs, PM.setSl, PM.setAll, PM.handOut, PM.endM, PM.parts, PM.owned, PM.isD, PM.runCall, PM.pks, PM.lend, PM.back, PM.take, PM.takes, PM.walkV, PM.walkL, PM.muV, PM.mtD, PM.biD, PM.setIx, PM.isOl, PM.isiV, PM.tyD, PM.isiD, PM.nonV, PM.truV, PM.truD, PM.partD, PM.items, PM.isiD, PM.lcFree, PM.wipeE, PM.backE, PM.intsD, PM.strsD, PM.boolsD, PM.keyD, PM.dKey, PM.enumV, PM.zipV, PM.rangeV, IsStep], rfl⟩
  obtain ⟨s1, hs, K⟩ := key
  refine ⟨n2, r1, s1, hs, ?_⟩
  show (((ev (cx (k + 2) [true, false]) (.call 6 [(.v 0), (.c (.int 26))]) _).bind fun v e1 => ((ev (cx (k + 2) [true, false]) (.idx stepsL (.call 6 [(.v 0), (.c (.int 8))])) e1).bind fun v e1 => (Res.ok [] e1).bind fun vs e2 => Res.ok (v :: vs) e2).bind fun vs e2 => Res.ok (v :: vs) e2)).bind _ = _
  rw [T1, Res.bind_ok, K]
  simp [PM.exs, PM.ex, PM.ev, PM.evs, PM.lcStep, PM.evo, PM.evt, PM.evi, PM.getS, PM.see, PM.sees, PM.frD, PM.binD, PM.cmpD, PM.stow, PM.stowAll, PM.asg, PM.asgs, PM.setSl, PM.setAll, PM.handOut, PM.endM, PM.parts, PM.owned, PM.isD, PM.runCall, PM.pks, PM.lend, PM.back, PM.take, PM.takes, PM.walkV, PM.walkL, PM.muV, PM.mtD, PM.biD, PM.setIx, PM.isOl, PM.isiV, PM.tyD, PM.isiD, PM.nonV, PM.truV, PM.truD, PM.partD, PM.items, PM.isiD, PM.lcFree, PM.wipeE, PM.backE, PM.intsD, PM.strsD, PM.boolsD, PM.keyD, PM.dKey, PM.enumV, PM.zipV, PM.rangeV]
  omega
theorem evi_rng1 {c : PM.Ctx} {a : ME} {j : Int} {e e1 : PM.Env} (h : ev c a e = .ok (.d (.int j)) e1) (h0 : 0 ≤ j) (h1 : j < 1000000) : evi c (.rng1 a) e = .ok (rangeV 0 j.toNat) e1 := by
  show (ev c a e).bind _ = _
  rw [h]
  show (if -(2 ^ 62) ≤ j ∧ j < 2 ^ 62 then Res.ok (rangeV 0 j.toNat) _ else Res.no) = _
  rw [if_pos (by omega)]
theorem call_names_by (k : Nat) (b : Bool) (n c s : Int) (m : Nat) (hm : m ≤ 9) (h0 : 0 ≤ c) (h1 : c < 90000) :
    ∃ n' c' ls, c ≤ c' ∧ c' ≤ c + 100 ∧ ls.length = m ∧ (∀ l ∈ ls, Valid l) ∧ ls.Nodup ∧ callM T.prog (k + 3) 7 [st b n c s, .d (.int m)] = .ok (.ol (vals ls)) [st b n' c' s, .d (.int m)] := by
  rw [go2 (fd := d__law_names_by.d) rfl ⟨rfl, by decide⟩]
  obtain ⟨n1, s0, s1, hs, S2⟩ := par_ok k b n c s m (some (.d (.str (Str.ofString "abcdefghijklmnopqrstuvwxyz")))) h0 (by omega)
  have S1 : ex (cx (k + 2) [true, false]) (.set (.nm 2) (.c (.str "abcdefghijklmnopqrstuvwxyz"))) [some (st b n c s), some (.d (.int m)), none, none, none, none, none, none, none] = .ok .nx [some (st b n c s), some (.d (.int m)), some (.d (.str (Str.ofString "abcdefghijklmnopqrstuvwxyz"))), none, none, none, none, none, none] := by simp [PM.exs, PM.ex, PM.ev, PM.evs, PM.lcStep, PM.evo, PM.evt, PM.evi, PM.getS, PM.see, PM.sees, PM.frD, PM.binD, PM.cmpD, PM.stow, PM.stowAll, PM.asg, PM.asgs, PM.setSl, PM.setAll, PM.handOut, PM.endM, PM.parts, PM.owned, PM.isD, PM.runCall, PM.pks, PM.lend, PM.back, PM.take, PM.takes, PM.walkV, PM.walkL, PM.muV, PM.mtD, PM.biD, PM.setIx, PM.isOl, PM.isiV, PM.tyD, PM.isiD, PM.nonV, PM.truV, PM.truD, PM.partD, PM.items, PM.isiD, PM.lcFree, PM.wipeE, PM.backE, PM.intsD, PM.strsD, PM.boolsD, PM.keyD, PM.dKey, PM.enumV, PM.zipV, PM.rangeV]
  have S3 : ex (cx (k + 2) [true, false]) (.set (.nm 5) (.lst [])) [some (st b n1 (c + 2) s), some (.d (.int m)), some (.d (.str (Str.ofString "abcdefghijklmnopqrstuvwxyz"))), some (.d (.int s0)), some (.d (.int s1)), none, none, none, none] = .ok .nx (EN b n1 (c + 2) s m s0 s1 [] none none none) := by
    simp [PM.exs, PM.ex, PM.ev, PM.evs, PM.lcStep, PM.evo, PM.evt, PM.evi, PM.getS, PM.see, PM.sees, PM.frD, PM.binD, PM.cmpD, PM.stow, PM.stowAll, PM.asg, PM.asgs, PM.setSl, PM.setAll, PM.handOut, PM.endM, PM.parts, PM.owned, PM.isD, PM.runCall, PM.pks, PM.lend, PM.back, PM.take, PM.takes, PM.walkV, PM.walkL, PM.muV, PM.mtD, PM.biD, PM.setIx, PM.isOl, PM.isiV, PM.tyD, PM.isiD, PM.nonV, PM.truV, PM.truD, PM.partD, PM.items, PM.isiD, PM.lcFree, PM.wipeE, PM.backE, PM.intsD, PM.strsD, PM.boolsD, PM.keyD, PM.dKey, PM.enumV, PM.zipV, PM.rangeV, vals]
  have hr : 0 ≤ s1 ∧ s1 < 18 := by rcases hs with rfl | rfl | rfl | rfl | rfl | rfl | rfl | rfl <;> omega
  have L := forL_ok (f := fun x e2 => match asg (cx (k + 2) [true, false]) (.nm 6) (.d x) e2 with
    | some e3 => exs (cx (k + 2) [true, false]) bodyN e3
    | none => Res.no) (xs := rangeV 0 m) (e := EN b n1 (c + 2) s m s0 s1 [] none none none)
    (fun i e => ∃ n' c' ls o6 o7 o8, c ≤ c' ∧ c' ≤ c + 2 + 8 * i ∧ Inv (cHead s0 s1) i ls ∧ e = EN b n' c' s m s0 s1 ls o6 o7 o8)
    ⟨n1, c + 2, [], none, none, none, by omega, by omega, Inv.nil _, rfl⟩
    (fun i x e hi P => by
      obtain ⟨rfl, hi2⟩ := rangeV_get _ _ _ _ hi
      obtain ⟨n', c', ls, o6, o7, o8, a1, a2, I, rfl⟩ := P
      obtain ⟨n2, c2, w', o8', b1, b2, I2, B⟩ := body_ok k b n' c' s m s0 s1 ls o7 o8 i hr I (by omega) (fun j hj => heads s0 s1 hs j i hj (by omega)) (by omega) (by omega)
      refine ⟨_, ?_, n2, c2, ls ++ [w'], some (.d (.int i)), some (.d (nmD w')), o8', by omega, by push_cast; omega, I2, rfl⟩
      show exs (cx (k + 2) [true, false]) bodyN (EN b n' c' s m s0 s1 ls (some (.d (.int (0 + i)))) o7 o8) = _
      rw [show (0 : Int) + i = i by omega]
      exact B)
  obtain ⟨e', L1, n', c', ls, o6, o7, o8, a1, a2, I, rfl⟩ := L
  rw [rangeV_len] at I a2
  refine ⟨n', c', ls, a1, by omega, I.len, I.ok, I.nd, ?_⟩
  have S4 : ex (cx (k + 2) [true, false]) (.for_ (.nm 6) (.rng1 (.v 1)) bodyN) (EN b n1 (c + 2) s m s0 s1 [] none none none) = .ok .nx (EN b n' c' s m s0 s1 ls o6 o7 o8) := by
    rw [show ex (cx (k + 2) [true, false]) (.for_ (.nm 6) (.rng1 (.v 1)) bodyN) (EN b n1 (c + 2) s m s0 s1 [] none none none) = (evi (cx (k + 2) [true, false]) (.rng1 (.v 1)) (EN b n1 (c + 2) s m s0 s1 [] none none none)).bind (fun xs e1 => forL (fun x e2 => match asg (cx (k + 2) [true, false]) (.nm 6) (.d x) e2 with
      | some e3 => exs (cx (k + 2) [true, false]) bodyN e3
      | none => Res.no) xs e1) by rw [ex] <;> rfl]
    rw [show evi (cx (k + 2) [true, false]) (.rng1 (.v 1)) (EN b n1 (c + 2) s m s0 s1 [] none none none) = .ok (rangeV 0 m) (EN b n1 (c + 2) s m s0 s1 [] none none none) by
      rw [evi_rng1 (j := (m : Int)) (e1 := EN b n1 (c + 2) s m s0 s1 [] none none none) (by simp [PM.exs, PM.ex, PM.ev, PM.evs, PM.lcStep, PM.evo, PM.evt, PM.evi, PM.getS, PM.see, PM.sees, PM.frD, PM.binD, PM.cmpD, PM.stow, PM.stowAll, PM.asg, PM.asgs, PM.setSl, PM.setAll, PM.handOut, PM.endM, PM.parts, PM.owned, PM.isD, PM.runCall, PM.pks, PM.lend, PM.back, PM.take, PM.takes, PM.walkV, PM.walkL, PM.muV, PM.mtD, PM.biD, PM.setIx, PM.isOl, PM.isiV, PM.tyD, PM.isiD, PM.nonV, PM.truV, PM.truD, PM.partD, PM.items, PM.isiD, PM.lcFree, PM.wipeE, PM.backE, PM.intsD, PM.strsD, PM.boolsD, PM.keyD, PM.dKey, PM.enumV, PM.zipV, PM.rangeV]) (by omega) (by omega), Int.toNat_natCast]]
    rw [Res.bind_ok]
    exact L1
  show endM _ (exs (cx (k + 2) [true, false]) [_, _, _, _, _] [some (st b n c s), some (.d (.int m)), none, none, none, none, none, none, none]) = _
  rw [exs_nx S1, exs_nx S2, exs_nx S3, exs_nx S4]
  simp [PM.exs, PM.ex, PM.ev, PM.evs, PM.lcStep, PM.evo, PM.evt, PM.evi, PM.getS, PM.see, PM.sees, PM.frD, PM.binD, PM.cmpD, PM.stow, PM.stowAll, PM.asg, PM.asgs, PM.setSl, PM.setAll, PM.handOut, PM.endM, PM.parts, PM.owned, PM.isD, PM.runCall, PM.pks, PM.lend, PM.back, PM.take, PM.takes, PM.walkV, PM.walkL, PM.muV, PM.mtD, PM.biD, PM.setIx, PM.isOl, PM.isiV, PM.tyD, PM.isiD, PM.nonV, PM.truV, PM.truD, PM.partD, PM.items, PM.isiD, PM.lcFree, PM.wipeE, PM.backE, PM.intsD, PM.strsD, PM.boolsD, PM.keyD, PM.dKey, PM.enumV, PM.zipV, PM.rangeV]
end Lk01
end

section
set_option Elab.async false
set_option linter.all false
set_option maxRecDepth 100000
set_option maxHeartbeats 2000000
namespace Lk01
open PySem PM
theorem ev_bin {c : PM.Ctx} {op : Operator} {a b : ME} {va vb z : Val} {x y : D} {e e1 e2 : PM.Env} (h1 : ev c a e = .ok va e1) (h2 : ev c b e1 = .ok vb e2) (sx : see e2 va = some x) (sy : see e2 vb = some y) (hz : binD op x y = some z) : ev c (.bin op a b) e = .ok z e2 := by
  show (ev c a e).bind _ = _
  rw [h1]
  show (ev c b e1).bind _ = _
  rw [h2]
  show (match see e2 va, see e2 vb with
    | some x, some y => opt (binD op x y) e2
    | _, _ => Res.no) = _
  rw [sx, sy]
  show opt (binD op x y) e2 = _
  rw [hz]; rfl
theorem ev_sli {c : PM.Ctx} {a : ME} {lo hi : Option ME} {va z : Val} {x : D} {l h : Option Int} {e e1 e2 e3 : PM.Env} (h1 : ev c a e = .ok va e1) (h2 : evo c lo e1 = .ok l e2) (h3 : evo c hi e2 = .ok h e3) (sx : see e3 va = some x) (hz : sliD x l h = some z) : ev c (.sli a lo hi) e = .ok z e3 := by
  show (ev c a e).bind _ = _
  rw [h1]
  show (evo c lo e1).bind _ = _
  rw [h2]
  show (evo c hi e2).bind _ = _
  rw [h3]
  show (match see e3 va with
    | some x => opt (sliD x l h) e3
    | none => Res.no) = _
  rw [sx]
  show opt (sliD x l h) e3 = _
  rw [hz]; rfl
theorem ev_idx {c : PM.Ctx} {a b : ME} {va vb : Val} {x y z : D} {e e1 e2 : PM.Env} (h1 : ev c a e = .ok va e1) (h2 : ev c b e1 = .ok vb e2) (sx : see e2 va = some x) (sy : see e2 vb = some y) (hz : idxD x y = some z) : ev c (.idx a b) e = .ok (.d z) e2 := by
  show (ev c a e).bind _ = _
  rw [h1]
  show (ev c b e1).bind _ = _
  rw [h2]
  show (match see e2 va, see e2 vb with
    | some x, some k => opt ((idxD x k).map Val.d) e2
    | _, _ => Res.no) = _
  rw [sx, sy]
  show opt ((idxD x y).map Val.d) e2 = _
  rw [hz]; rfl
theorem evs_nil' {c : PM.Ctx} {e : PM.Env} : evs c [] e = .ok [] e := rfl
theorem evs_cons' {c : PM.Ctx} {a : ME} {r : List ME} {v : Val} {vs : List Val} {e e1 e2 : PM.Env} (h : ev c a e = .ok v e1) (h2 : evs c r e1 = .ok vs e2) : evs c (a :: r) e = .ok (v :: vs) e2 := by
  show (ev c a e).bind _ = _
  rw [h]
  show (evs c r e1).bind _ = _
  rw [h2]
  rfl
theorem ev_lst {c : PM.Ctx} {es : List ME} {vs : List Val} {ds : List D} {e e1 e2 : PM.Env} (h : evs c es e = .ok vs e1) (ht : takes e1 vs = some (ds, e2)) (hl : ds.length ≤ 1000) : ev c (.lst es) e = .ok (.ol (ds.map .d)) e2 := by
  show (evs c es e).bind _ = _
  rw [h]
  show (match takes e1 vs with
    | some (ds, e2) => if ds.length ≤ lineN then Res.ok (Val.ol (ds.map .d)) e2 else Res.no
    | none => Res.no) = _
  rw [ht]
  show (if ds.length ≤ lineN then Res.ok (Val.ol (ds.map .d)) e2 else Res.no) = _
  rw [if_pos (by rw [lineN_eq]; omega)]
theorem addW {a b : List Nat} (h : a.length + b.length ≤ 1000000) : binD .Add (nmD a) (nmD b) = some (.d (nmD (a ++ b))) := by
  show (if (W a).length + (W b).length ≤ lineN then some (Val.d (.str (W a ++ W b))) else none) = _
  rw [if_pos (by rw [lineN_eq, W_len, W_len]; omega), W_app]
theorem cut_len {α : Type} (xs : List α) (lo hi : Option Int) : (cut xs lo hi).length ≤ xs.length := by
  unfold cut
  rw [List.length_take, List.length_drop]
  omega
theorem sliW {a : List Nat} {lo hi : Option Int} (h : a.length ≤ 1000000) : sliD (nmD a) lo hi = some (.d (nmD (cut a lo hi))) := by
  show (if (W a).length ≤ lineN then some (Val.d (.str ⟨(cut (W a).cps.toList lo hi).toArray⟩)) else none) = _
  rw [if_pos (by rw [lineN_eq, W_len]; omega), W_cps]
  rfl
theorem mulW {a : List Nat} (h : a.length ≤ 1000) : binD .Mult (nmD a) (.int 5000) = some (.d (nmD (repD a 5000))) := by
  show (if (0 : Int) ≤ 5000 ∧ (5000 : Int) < 2 ^ 62 ∧ (W a).length * (5000 : Int).toNat ≤ lineN then some (Val.d (.str ⟨(repD (W a).cps.toList 5000).toArray⟩)) else none) = _
  rw [if_pos ⟨by omega, by omega, by rw [lineN_eq, W_len]; show a.length * 5000 ≤ _; omega⟩, W_cps]
  rfl
theorem sA : Str.ofString "abcdef" = W [97, 98, 99, 100, 101, 102] := by decide +kernel
theorem sE : Str.ofString "" = W [] := by decide +kernel
theorem sN : Str.ofString "\n" = W [10] := by decide +kernel
theorem sZ : Str.ofString "z" = W [122] := by decide +kernel
/-- not a name -/
def Odd (d : D) : Prop := Fit d ∧ isName d = false
theorem odd_in {l : List Nat} {g : Nat} (hg : ¬ (97 ≤ g ∧ g < 123)) (hm : g ∈ l) (hl : l.length ≤ 1000000) : Odd (nmD l) := by
  refine ⟨show (W l).length ≤ _ by rw [W_len]; omega, ?_⟩
  cases q : isName (nmD l) with
  | false => rfl
  | true => exact absurd ((isName_nm l).mp q |>.2.2 g hm) hg
theorem odd_len {l : List Nat} (h : l.length = 0 ∨ 6 < l.length) (hl : l.length ≤ 1000000) : Odd (nmD l) := by
  refine ⟨show (W l).length ≤ _ by rw [W_len]; omega, ?_⟩
  cases q : isName (nmD l) with
  | false => rfl
  | true => have v := (isName_nm l).mp q; have v1 := v.1; have v2 := v.2.1; omega
abbrev menuA : ME := .lst [(.bin .Add (.bin .Add (.sli (.v 1) none (some (.v 2))) (.v 3)) (.sli (.v 1) (some (.bin .Add (.v 2) (.c (.int 1)))) none)), (.bin .Add (.bin .Add (.sli (.v 1) none (some (.v 2))) (.v 3)) (.sli (.v 1) (some (.v 2)) none)), (.sli (.bin .Add (.v 1) (.c (.str "abcdef"))) none (some (.c (.int 7)))), (.c (.str "")), (.c .none), (.c (.int 5)), (.c (.bool true))]
abbrev menuB : ME := .bin .Add (.v 4) (.lst [(.lst [(.v 1)]), (.tup [(.v 1)]), (.bin .Mult (.v 1) (.c (.int 5000))), (.dic [(.v 1), (.c (.int 1))]), (.bin .Add (.v 1) (.c (.str "\n")))])
def dsA (w : List Nat) (at_ : Int) (g : Nat) : List D := [nmD (cut w none (some at_) ++ [g] ++ cut w (some (at_ + 1)) none), nmD (cut w none (some at_) ++ [g] ++ cut w (some at_) none), nmD (cut (w ++ [97, 98, 99, 100, 101, 102]) none (some 7)), nmD [], .none, .int 5, .bool true]
def dsB (w : List Nat) : List D := [.list [nmD w], .tuple [nmD w], nmD (repD w 5000), .dict [(nmD w, .int 1)], nmD (w ++ [10])]
theorem odds (w : List Nat) (hv : Valid w) (at_ : Int) (g : Nat) (hg : ¬ (97 ≤ g ∧ g < 123)) : ∀ d ∈ dsA w at_ g ++ dsB w, Odd d := by
  have c1 := cut_len w none (some at_)
  have c2 := cut_len w (some (at_ + 1)) none
  have c3 := cut_len w (some at_) none
  have hl := hv.2.1
  have hl0 := hv.1
  intro d hd
  simp only [dsA, dsB, List.cons_append, List.nil_append, List.mem_cons, List.not_mem_nil, or_false] at hd
  rcases hd with rfl | rfl | rfl | rfl | rfl | rfl | rfl | rfl | rfl | rfl | rfl | rfl
  · exact odd_in hg (by simp [PM.exs, PM.ex, PM.ev, PM.evs, PM.lcStep, PM.evo, PM.evt, PM.evi, PM.getS, PM.see, PM.sees, PM.frD, PM.binD, PM.cmpD, PM.stow, PM.stowAll, PM.asg, PM.asgs, PM.setSl, PM.setAll, PM.handOut, PM.endM, PM.parts, PM.owned, PM.isD, PM.runCall, PM.pks, PM.lend, PM.back, PM.take, PM.takes, PM.walkV, PM.walkL, PM.muV, PM.mtD, PM.biD, PM.setIx, PM.isOl, PM.isiV, PM.tyD, PM.isiD, PM.nonV, PM.truV, PM.truD, PM.partD, PM.items, PM.isiD, PM.lcFree, PM.wipeE, PM.backE, PM.intsD, PM.strsD, PM.boolsD, PM.keyD, PM.dKey, PM.enumV, PM.zipV, PM.rangeV]) (by simp [PM.exs, PM.ex, PM.ev, PM.evs, PM.lcStep, PM.evo, PM.evt, PM.evi, PM.getS, PM.see, PM.sees, PM.frD, PM.binD, PM.cmpD, PM.stow, PM.stowAll, PM.asg, PM.asgs, PM.setSl, PM.setAll, PM.handOut, PM.endM, PM.parts, PM.owned, PM.isD, PM.runCall, PM.pks, PM.lend, PM.back, PM.take, PM.takes, PM.walkV, PM.walkL, PM.muV, PM.mtD, PM.biD, PM.setIx, PM.isOl, PM.isiV, PM.tyD, PM.isiD, PM.nonV, PM.truV, PM.truD, PM.partD, PM.items, PM.isiD, PM.lcFree, PM.wipeE, PM.backE, PM.intsD, PM.strsD, PM.boolsD, PM.keyD, PM.dKey, PM.enumV, PM.zipV, PM.rangeV]; omega)
  · exact odd_in hg (by simp [PM.exs, PM.ex, PM.ev, PM.evs, PM.lcStep, PM.evo, PM.evt, PM.evi, PM.getS, PM.see, PM.sees, PM.frD, PM.binD, PM.cmpD, PM.stow, PM.stowAll, PM.asg, PM.asgs, PM.setSl, PM.setAll, PM.handOut, PM.endM, PM.parts, PM.owned, PM.isD, PM.runCall, PM.pks, PM.lend, PM.back, PM.take, PM.takes, PM.walkV, PM.walkL, PM.muV, PM.mtD, PM.biD, PM.setIx, PM.isOl, PM.isiV, PM.tyD, PM.isiD, PM.nonV, PM.truV, PM.truD, PM.partD, PM.items, PM.isiD, PM.lcFree, PM.wipeE, PM.backE, PM.intsD, PM.strsD, PM.boolsD, PM.keyD, PM.dKey, PM.enumV, PM.zipV, PM.rangeV]) (by simp [PM.exs, PM.ex, PM.ev, PM.evs, PM.lcStep, PM.evo, PM.evt, PM.evi, PM.getS, PM.see, PM.sees, PM.frD, PM.binD, PM.cmpD, PM.stow, PM.stowAll, PM.asg, PM.asgs, PM.setSl, PM.setAll, PM.handOut, PM.endM, PM.parts, PM.owned, PM.isD, PM.runCall, PM.pks, PM.lend, PM.back, PM.take, PM.takes, PM.walkV, PM.walkL, PM.muV, PM.mtD, PM.biD, PM.setIx, PM.isOl, PM.isiV, PM.tyD, PM.isiD, PM.nonV, PM.truV, PM.truD, PM.partD, PM.items, PM.isiD, PM.lcFree, PM.wipeE, PM.backE, PM.intsD, PM.strsD, PM.boolsD, PM.keyD, PM.dKey, PM.enumV, PM.zipV, PM.rangeV]; omega)
  · have : (cut (w ++ [97, 98, 99, 100, 101, 102]) none (some 7)).length = 7 := by
      unfold cut
      rw [List.length_take, List.length_drop]
      simp [PM.exs, PM.ex, PM.ev, PM.evs, PM.lcStep, PM.evo, PM.evt, PM.evi, PM.getS, PM.see, PM.sees, PM.frD, PM.binD, PM.cmpD, PM.stow, PM.stowAll, PM.asg, PM.asgs, PM.setSl, PM.setAll, PM.handOut, PM.endM, PM.parts, PM.owned, PM.isD, PM.runCall, PM.pks, PM.lend, PM.back, PM.take, PM.takes, PM.walkV, PM.walkL, PM.muV, PM.mtD, PM.biD, PM.setIx, PM.isOl, PM.isiV, PM.tyD, PM.isiD, PM.nonV, PM.truV, PM.truD, PM.partD, PM.items, PM.isiD, PM.lcFree, PM.wipeE, PM.backE, PM.intsD, PM.strsD, PM.boolsD, PM.keyD, PM.dKey, PM.enumV, PM.zipV, PM.rangeV, HT.sIx]
      omega
    exact odd_len (by omega) (by omega)
  · exact odd_len (.inl rfl) (by simp [PM.exs, PM.ex, PM.ev, PM.evs, PM.lcStep, PM.evo, PM.evt, PM.evi, PM.getS, PM.see, PM.sees, PM.frD, PM.binD, PM.cmpD, PM.stow, PM.stowAll, PM.asg, PM.asgs, PM.setSl, PM.setAll, PM.handOut, PM.endM, PM.parts, PM.owned, PM.isD, PM.runCall, PM.pks, PM.lend, PM.back, PM.take, PM.takes, PM.walkV, PM.walkL, PM.muV, PM.mtD, PM.biD, PM.setIx, PM.isOl, PM.isiV, PM.tyD, PM.isiD, PM.nonV, PM.truV, PM.truD, PM.partD, PM.items, PM.isiD, PM.lcFree, PM.wipeE, PM.backE, PM.intsD, PM.strsD, PM.boolsD, PM.keyD, PM.dKey, PM.enumV, PM.zipV, PM.rangeV])
  · exact ⟨trivial, rfl⟩
  · exact ⟨trivial, rfl⟩
  · exact ⟨trivial, rfl⟩
  · exact ⟨trivial, rfl⟩
  · exact ⟨trivial, rfl⟩
  · have : (repD w 5000).length = 5000 * w.length := by
      unfold repD
      rw [List.length_flatten, List.map_replicate, List.sum_replicate_nat]
      rfl
    exact odd_len (by omega) (by omega)
  · exact ⟨trivial, rfl⟩
  · exact odd_in (g := 10) (by omega) (by simp [PM.exs, PM.ex, PM.ev, PM.evs, PM.lcStep, PM.evo, PM.evt, PM.evi, PM.getS, PM.see, PM.sees, PM.frD, PM.binD, PM.cmpD, PM.stow, PM.stowAll, PM.asg, PM.asgs, PM.setSl, PM.setAll, PM.handOut, PM.endM, PM.parts, PM.owned, PM.isD, PM.runCall, PM.pks, PM.lend, PM.back, PM.take, PM.takes, PM.walkV, PM.walkL, PM.muV, PM.mtD, PM.biD, PM.setIx, PM.isOl, PM.isiV, PM.tyD, PM.isiD, PM.nonV, PM.truV, PM.truD, PM.partD, PM.items, PM.isiD, PM.lcFree, PM.wipeE, PM.backE, PM.intsD, PM.strsD, PM.boolsD, PM.keyD, PM.dKey, PM.enumV, PM.zipV, PM.rangeV]) (by simp [PM.exs, PM.ex, PM.ev, PM.evs, PM.lcStep, PM.evo, PM.evt, PM.evi, PM.getS, PM.see, PM.sees, PM.frD, PM.binD, PM.cmpD, PM.stow, PM.stowAll, PM.asg, PM.asgs, PM.setSl, PM.setAll, PM.handOut, PM.endM, PM.parts, PM.owned, PM.isD, PM.runCall, PM.pks, PM.lend, PM.back, PM.take, PM.takes, PM.walkV, PM.walkL, PM.muV, PM.mtD, PM.biD, PM.setIx, PM.isOl, PM.isiV, PM.tyD, PM.isiD, PM.nonV, PM.truV, PM.truD, PM.partD, PM.items, PM.isiD, PM.lcFree, PM.wipeE, PM.backE, PM.intsD, PM.strsD, PM.boolsD, PM.keyD, PM.dKey, PM.enumV, PM.zipV, PM.rangeV]; omega)
theorem menuA_ok (c : PM.Ctx) (s0 : Option Val) (w : List Nat) (hv : Valid w) (at_ : Int) (g : Nat) : ev c menuA [s0, some (.d (nmD w)), some (.d (.int at_)), some (.d (nmD [g])), none] = .ok (.ol ((dsA w at_ g).map .d)) [s0, some (.d (nmD w)), some (.d (.int at_)), some (.d (nmD [g])), none] := by
  have hl := hv.2.1
  have c1 := cut_len w none (some at_)
  have c2 := cut_len w (some (at_ + 1)) none
  have c3 := cut_len w (some at_) none
  refine ev_lst (evs_cons' (ev_bin (ev_bin (ev_sli rfl rfl rfl rfl (sliW (by omega))) rfl rfl rfl (addW (by simp [PM.exs, PM.ex, PM.ev, PM.evs, PM.lcStep, PM.evo, PM.evt, PM.evi, PM.getS, PM.see, PM.sees, PM.frD, PM.binD, PM.cmpD, PM.stow, PM.stowAll, PM.asg, PM.asgs, PM.setSl, PM.setAll, PM.handOut, PM.endM, PM.parts, PM.owned, PM.isD, PM.runCall, PM.pks, PM.lend, PM.back, PM.take, PM.takes, PM.walkV, PM.walkL, PM.muV, PM.mtD, PM.biD, PM.setIx, PM.isOl, PM.isiV, PM.tyD, PM.isiD, PM.nonV, PM.truV, PM.truD, PM.partD, PM.items, PM.isiD, PM.lcFree, PM.wipeE, PM.backE, PM.intsD, PM.strsD, PM.boolsD, PM.keyD, PM.dKey, PM.enumV, PM.zipV, PM.rangeV]; omega))) (ev_sli (l := some (at_ + 1)) rfl rfl rfl rfl (sliW (by omega))) rfl rfl (addW (by simp [PM.exs, PM.ex, PM.ev, PM.evs, PM.lcStep, PM.evo, PM.evt, PM.evi, PM.getS, PM.see, PM.sees, PM.frD, PM.binD, PM.cmpD, PM.stow, PM.stowAll, PM.asg, PM.asgs, PM.setSl, PM.setAll, PM.handOut, PM.endM, PM.parts, PM.owned, PM.isD, PM.runCall, PM.pks, PM.lend, PM.back, PM.take, PM.takes, PM.walkV, PM.walkL, PM.muV, PM.mtD, PM.biD, PM.setIx, PM.isOl, PM.isiV, PM.tyD, PM.isiD, PM.nonV, PM.truV, PM.truD, PM.partD, PM.items, PM.isiD, PM.lcFree, PM.wipeE, PM.backE, PM.intsD, PM.strsD, PM.boolsD, PM.keyD, PM.dKey, PM.enumV, PM.zipV, PM.rangeV]; omega)))
    (evs_cons' (ev_bin (ev_bin (ev_sli rfl rfl rfl rfl (sliW (by omega))) rfl rfl rfl (addW (by simp [PM.exs, PM.ex, PM.ev, PM.evs, PM.lcStep, PM.evo, PM.evt, PM.evi, PM.getS, PM.see, PM.sees, PM.frD, PM.binD, PM.cmpD, PM.stow, PM.stowAll, PM.asg, PM.asgs, PM.setSl, PM.setAll, PM.handOut, PM.endM, PM.parts, PM.owned, PM.isD, PM.runCall, PM.pks, PM.lend, PM.back, PM.take, PM.takes, PM.walkV, PM.walkL, PM.muV, PM.mtD, PM.biD, PM.setIx, PM.isOl, PM.isiV, PM.tyD, PM.isiD, PM.nonV, PM.truV, PM.truD, PM.partD, PM.items, PM.isiD, PM.lcFree, PM.wipeE, PM.backE, PM.intsD, PM.strsD, PM.boolsD, PM.keyD, PM.dKey, PM.enumV, PM.zipV, PM.rangeV]; omega))) (ev_sli rfl rfl rfl rfl (sliW (by omega))) rfl rfl (addW (by simp [PM.exs, PM.ex, PM.ev, PM.evs, PM.lcStep, PM.evo, PM.evt, PM.evi, PM.getS, PM.see, PM.sees, PM.frD, PM.binD, PM.cmpD, PM.stow, PM.stowAll, PM.asg, PM.asgs, PM.setSl, PM.setAll, PM.handOut, PM.endM, PM.parts, PM.owned, PM.isD, PM.runCall, PM.pks, PM.lend, PM.back, PM.take, PM.takes, PM.walkV, PM.walkL, PM.muV, PM.mtD, PM.biD, PM.setIx, PM.isOl, PM.isiV, PM.tyD, PM.isiD, PM.nonV, PM.truV, PM.truD, PM.partD, PM.items, PM.isiD, PM.lcFree, PM.wipeE, PM.backE, PM.intsD, PM.strsD, PM.boolsD, PM.keyD, PM.dKey, PM.enumV, PM.zipV, PM.rangeV]; omega)))
    (evs_cons' (ev_sli (ev_bin (va := .d (nmD w)) (vb := .d (.str (Str.ofString "abcdef"))) rfl rfl rfl rfl (by rw [sA]; exact addW (by simp [PM.exs, PM.ex, PM.ev, PM.evs, PM.lcStep, PM.evo, PM.evt, PM.evi, PM.getS, PM.see, PM.sees, PM.frD, PM.binD, PM.cmpD, PM.stow, PM.stowAll, PM.asg, PM.asgs, PM.setSl, PM.setAll, PM.handOut, PM.endM, PM.parts, PM.owned, PM.isD, PM.runCall, PM.pks, PM.lend, PM.back, PM.take, PM.takes, PM.walkV, PM.walkL, PM.muV, PM.mtD, PM.biD, PM.setIx, PM.isOl, PM.isiV, PM.tyD, PM.isiD, PM.nonV, PM.truV, PM.truD, PM.partD, PM.items, PM.isiD, PM.lcFree, PM.wipeE, PM.backE, PM.intsD, PM.strsD, PM.boolsD, PM.keyD, PM.dKey, PM.enumV, PM.zipV, PM.rangeV]; omega))) rfl rfl rfl (sliW (by simp [PM.exs, PM.ex, PM.ev, PM.evs, PM.lcStep, PM.evo, PM.evt, PM.evi, PM.getS, PM.see, PM.sees, PM.frD, PM.binD, PM.cmpD, PM.stow, PM.stowAll, PM.asg, PM.asgs, PM.setSl, PM.setAll, PM.handOut, PM.endM, PM.parts, PM.owned, PM.isD, PM.runCall, PM.pks, PM.lend, PM.back, PM.take, PM.takes, PM.walkV, PM.walkL, PM.muV, PM.mtD, PM.biD, PM.setIx, PM.isOl, PM.isiV, PM.tyD, PM.isiD, PM.nonV, PM.truV, PM.truD, PM.partD, PM.items, PM.isiD, PM.lcFree, PM.wipeE, PM.backE, PM.intsD, PM.strsD, PM.boolsD, PM.keyD, PM.dKey, PM.enumV, PM.zipV, PM.rangeV]; omega)))
    (evs_cons' (v := .d (nmD [])) (by show Res.ok (Val.d (.str (Str.ofString ""))) _ = _; rw [sE]) (evs_cons' rfl (evs_cons' rfl (evs_cons' rfl evs_nil'))))))) rfl (by simp [PM.exs, PM.ex, PM.ev, PM.evs, PM.lcStep, PM.evo, PM.evt, PM.evi, PM.getS, PM.see, PM.sees, PM.frD, PM.binD, PM.cmpD, PM.stow, PM.stowAll, PM.asg, PM.asgs, PM.setSl, PM.setAll, PM.handOut, PM.endM, PM.parts, PM.owned, PM.isD, PM.runCall, PM.pks, PM.lend, PM.back, PM.take, PM.takes, PM.walkV, PM.walkL, PM.muV, PM.mtD, PM.biD, PM.setIx, PM.isOl, PM.isiV, PM.tyD, PM.isiD, PM.nonV, PM.truV, PM.truD, PM.partD, PM.items, PM.isiD, PM.lcFree, PM.wipeE, PM.backE, PM.intsD, PM.strsD, PM.boolsD, PM.keyD, PM.dKey, PM.enumV, PM.zipV, PM.rangeV, dsA])
theorem menuB_ok (c : PM.Ctx) (s0 : Option Val) (w : List Nat) (hv : Valid w) (at_ : Int) (g : Nat) (ds : List D) (hd : ds.length ≤ 10) : ev c menuB [s0, some (.d (nmD w)), some (.d (.int at_)), some (.d (nmD [g])), some (.ol (ds.map .d))] = .ok (.ol ((ds ++ dsB w).map .d)) [s0, some (.d (nmD w)), some (.d (.int at_)), some (.d (nmD [g])), some (.ol (ds.map .d))] := by
  have hl := hv.2.1
  refine ev_bin (va := .pk 4) (vb := .ol ((dsB w).map .d)) (x := .list ds) (y := .list (dsB w)) (e1 := [s0, some (.d (nmD w)), some (.d (.int at_)), some (.d (nmD [g])), some (.ol (ds.map .d))]) rfl ?_ (by simp [PM.exs, PM.ex, PM.ev, PM.evs, PM.lcStep, PM.evo, PM.evt, PM.evi, PM.getS, PM.see, PM.sees, PM.frD, PM.binD, PM.cmpD, PM.stow, PM.stowAll, PM.asg, PM.asgs, PM.setSl, PM.setAll, PM.handOut, PM.endM, PM.parts, PM.owned, PM.isD, PM.runCall, PM.pks, PM.lend, PM.back, PM.take, PM.takes, PM.walkV, PM.walkL, PM.muV, PM.mtD, PM.biD, PM.setIx, PM.isOl, PM.isiV, PM.tyD, PM.isiD, PM.nonV, PM.truV, PM.truD, PM.partD, PM.items, PM.isiD, PM.lcFree, PM.wipeE, PM.backE, PM.intsD, PM.strsD, PM.boolsD, PM.keyD, PM.dKey, PM.enumV, PM.zipV, PM.rangeV]) (by simp [PM.exs, PM.ex, PM.ev, PM.evs, PM.lcStep, PM.evo, PM.evt, PM.evi, PM.getS, PM.see, PM.sees, PM.frD, PM.binD, PM.cmpD, PM.stow, PM.stowAll, PM.asg, PM.asgs, PM.setSl, PM.setAll, PM.handOut, PM.endM, PM.parts, PM.owned, PM.isD, PM.runCall, PM.pks, PM.lend, PM.back, PM.take, PM.takes, PM.walkV, PM.walkL, PM.muV, PM.mtD, PM.biD, PM.setIx, PM.isOl, PM.isiV, PM.tyD, PM.isiD, PM.nonV, PM.truV, PM.truD, PM.partD, PM.items, PM.isiD, PM.lcFree, PM.wipeE, PM.backE, PM.intsD, PM.strsD, PM.boolsD, PM.keyD, PM.dKey, PM.enumV, PM.zipV, PM.rangeV]) ?_
  · have E1 : ∀ e : PM.Env, e = [s0, some (.d (nmD w)), some (.d (.int at_)), some (.d (nmD [g])), some (.ol (ds.map .d))] → ev c (.lst [(.lst [(.v 1)]), (.tup [(.v 1)]), (.bin .Mult (.v 1) (.c (.int 5000))), (.dic [(.v 1), (.c (.int 1))]), (.bin .Add (.v 1) (.c (.str "\n")))]) e = .ok (.ol ((dsB w).map .d)) e := fun e he => by
      have v1 : ev c (.v 1) e = .ok (.d (nmD w)) e := by rw [he]; rfl
      have a1 : ev c (.lst [.v 1]) e = .ok (.ol [.d (nmD w)]) e := ev_lst (vs := [.d (nmD w)]) (ds := [nmD w]) (evs_cons' v1 evs_nil') rfl (by simp [PM.exs, PM.ex, PM.ev, PM.evs, PM.lcStep, PM.evo, PM.evt, PM.evi, PM.getS, PM.see, PM.sees, PM.frD, PM.binD, PM.cmpD, PM.stow, PM.stowAll, PM.asg, PM.asgs, PM.setSl, PM.setAll, PM.handOut, PM.endM, PM.parts, PM.owned, PM.isD, PM.runCall, PM.pks, PM.lend, PM.back, PM.take, PM.takes, PM.walkV, PM.walkL, PM.muV, PM.mtD, PM.biD, PM.setIx, PM.isOl, PM.isiV, PM.tyD, PM.isiD, PM.nonV, PM.truV, PM.truD, PM.partD, PM.items, PM.isiD, PM.lcFree, PM.wipeE, PM.backE, PM.intsD, PM.strsD, PM.boolsD, PM.keyD, PM.dKey, PM.enumV, PM.zipV, PM.rangeV])
      have a2 : ev c (.tup [.v 1]) e = .ok (.d (.tuple [nmD w])) e := by rw [he]; simp [PM.exs, PM.ex, PM.ev, PM.evs, PM.lcStep, PM.evo, PM.evt, PM.evi, PM.getS, PM.see, PM.sees, PM.frD, PM.binD, PM.cmpD, PM.stow, PM.stowAll, PM.asg, PM.asgs, PM.setSl, PM.setAll, PM.handOut, PM.endM, PM.parts, PM.owned, PM.isD, PM.runCall, PM.pks, PM.lend, PM.back, PM.take, PM.takes, PM.walkV, PM.walkL, PM.muV, PM.mtD, PM.biD, PM.setIx, PM.isOl, PM.isiV, PM.tyD, PM.isiD, PM.nonV, PM.truV, PM.truD, PM.partD, PM.items, PM.isiD, PM.lcFree, PM.wipeE, PM.backE, PM.intsD, PM.strsD, PM.boolsD, PM.keyD, PM.dKey, PM.enumV, PM.zipV, PM.rangeV, lineN_eq]
      have a3 : ev c (.bin .Mult (.v 1) (.c (.int 5000))) e = .ok (.d (nmD (repD w 5000))) e := ev_bin v1 rfl rfl rfl (mulW (by omega))
      have a4 : ev c (.dic [(.v 1), (.c (.int 1))]) e = .ok (.od [(.inr (W w), .d (.int 1))]) e := by rw [he]; simp [PM.exs, PM.ex, PM.ev, PM.evs, PM.lcStep, PM.evo, PM.evt, PM.evi, PM.getS, PM.see, PM.sees, PM.frD, PM.binD, PM.cmpD, PM.stow, PM.stowAll, PM.asg, PM.asgs, PM.setSl, PM.setAll, PM.handOut, PM.endM, PM.parts, PM.owned, PM.isD, PM.runCall, PM.pks, PM.lend, PM.back, PM.take, PM.takes, PM.walkV, PM.walkL, PM.muV, PM.mtD, PM.biD, PM.setIx, PM.isOl, PM.isiV, PM.tyD, PM.isiD, PM.nonV, PM.truV, PM.truD, PM.partD, PM.items, PM.isiD, PM.lcFree, PM.wipeE, PM.backE, PM.intsD, PM.strsD, PM.boolsD, PM.keyD, PM.dKey, PM.enumV, PM.zipV, PM.rangeV, twosK, mergeD, putK, liftK]
      have a5 : ev c (.bin .Add (.v 1) (.c (.str "\n"))) e = .ok (.d (nmD (w ++ [10]))) e := ev_bin (vb := .d (.str (Str.ofString "\n"))) v1 rfl rfl rfl (by rw [sN]; exact addW (by simp [PM.exs, PM.ex, PM.ev, PM.evs, PM.lcStep, PM.evo, PM.evt, PM.evi, PM.getS, PM.see, PM.sees, PM.frD, PM.binD, PM.cmpD, PM.stow, PM.stowAll, PM.asg, PM.asgs, PM.setSl, PM.setAll, PM.handOut, PM.endM, PM.parts, PM.owned, PM.isD, PM.runCall, PM.pks, PM.lend, PM.back, PM.take, PM.takes, PM.walkV, PM.walkL, PM.muV, PM.mtD, PM.biD, PM.setIx, PM.isOl, PM.isiV, PM.tyD, PM.isiD, PM.nonV, PM.truV, PM.truD, PM.partD, PM.items, PM.isiD, PM.lcFree, PM.wipeE, PM.backE, PM.intsD, PM.strsD, PM.boolsD, PM.keyD, PM.dKey, PM.enumV, PM.zipV, PM.rangeV]; omega))
      exact ev_lst (evs_cons' a1 (evs_cons' a2 (evs_cons' a3 (evs_cons' a4 (evs_cons' a5 evs_nil'))))) rfl (by simp [PM.exs, PM.ex, PM.ev, PM.evs, PM.lcStep, PM.evo, PM.evt, PM.evi, PM.getS, PM.see, PM.sees, PM.frD, PM.binD, PM.cmpD, PM.stow, PM.stowAll, PM.asg, PM.asgs, PM.setSl, PM.setAll, PM.handOut, PM.endM, PM.parts, PM.owned, PM.isD, PM.runCall, PM.pks, PM.lend, PM.back, PM.take, PM.takes, PM.walkV, PM.walkL, PM.muV, PM.mtD, PM.biD, PM.setIx, PM.isOl, PM.isiV, PM.tyD, PM.isiD, PM.nonV, PM.truV, PM.truD, PM.partD, PM.items, PM.isiD, PM.lcFree, PM.wipeE, PM.backE, PM.intsD, PM.strsD, PM.boolsD, PM.keyD, PM.dKey, PM.enumV, PM.zipV, PM.rangeV, dsB])
    exact E1 _ rfl
  · show (if ds.length + (dsB w).length ≤ lineN then some (Val.ol ((ds ++ dsB w).map .d)) else none) = _
    rw [if_pos (by rw [lineN_eq]; simp [PM.exs, PM.ex, PM.ev, PM.evs, PM.lcStep, PM.evo, PM.evt, PM.evi, PM.getS, PM.see, PM.sees, PM.frD, PM.binD, PM.cmpD, PM.stow, PM.stowAll, PM.asg, PM.asgs, PM.setSl, PM.setAll, PM.handOut, PM.endM, PM.parts, PM.owned, PM.isD, PM.runCall, PM.pks, PM.lend, PM.back, PM.take, PM.takes, PM.walkV, PM.walkL, PM.muV, PM.mtD, PM.biD, PM.setIx, PM.isOl, PM.isiV, PM.tyD, PM.isiD, PM.nonV, PM.truV, PM.truD, PM.partD, PM.items, PM.isiD, PM.lcFree, PM.wipeE, PM.backE, PM.intsD, PM.strsD, PM.boolsD, PM.keyD, PM.dKey, PM.enumV, PM.zipV, PM.rangeV, dsB]; omega)]
end Lk01
end

section
set_option Elab.async false
set_option linter.all false
set_option maxRecDepth 100000
set_option maxHeartbeats 2000000
namespace Lk01
open PySem PM
theorem ex_set' {c : PM.Ctx} {i : Nat} {a : ME} {v : Val} {e e1 e' : PM.Env} (h : ev c a e = .ok v e1) (hs : stow e1 v = some (v, e1)) (hp : c.pr[i]? ≠ some true) (hl : i < e1.length) (he : e1.set i (some v) = e') : ex c (.set (.nm i) a) e = .ok .nx e' := by
  rw [ex_set h hs hp hl, he]
abbrev signsL : ME := .lst [(.c (.str "A")), (.c (.str "Z")), (.c (.str "0")), (.c (.str "_")), (.c (.str " ")), (.c (.str "\n")), (.c (.str "-")), (.c (.str "{")), (.c (.str "`")), (.c (.str "~"))]
def sgD : List D := [nmD [65], nmD [90], nmD [48], nmD [95], nmD [32], nmD [10], nmD [45], nmD [123], nmD [96], nmD [126]]
theorem sgL_ok (c : PM.Ctx) (e : PM.Env) : ev c signsL e = .ok (.ol (sgD.map .d)) e := by
  have : sgD = [.str "A", .str "Z", .str "0", .str "_", .str " ", .str "\n", .str "-", .str "{", .str "`", .str "~"] := by
    show [PyData.str (W [65]), PyData.str (W [90]), PyData.str (W [48]), PyData.str (W [95]), PyData.str (W [32]), PyData.str (W [10]), PyData.str (W [45]), PyData.str (W [123]), PyData.str (W [96]), PyData.str (W [126])] = _
    rw [show Str.ofString "A" = W [65] by decide +kernel, show Str.ofString "Z" = W [90] by decide +kernel, show Str.ofString "0" = W [48] by decide +kernel, show Str.ofString "_" = W [95] by decide +kernel, show Str.ofString " " = W [32] by decide +kernel, show Str.ofString "\n" = W [10] by decide +kernel, show Str.ofString "-" = W [45] by decide +kernel, show Str.ofString "{" = W [123] by decide +kernel, show Str.ofString "`" = W [96] by decide +kernel, show Str.ofString "~" = W [126] by decide +kernel]
  rw [this]
  simp [PM.exs, PM.ex, PM.ev, PM.evs, PM.lcStep, PM.evo, PM.evt, PM.evi, PM.getS, PM.see, PM.sees, PM.frD, PM.binD, PM.cmpD, PM.stow, PM.stowAll, PM.asg, PM.asgs, PM.setSl, PM.setAll, PM.handOut, PM.endM, PM.parts, PM.owned, PM.isD, PM.runCall, PM.pks, PM.lend, PM.back, PM.take, PM.takes, PM.walkV, PM.walkL, PM.muV, PM.mtD, PM.biD, PM.setIx, PM.isOl, PM.isiV, PM.tyD, PM.isiD, PM.nonV, PM.truV, PM.truD, PM.partD, PM.items, PM.isiD, PM.lcFree, PM.wipeE, PM.backE, PM.intsD, PM.strsD, PM.boolsD, PM.keyD, PM.dKey, PM.enumV, PM.zipV, PM.rangeV, lineN_eq]
theorem atI_mem {xs : List D} {i : Int} (h0 : 0 ≤ i) (h1 : i < xs.length) : ∃ x ∈ xs, L2.atI xs i = some x := by
  have h2 : i.toNat < xs.length := by omega
  refine ⟨xs[i.toNat], List.getElem_mem h2, ?_⟩
  unfold L2.atI L2.ixN
  rw [if_pos h0, if_pos h1]
  simp [PM.exs, PM.ex, PM.ev, PM.evs, PM.lcStep, PM.evo, PM.evt, PM.evi, PM.getS, PM.see, PM.sees, PM.frD, PM.binD, PM.cmpD, PM.stow, PM.stowAll, PM.asg, PM.asgs, PM.setSl, PM.setAll, PM.handOut, PM.endM, PM.parts, PM.owned, PM.isD, PM.runCall, PM.pks, PM.lend, PM.back, PM.take, PM.takes, PM.walkV, PM.walkL, PM.muV, PM.mtD, PM.biD, PM.setIx, PM.isOl, PM.isiV, PM.tyD, PM.isiD, PM.nonV, PM.truV, PM.truD, PM.partD, PM.items, PM.isiD, PM.lcFree, PM.wipeE, PM.backE, PM.intsD, PM.strsD, PM.boolsD, PM.keyD, PM.dKey, PM.enumV, PM.zipV, PM.rangeV, h2]
theorem len_ev (c : PM.Ctx) (s0 : Option Val) (w : List Nat) (hv : Valid w) (t : PM.Env) : ev c (.bi .len [.v 1]) (s0 :: some (.d (nmD w)) :: t) = .ok (.d (.int w.length)) (s0 :: some (.d (nmD w)) :: t) := by
  have : w.length ≤ lineN := by rw [lineN_eq]; have := hv.2.1; omega
  simp [PM.exs, PM.ex, PM.ev, PM.evs, PM.lcStep, PM.evo, PM.evt, PM.evi, PM.getS, PM.see, PM.sees, PM.frD, PM.binD, PM.cmpD, PM.stow, PM.stowAll, PM.asg, PM.asgs, PM.setSl, PM.setAll, PM.handOut, PM.endM, PM.parts, PM.owned, PM.isD, PM.runCall, PM.pks, PM.lend, PM.back, PM.take, PM.takes, PM.walkV, PM.walkL, PM.muV, PM.mtD, PM.biD, PM.setIx, PM.isOl, PM.isiV, PM.tyD, PM.isiD, PM.nonV, PM.truV, PM.truD, PM.partD, PM.items, PM.isiD, PM.lcFree, PM.wipeE, PM.backE, PM.intsD, PM.strsD, PM.boolsD, PM.keyD, PM.dKey, PM.enumV, PM.zipV, PM.rangeV, this]
theorem call_odd_name (k : Nat) (b : Bool) (n c s : Int) (w : List Nat) (hv : Valid w) (h0 : 0 ≤ c) (h1 : c < 90000) :
    ∃ n' c' d, c ≤ c' ∧ c' ≤ c + 4 ∧ Odd d ∧ callM T.prog (k + 3) 10 [st b n c s, .d (nmD w)] = .ok (.d d) [st b n' c' s, .d (nmD w)] := by
  have hl := hv.2.1
  have hl0 := hv.1
  rw [go2 (fd := d__law_odd_name.d) rfl ⟨rfl, by decide⟩]
  obtain ⟨n1, r1, p0, p1, T1⟩ := take_ev k [true, false] (.bi .len [.v 1]) b n c s w.length [some (.d (nmD w)), none, none, none] (len_ev _ _ w hv _) h0 (by omega) (by omega) (by omega)
  obtain ⟨n2, r2, q0, q1, T2⟩ := take_ev k [true, false] (.c (.int 10)) b n1 (c + 1) s 10 [some (.d (nmD w)), some (.d (.int r1)), none, none] rfl (by omega) (by omega) (by omega) (by omega)
  obtain ⟨x, hx, hxi⟩ := atI_mem (xs := sgD) q0 q1
  obtain ⟨g, rfl, hg⟩ : ∃ g, x = nmD [g] ∧ ¬ (97 ≤ g ∧ g < 123) := by
    simp only [sgD, List.mem_cons, List.not_mem_nil, or_false] at hx
    rcases hx with rfl | rfl | rfl | rfl | rfl | rfl | rfl | rfl | rfl | rfl <;> exact ⟨_, rfl, by omega⟩
  have S1 : ex (cx (k + 2) [true, false]) (.set (.nm 2) (.call 6 [(.v 0), (.bi .len [(.v 1)])])) [some (st b n c s), some (.d (nmD w)), none, none, none] = .ok .nx [some (st b n1 (c + 1) s), some (.d (nmD w)), some (.d (.int r1)), none, none] := ex_set' T1 rfl (by simp [PM.exs, PM.ex, PM.ev, PM.evs, PM.lcStep, PM.evo, PM.evt, PM.evi, PM.getS, PM.see, PM.sees, PM.frD, PM.binD, PM.cmpD, PM.stow, PM.stowAll, PM.asg, PM.asgs, PM.setSl, PM.setAll, PM.handOut, PM.endM, PM.parts, PM.owned, PM.isD, PM.runCall, PM.pks, PM.lend, PM.back, PM.take, PM.takes, PM.walkV, PM.walkL, PM.muV, PM.mtD, PM.biD, PM.setIx, PM.isOl, PM.isiV, PM.tyD, PM.isiD, PM.nonV, PM.truV, PM.truD, PM.partD, PM.items, PM.isiD, PM.lcFree, PM.wipeE, PM.backE, PM.intsD, PM.strsD, PM.boolsD, PM.keyD, PM.dKey, PM.enumV, PM.zipV, PM.rangeV]) (by simp [PM.exs, PM.ex, PM.ev, PM.evs, PM.lcStep, PM.evo, PM.evt, PM.evi, PM.getS, PM.see, PM.sees, PM.frD, PM.binD, PM.cmpD, PM.stow, PM.stowAll, PM.asg, PM.asgs, PM.setSl, PM.setAll, PM.handOut, PM.endM, PM.parts, PM.owned, PM.isD, PM.runCall, PM.pks, PM.lend, PM.back, PM.take, PM.takes, PM.walkV, PM.walkL, PM.muV, PM.mtD, PM.biD, PM.setIx, PM.isOl, PM.isiV, PM.tyD, PM.isiD, PM.nonV, PM.truV, PM.truD, PM.partD, PM.items, PM.isiD, PM.lcFree, PM.wipeE, PM.backE, PM.intsD, PM.strsD, PM.boolsD, PM.keyD, PM.dKey, PM.enumV, PM.zipV, PM.rangeV]) rfl
  have S2 : ex (cx (k + 2) [true, false]) (.set (.nm 3) (.idx signsL (.call 6 [(.v 0), (.c (.int 10))]))) [some (st b n1 (c + 1) s), some (.d (nmD w)), some (.d (.int r1)), none, none] = .ok .nx [some (st b n2 (c + 2) s), some (.d (nmD w)), some (.d (.int r1)), some (.d (nmD [g])), none] := by
    refine ex_set' (ev_idx (sgL_ok _ _) T2 (x := .list sgD) (by simp [PM.exs, PM.ex, PM.ev, PM.evs, PM.lcStep, PM.evo, PM.evt, PM.evi, PM.getS, PM.see, PM.sees, PM.frD, PM.binD, PM.cmpD, PM.stow, PM.stowAll, PM.asg, PM.asgs, PM.setSl, PM.setAll, PM.handOut, PM.endM, PM.parts, PM.owned, PM.isD, PM.runCall, PM.pks, PM.lend, PM.back, PM.take, PM.takes, PM.walkV, PM.walkL, PM.muV, PM.mtD, PM.biD, PM.setIx, PM.isOl, PM.isiV, PM.tyD, PM.isiD, PM.nonV, PM.truV, PM.truD, PM.partD, PM.items, PM.isiD, PM.lcFree, PM.wipeE, PM.backE, PM.intsD, PM.strsD, PM.boolsD, PM.keyD, PM.dKey, PM.enumV, PM.zipV, PM.rangeV]) rfl hxi) rfl (by simp [PM.exs, PM.ex, PM.ev, PM.evs, PM.lcStep, PM.evo, PM.evt, PM.evi, PM.getS, PM.see, PM.sees, PM.frD, PM.binD, PM.cmpD, PM.stow, PM.stowAll, PM.asg, PM.asgs, PM.setSl, PM.setAll, PM.handOut, PM.endM, PM.parts, PM.owned, PM.isD, PM.runCall, PM.pks, PM.lend, PM.back, PM.take, PM.takes, PM.walkV, PM.walkL, PM.muV, PM.mtD, PM.biD, PM.setIx, PM.isOl, PM.isiV, PM.tyD, PM.isiD, PM.nonV, PM.truV, PM.truD, PM.partD, PM.items, PM.isiD, PM.lcFree, PM.wipeE, PM.backE, PM.intsD, PM.strsD, PM.boolsD, PM.keyD, PM.dKey, PM.enumV, PM.zipV, PM.rangeV]) (by simp [PM.exs, PM.ex, PM.ev, PM.evs, PM.lcStep, PM.evo, PM.evt, PM.evi, PM.getS, PM.see, PM.sees, PM.frD, PM.binD, PM.cmpD, PM.stow, PM.stowAll, PM.asg, PM.asgs, PM.setSl, PM.setAll, PM.handOut, PM.endM, PM.parts, PM.owned, PM.isD, PM.runCall, PM.pks, PM.lend, PM.back, PM.take, PM.takes, PM.walkV, PM.walkL, PM.muV, PM.mtD, PM.biD, PM.setIx, PM.isOl, PM.isiV, PM.tyD, PM.isiD, PM.nonV, PM.truV, PM.truD, PM.partD, PM.items, PM.isiD, PM.lcFree, PM.wipeE, PM.backE, PM.intsD, PM.strsD, PM.boolsD, PM.keyD, PM.dKey, PM.enumV, PM.zipV, PM.rangeV]) ?_
    rw [show c + 1 + 1 = c + 2 by omega]; rfl
  have S3 : ex (cx (k + 2) [true, false]) (.set (.nm 4) menuA) [some (st b n2 (c + 2) s), some (.d (nmD w)), some (.d (.int r1)), some (.d (nmD [g])), none] = .ok .nx [some (st b n2 (c + 2) s), some (.d (nmD w)), some (.d (.int r1)), some (.d (nmD [g])), some (.ol ((dsA w r1 g).map .d))] := ex_set' (menuA_ok _ _ w hv r1 g) rfl (by simp [PM.exs, PM.ex, PM.ev, PM.evs, PM.lcStep, PM.evo, PM.evt, PM.evi, PM.getS, PM.see, PM.sees, PM.frD, PM.binD, PM.cmpD, PM.stow, PM.stowAll, PM.asg, PM.asgs, PM.setSl, PM.setAll, PM.handOut, PM.endM, PM.parts, PM.owned, PM.isD, PM.runCall, PM.pks, PM.lend, PM.back, PM.take, PM.takes, PM.walkV, PM.walkL, PM.muV, PM.mtD, PM.biD, PM.setIx, PM.isOl, PM.isiV, PM.tyD, PM.isiD, PM.nonV, PM.truV, PM.truD, PM.partD, PM.items, PM.isiD, PM.lcFree, PM.wipeE, PM.backE, PM.intsD, PM.strsD, PM.boolsD, PM.keyD, PM.dKey, PM.enumV, PM.zipV, PM.rangeV]) (by simp [PM.exs, PM.ex, PM.ev, PM.evs, PM.lcStep, PM.evo, PM.evt, PM.evi, PM.getS, PM.see, PM.sees, PM.frD, PM.binD, PM.cmpD, PM.stow, PM.stowAll, PM.asg, PM.asgs, PM.setSl, PM.setAll, PM.handOut, PM.endM, PM.parts, PM.owned, PM.isD, PM.runCall, PM.pks, PM.lend, PM.back, PM.take, PM.takes, PM.walkV, PM.walkL, PM.muV, PM.mtD, PM.biD, PM.setIx, PM.isOl, PM.isiV, PM.tyD, PM.isiD, PM.nonV, PM.truV, PM.truD, PM.partD, PM.items, PM.isiD, PM.lcFree, PM.wipeE, PM.backE, PM.intsD, PM.strsD, PM.boolsD, PM.keyD, PM.dKey, PM.enumV, PM.zipV, PM.rangeV]) rfl
  have S4 : ex (cx (k + 2) [true, false]) (.set (.nm 4) menuB) [some (st b n2 (c + 2) s), some (.d (nmD w)), some (.d (.int r1)), some (.d (nmD [g])), some (.ol ((dsA w r1 g).map .d))] = .ok .nx [some (st b n2 (c + 2) s), some (.d (nmD w)), some (.d (.int r1)), some (.d (nmD [g])), some (.ol ((dsA w r1 g ++ dsB w).map .d))] := ex_set' (menuB_ok _ _ w hv r1 g (dsA w r1 g) (by simp [PM.exs, PM.ex, PM.ev, PM.evs, PM.lcStep, PM.evo, PM.evt, PM.evi, PM.getS, PM.see, PM.sees, PM.frD, PM.binD, PM.cmpD, PM.stow, PM.stowAll, PM.asg, PM.asgs, PM.setSl, PM.setAll, PM.handOut, PM.endM, PM.parts, PM.owned, PM.isD, PM.runCall, PM.pks, PM.lend, PM.back, PM.take, PM.takes, PM.walkV, PM.walkL, PM.muV, PM.mtD, PM.biD, PM.setIx, PM.isOl, PM.isiV, PM.tyD, PM.isiD, PM.nonV, PM.truV, PM.truD, PM.partD, PM.items, PM.isiD, PM.lcFree, PM.wipeE, PM.backE, PM.intsD, PM.strsD, PM.boolsD, PM.keyD, PM.dKey, PM.enumV, PM.zipV, PM.rangeV, dsA])) rfl (by simp [PM.exs, PM.ex, PM.ev, PM.evs, PM.lcStep, PM.evo, PM.evt, PM.evi, PM.getS, PM.see, PM.sees, PM.frD, PM.binD, PM.cmpD, PM.stow, PM.stowAll, PM.asg, PM.asgs, PM.setSl, PM.setAll, PM.handOut, PM.endM, PM.parts, PM.owned, PM.isD, PM.runCall, PM.pks, PM.lend, PM.back, PM.take, PM.takes, PM.walkV, PM.walkL, PM.muV, PM.mtD, PM.biD, PM.setIx, PM.isOl, PM.isiV, PM.tyD, PM.isiD, PM.nonV, PM.truV, PM.truD, PM.partD, PM.items, PM.isiD, PM.lcFree, PM.wipeE, PM.backE, PM.intsD, PM.strsD, PM.boolsD, PM.keyD, PM.dKey, PM.enumV, PM.zipV, PM.rangeV]) (by simp [PM.exs, PM.ex, PM.ev, PM.evs, PM.lcStep, PM.evo, PM.evt, PM.evi, PM.getS, PM.see, PM.sees, PM.frD, PM.binD, PM.cmpD, PM.stow, PM.stowAll, PM.asg, PM.asgs, PM.setSl, PM.setAll, PM.handOut, PM.endM, PM.parts, PM.owned, PM.isD, PM.runCall, PM.pks, PM.lend, PM.back, PM.take, PM.takes, PM.walkV, PM.walkL, PM.muV, PM.mtD, PM.biD, PM.setIx, PM.isOl, PM.isiV, PM.tyD, PM.isiD, PM.nonV, PM.truV, PM.truD, PM.partD, PM.items, PM.isiD, PM.lcFree, PM.wipeE, PM.backE, PM.intsD, PM.strsD, PM.boolsD, PM.keyD, PM.dKey, PM.enumV, PM.zipV, PM.rangeV]) rfl
  have key : ∃ n' c' d, c ≤ c' ∧ c' ≤ c + 4 ∧ Odd d ∧ ev (cx (k + 2) [true, false]) (.ite (.or (.cmp .Lt (.bi .len [(.v 1)]) (.c (.int 6))) (.cmp .Eq (.call 6 [(.v 0), (.c (.int 2))]) (.c (.int 0)))) (.idx (.v 4) (.call 6 [(.v 0), (.c (.int 12))])) (.bin .Add (.v 1) (.c (.str "z")))) [some (st b n2 (c + 2) s), some (.d (nmD w)), some (.d (.int r1)), some (.d (nmD [g])), some (.ol ((dsA w r1 g ++ dsB w).map .d))] = .ok (.d d) [some (st b n' c' s), some (.d (nmD w)), some (.d (.int r1)), some (.d (nmD [g])), some (.ol ((dsA w r1 g ++ dsB w).map .d))] := by
    have L1 : ∀ n c : Int, ev (cx (k + 2) [true, false]) (.cmp .Lt (.bi .len [(.v 1)]) (.c (.int 6))) [some (st b n c s), some (.d (nmD w)), some (.d (.int r1)), some (.d (nmD [g])), some (.ol ((dsA w r1 g ++ dsB w).map .d))] = .ok (.d (.bool (decide (w.length < 6)))) [some (st b n c s), some (.d (nmD w)), some (.d (.int r1)), some (.d (nmD [g])), some (.ol ((dsA w r1 g ++ dsB w).map .d))] := fun n c => by
      have := len_ev (cx (k + 2) [true, false]) (some (st b n c s)) w hv [some (.d (.int r1)), some (.d (nmD [g])), some (.ol ((dsA w r1 g ++ dsB w).map .d))]
      show (ev (cx (k + 2) [true, false]) (.bi .len [.v 1]) _).bind _ = _
      rw [this]
      show opt (some (Val.d (.bool (decide ((w.length : Int) < 6))))) _ = _
      rw [show decide ((w.length : Int) < 6) = decide (w.length < 6) by rw [decide_eq_decide]; omega]
      rfl
    have pick : ∀ (n3 c3 : Int), c ≤ c3 → c3 ≤ c + 3 → ∃ n' c' d, c ≤ c' ∧ c' ≤ c + 4 ∧ Odd d ∧ ev (cx (k + 2) [true, false]) (.idx (.v 4) (.call 6 [(.v 0), (.c (.int 12))])) [some (st b n3 c3 s), some (.d (nmD w)), some (.d (.int r1)), some (.d (nmD [g])), some (.ol ((dsA w r1 g ++ dsB w).map .d))] = .ok (.d d) [some (st b n' c' s), some (.d (nmD w)), some (.d (.int r1)), some (.d (nmD [g])), some (.ol ((dsA w r1 g ++ dsB w).map .d))] := fun n3 c3 a1 a2 => by
      obtain ⟨n4, r4, u0, u1, T4⟩ := take_ev k [true, false] (.c (.int 12)) b n3 c3 s 12 [some (.d (nmD w)), some (.d (.int r1)), some (.d (nmD [g])), some (.ol ((dsA w r1 g ++ dsB w).map .d))] rfl (by omega) (by omega) (by omega) (by omega)
      obtain ⟨d, hd, hdi⟩ := atI_mem (xs := dsA w r1 g ++ dsB w) u0 (by simpa [PM.exs, PM.ex, PM.ev, PM.evs, PM.lcStep, PM.evo, PM.evt, PM.evi, PM.getS, PM.see, PM.sees, PM.frD, PM.binD, PM.cmpD, PM.stow, PM.stowAll, PM.asg, PM.asgs, PM.setSl, PM.setAll, PM.handOut, PM.endM, PM.parts, PM.owned, PM.isD, PM.runCall, PM.pks, PM.lend, PM.back, PM.take, PM.takes, PM.walkV, PM.walkL, PM.muV, PM.mtD, PM.biD, PM.setIx, PM.isOl, PM.isiV, PM.tyD, PM.isiD, PM.nonV, PM.truV, PM.truD, PM.partD, PM.items, PM.isiD, PM.lcFree, PM.wipeE, PM.backE, PM.intsD, PM.strsD, PM.boolsD, PM.keyD, PM.dKey, PM.enumV, PM.zipV, PM.rangeV, dsA, dsB] using u1)
      exact ⟨n4, c3 + 1, d, by omega, by omega, odds w hv r1 g hg d hd, ev_idx (va := .pk 4) (x := .list (dsA w r1 g ++ dsB w)) rfl T4 (by simp [PM.exs, PM.ex, PM.ev, PM.evs, PM.lcStep, PM.evo, PM.evt, PM.evi, PM.getS, PM.see, PM.sees, PM.frD, PM.binD, PM.cmpD, PM.stow, PM.stowAll, PM.asg, PM.asgs, PM.setSl, PM.setAll, PM.handOut, PM.endM, PM.parts, PM.owned, PM.isD, PM.runCall, PM.pks, PM.lend, PM.back, PM.take, PM.takes, PM.walkV, PM.walkL, PM.muV, PM.mtD, PM.biD, PM.setIx, PM.isOl, PM.isiV, PM.tyD, PM.isiD, PM.nonV, PM.truV, PM.truD, PM.partD, PM.items, PM.isiD, PM.lcFree, PM.wipeE, PM.backE, PM.intsD, PM.strsD, PM.boolsD, PM.keyD, PM.dKey, PM.enumV, PM.zipV, PM.rangeV, allD_map, -List.map_append]) rfl hdi⟩
    by_cases q : w.length < 6
    · obtain ⟨n', c', d, a1, a2, a3, a4⟩ := pick n2 (c + 2) (by omega) (by omega)
      refine ⟨n', c', d, a1, a2, a3, ?_⟩
      show (ev _ (.or _ _) _).bind _ = _
      rw [ev_or_t (by rw [L1, decide_eq_true q])]
      exact a4
    · obtain ⟨n3, r3, u0, u1, T3⟩ := take_ev k [true, false] (.c (.int 2)) b n2 (c + 2) s 2 [some (.d (nmD w)), some (.d (.int r1)), some (.d (nmD [g])), some (.ol ((dsA w r1 g ++ dsB w).map .d))] rfl (by omega) (by omega) (by omega) (by omega)
      have E3 : ev (cx (k + 2) [true, false]) (.cmp .Eq (.call 6 [(.v 0), (.c (.int 2))]) (.c (.int 0))) [some (st b n2 (c + 2) s), some (.d (nmD w)), some (.d (.int r1)), some (.d (nmD [g])), some (.ol ((dsA w r1 g ++ dsB w).map .d))] = .ok (.d (.bool (decide (r3 = 0)))) [some (st b n3 (c + 3) s), some (.d (nmD w)), some (.d (.int r1)), some (.d (nmD [g])), some (.ol ((dsA w r1 g ++ dsB w).map .d))] := by
        show (ev (cx (k + 2) [true, false]) (.call 6 [(.v 0), (.c (.int 2))]) _).bind _ = _
        rw [T3, show c + 2 + 1 = c + 3 by omega]
        show opt ((eqD (.int r3) (.int 0)).map fun k => Val.d (.bool k)) _ = _
        rw [eqD_int]
        rfl
      by_cases q3 : r3 = 0
      · obtain ⟨n', c', d, a1, a2, a3, a4⟩ := pick n3 (c + 3) (by omega) (by omega)
        refine ⟨n', c', d, a1, a2, a3, ?_⟩
        show (ev _ (.or _ _) _).bind _ = _
        rw [ev_or_f (by rw [L1, decide_eq_false q]), E3, decide_eq_true q3]
        exact a4
      · refine ⟨n3, c + 3, nmD (w ++ [122]), by omega, by omega, odd_len (.inr (by simp [PM.exs, PM.ex, PM.ev, PM.evs, PM.lcStep, PM.evo, PM.evt, PM.evi, PM.getS, PM.see, PM.sees, PM.frD, PM.binD, PM.cmpD, PM.stow, PM.stowAll, PM.asg, PM.asgs, PM.setSl, PM.setAll, PM.handOut, PM.endM, PM.parts, PM.owned, PM.isD, PM.runCall, PM.pks, PM.lend, PM.back, PM.take, PM.takes, PM.walkV, PM.walkL, PM.muV, PM.mtD, PM.biD, PM.setIx, PM.isOl, PM.isiV, PM.tyD, PM.isiD, PM.nonV, PM.truV, PM.truD, PM.partD, PM.items, PM.isiD, PM.lcFree, PM.wipeE, PM.backE, PM.intsD, PM.strsD, PM.boolsD, PM.keyD, PM.dKey, PM.enumV, PM.zipV, PM.rangeV]; omega)) (by simp [PM.exs, PM.ex, PM.ev, PM.evs, PM.lcStep, PM.evo, PM.evt, PM.evi, PM.getS, PM.see, PM.sees, PM.frD, PM.binD, PM.cmpD, PM.stow, PM.stowAll, PM.asg, PM.asgs, PM.setSl, PM.setAll, PM.handOut, PM.endM, PM.parts, PM.owned, PM.isD, PM.runCall, PM.pks, PM.lend, PM.back, PM.take, PM.takes, PM.walkV, PM.walkL, PM.muV, PM.mtD, PM.biD, PM.setIx, PM.isOl, PM.isiV, PM.tyD, PM.isiD, PM.nonV, PM.truV, PM.truD, PM.partD, PM.items, PM.isiD, PM.lcFree, PM.wipeE, PM.backE, PM.intsD, PM.strsD, PM.boolsD, PM.keyD, PM.dKey, PM.enumV, PM.zipV, PM.rangeV]; omega), ?_⟩
        show (ev _ (.or _ _) _).bind _ = _
        rw [ev_or_f (by rw [L1, decide_eq_false q]), E3, decide_eq_false q3]
        have Z : ev (cx (k + 2) [true, false]) (.bin .Add (.v 1) (.c (.str "z"))) [some (st b n3 (c + 3) s), some (.d (nmD w)), some (.d (.int r1)), some (.d (nmD [g])), some (.ol ((dsA w r1 g ++ dsB w).map .d))] = .ok (.d (nmD (w ++ [122]))) [some (st b n3 (c + 3) s), some (.d (nmD w)), some (.d (.int r1)), some (.d (nmD [g])), some (.ol ((dsA w r1 g ++ dsB w).map .d))] :=
          ev_bin (va := .d (nmD w)) (vb := .d (.str (Str.ofString "z"))) rfl rfl rfl rfl (by rw [sZ]; exact addW (by simp [PM.exs, PM.ex, PM.ev, PM.evs, PM.lcStep, PM.evo, PM.evt, PM.evi, PM.getS, PM.see, PM.sees, PM.frD, PM.binD, PM.cmpD, PM.stow, PM.stowAll, PM.asg, PM.asgs, PM.setSl, PM.setAll, PM.handOut, PM.endM, PM.parts, PM.owned, PM.isD, PM.runCall, PM.pks, PM.lend, PM.back, PM.take, PM.takes, PM.walkV, PM.walkL, PM.muV, PM.mtD, PM.biD, PM.setIx, PM.isOl, PM.isiV, PM.tyD, PM.isiD, PM.nonV, PM.truV, PM.truD, PM.partD, PM.items, PM.isiD, PM.lcFree, PM.wipeE, PM.backE, PM.intsD, PM.strsD, PM.boolsD, PM.keyD, PM.dKey, PM.enumV, PM.zipV, PM.rangeV]; omega))
        exact Z
  obtain ⟨n', c', d, a1, a2, a3, K⟩ := key
  refine ⟨n', c', d, a1, a2, a3, ?_⟩
  show endM _ (exs (cx (k + 2) [true, false]) [_, _, _, _, _] [some (st b n c s), some (.d (nmD w)), none, none, none]) = _
  rw [exs_nx S1, exs_nx S2, exs_nx S3, exs_nx S4, exs_ret (ex_ret K rfl)]
  rfl
end Lk01
end

section
set_option Elab.async false
set_option linter.all false
set_option maxRecDepth 100000
set_option maxHeartbeats 2000000
namespace Lk01
open PySem PM
theorem ded_nodup : ∀ (ss acc : List Str), (acc ++ ss).Nodup → ss.foldl addS acc = acc ++ ss
  | [], acc, _ => by simp [PM.exs, PM.ex, PM.ev, PM.evs, PM.lcStep, PM.evo, PM.evt, PM.evi, PM.getS, PM.see, PM.sees, PM.frD, PM.binD, PM.cmpD, PM.stow, PM.stowAll, PM.asg, PM.asgs, PM.setSl, PM.setAll, PM.handOut, PM.endM, PM.parts, PM.owned, PM.isD, PM.runCall, PM.pks, PM.lend, PM.back, PM.take, PM.takes, PM.walkV, PM.walkL, PM.muV, PM.mtD, PM.biD, PM.setIx, PM.isOl, PM.isiV, PM.tyD, PM.isiD, PM.nonV, PM.truV, PM.truD, PM.partD, PM.items, PM.isiD, PM.lcFree, PM.wipeE, PM.backE, PM.intsD, PM.strsD, PM.boolsD, PM.keyD, PM.dKey, PM.enumV, PM.zipV, PM.rangeV]
  | x :: r, acc, h => by
    have hx : x ∉ acc := fun m => by
      have := (List.nodup_append.mp h).2.2 x m x List.mem_cons_self
      exact this rfl
    show r.foldl addS (if x ∈ acc then acc else acc ++ [x]) = _
    rw [if_neg hx, ded_nodup r (acc ++ [x]) (by simpa [PM.exs, PM.ex, PM.ev, PM.evs, PM.lcStep, PM.evo, PM.evt, PM.evi, PM.getS, PM.see, PM.sees, PM.frD, PM.binD, PM.cmpD, PM.stow, PM.stowAll, PM.asg, PM.asgs, PM.setSl, PM.setAll, PM.handOut, PM.endM, PM.parts, PM.owned, PM.isD, PM.runCall, PM.pks, PM.lend, PM.back, PM.take, PM.takes, PM.walkV, PM.walkL, PM.muV, PM.mtD, PM.biD, PM.setIx, PM.isOl, PM.isiV, PM.tyD, PM.isiD, PM.nonV, PM.truV, PM.truD, PM.partD, PM.items, PM.isiD, PM.lcFree, PM.wipeE, PM.backE, PM.intsD, PM.strsD, PM.boolsD, PM.keyD, PM.dKey, PM.enumV, PM.zipV, PM.rangeV] using h)]
    simp [PM.exs, PM.ex, PM.ev, PM.evs, PM.lcStep, PM.evo, PM.evt, PM.evi, PM.getS, PM.see, PM.sees, PM.frD, PM.binD, PM.cmpD, PM.stow, PM.stowAll, PM.asg, PM.asgs, PM.setSl, PM.setAll, PM.handOut, PM.endM, PM.parts, PM.owned, PM.isD, PM.runCall, PM.pks, PM.lend, PM.back, PM.take, PM.takes, PM.walkV, PM.walkL, PM.muV, PM.mtD, PM.biD, PM.setIx, PM.isOl, PM.isiV, PM.tyD, PM.isiD, PM.nonV, PM.truV, PM.truD, PM.partD, PM.items, PM.isiD, PM.lcFree, PM.wipeE, PM.backE, PM.intsD, PM.strsD, PM.boolsD, PM.keyD, PM.dKey, PM.enumV, PM.zipV, PM.rangeV]
theorem ded_le : ∀ (ss acc : List Str), (ss.foldl addS acc).length ≤ acc.length + ss.length
  | [], acc => by simp [PM.exs, PM.ex, PM.ev, PM.evs, PM.lcStep, PM.evo, PM.evt, PM.evi, PM.getS, PM.see, PM.sees, PM.frD, PM.binD, PM.cmpD, PM.stow, PM.stowAll, PM.asg, PM.asgs, PM.setSl, PM.setAll, PM.handOut, PM.endM, PM.parts, PM.owned, PM.isD, PM.runCall, PM.pks, PM.lend, PM.back, PM.take, PM.takes, PM.walkV, PM.walkL, PM.muV, PM.mtD, PM.biD, PM.setIx, PM.isOl, PM.isiV, PM.tyD, PM.isiD, PM.nonV, PM.truV, PM.truD, PM.partD, PM.items, PM.isiD, PM.lcFree, PM.wipeE, PM.backE, PM.intsD, PM.strsD, PM.boolsD, PM.keyD, PM.dKey, PM.enumV, PM.zipV, PM.rangeV]
  | x :: r, acc => by
    show (r.foldl addS (if x ∈ acc then acc else acc ++ [x])).length ≤ _
    have := ded_le r (if x ∈ acc then acc else acc ++ [x])
    split at this <;> rename_i q <;> simp [PM.exs, PM.ex, PM.ev, PM.evs, PM.lcStep, PM.evo, PM.evt, PM.evi, PM.getS, PM.see, PM.sees, PM.frD, PM.binD, PM.cmpD, PM.stow, PM.stowAll, PM.asg, PM.asgs, PM.setSl, PM.setAll, PM.handOut, PM.endM, PM.parts, PM.owned, PM.isD, PM.runCall, PM.pks, PM.lend, PM.back, PM.take, PM.takes, PM.walkV, PM.walkL, PM.muV, PM.mtD, PM.biD, PM.setIx, PM.isOl, PM.isiV, PM.tyD, PM.isiD, PM.nonV, PM.truV, PM.truD, PM.partD, PM.items, PM.isiD, PM.lcFree, PM.wipeE, PM.backE, PM.intsD, PM.strsD, PM.boolsD, PM.keyD, PM.dKey, PM.enumV, PM.zipV, PM.rangeV, q] at this ⊢ <;> omega
theorem ded_eq : ∀ (ss acc : List Str), acc.Nodup → (ss.foldl addS acc).length = acc.length + ss.length → (acc ++ ss).Nodup
  | [], acc, h, _ => by simpa [PM.exs, PM.ex, PM.ev, PM.evs, PM.lcStep, PM.evo, PM.evt, PM.evi, PM.getS, PM.see, PM.sees, PM.frD, PM.binD, PM.cmpD, PM.stow, PM.stowAll, PM.asg, PM.asgs, PM.setSl, PM.setAll, PM.handOut, PM.endM, PM.parts, PM.owned, PM.isD, PM.runCall, PM.pks, PM.lend, PM.back, PM.take, PM.takes, PM.walkV, PM.walkL, PM.muV, PM.mtD, PM.biD, PM.setIx, PM.isOl, PM.isiV, PM.tyD, PM.isiD, PM.nonV, PM.truV, PM.truD, PM.partD, PM.items, PM.isiD, PM.lcFree, PM.wipeE, PM.backE, PM.intsD, PM.strsD, PM.boolsD, PM.keyD, PM.dKey, PM.enumV, PM.zipV, PM.rangeV] using h
  | x :: r, acc, h, e => by
    have e' : (r.foldl addS (if x ∈ acc then acc else acc ++ [x])).length = acc.length + (r.length + 1) := e
    by_cases q : x ∈ acc
    · rw [if_pos q] at e'
      have := ded_le r acc
      omega
    · rw [if_neg q] at e'
      have := ded_eq r (acc ++ [x]) (List.nodup_append.mpr ⟨h, by simp [PM.exs, PM.ex, PM.ev, PM.evs, PM.lcStep, PM.evo, PM.evt, PM.evi, PM.getS, PM.see, PM.sees, PM.frD, PM.binD, PM.cmpD, PM.stow, PM.stowAll, PM.asg, PM.asgs, PM.setSl, PM.setAll, PM.handOut, PM.endM, PM.parts, PM.owned, PM.isD, PM.runCall, PM.pks, PM.lend, PM.back, PM.take, PM.takes, PM.walkV, PM.walkL, PM.muV, PM.mtD, PM.biD, PM.setIx, PM.isOl, PM.isiV, PM.tyD, PM.isiD, PM.nonV, PM.truV, PM.truD, PM.partD, PM.items, PM.isiD, PM.lcFree, PM.wipeE, PM.backE, PM.intsD, PM.strsD, PM.boolsD, PM.keyD, PM.dKey, PM.enumV, PM.zipV, PM.rangeV], fun a ha b hb => by rw [List.mem_singleton.mp hb]; intro z; exact q (z ▸ ha)⟩) (by rw [e']; simp [PM.exs, PM.ex, PM.ev, PM.evs, PM.lcStep, PM.evo, PM.evt, PM.evi, PM.getS, PM.see, PM.sees, PM.frD, PM.binD, PM.cmpD, PM.stow, PM.stowAll, PM.asg, PM.asgs, PM.setSl, PM.setAll, PM.handOut, PM.endM, PM.parts, PM.owned, PM.isD, PM.runCall, PM.pks, PM.lend, PM.back, PM.take, PM.takes, PM.walkV, PM.walkL, PM.muV, PM.mtD, PM.biD, PM.setIx, PM.isOl, PM.isiV, PM.tyD, PM.isiD, PM.nonV, PM.truV, PM.truD, PM.partD, PM.items, PM.isiD, PM.lcFree, PM.wipeE, PM.backE, PM.intsD, PM.strsD, PM.boolsD, PM.keyD, PM.dKey, PM.enumV, PM.zipV, PM.rangeV]; omega)
      simpa [PM.exs, PM.ex, PM.ev, PM.evs, PM.lcStep, PM.evo, PM.evt, PM.evi, PM.getS, PM.see, PM.sees, PM.frD, PM.binD, PM.cmpD, PM.stow, PM.stowAll, PM.asg, PM.asgs, PM.setSl, PM.setAll, PM.handOut, PM.endM, PM.parts, PM.owned, PM.isD, PM.runCall, PM.pks, PM.lend, PM.back, PM.take, PM.takes, PM.walkV, PM.walkL, PM.muV, PM.mtD, PM.biD, PM.setIx, PM.isOl, PM.isiV, PM.tyD, PM.isiD, PM.nonV, PM.truV, PM.truD, PM.partD, PM.items, PM.isiD, PM.lcFree, PM.wipeE, PM.backE, PM.intsD, PM.strsD, PM.boolsD, PM.keyD, PM.dKey, PM.enumV, PM.zipV, PM.rangeV] using this
theorem strsD_map (ss : List Str) : strsD (ss.map .str) = some ss := by
  induction ss with
  | nil => rfl
  | cons x r ih => simp [PM.exs, PM.ex, PM.ev, PM.evs, PM.lcStep, PM.evo, PM.evt, PM.evi, PM.getS, PM.see, PM.sees, PM.frD, PM.binD, PM.cmpD, PM.stow, PM.stowAll, PM.asg, PM.asgs, PM.setSl, PM.setAll, PM.handOut, PM.endM, PM.parts, PM.owned, PM.isD, PM.runCall, PM.pks, PM.lend, PM.back, PM.take, PM.takes, PM.walkV, PM.walkL, PM.muV, PM.mtD, PM.biD, PM.setIx, PM.isOl, PM.isiV, PM.tyD, PM.isiD, PM.nonV, PM.truV, PM.truD, PM.partD, PM.items, PM.isiD, PM.lcFree, PM.wipeE, PM.backE, PM.intsD, PM.strsD, PM.boolsD, PM.keyD, PM.dKey, PM.enumV, PM.zipV, PM.rangeV, ih]
theorem strsD_of : ∀ {xs : List D} {ss : List Str}, strsD xs = some ss → xs = ss.map .str
  | [], ss, h => by
    have : ss = [] := by simpa [PM.exs, PM.ex, PM.ev, PM.evs, PM.lcStep, PM.evo, PM.evt, PM.evi, PM.getS, PM.see, PM.sees, PM.frD, PM.binD, PM.cmpD, PM.stow, PM.stowAll, PM.asg, PM.asgs, PM.setSl, PM.setAll, PM.handOut, PM.endM, PM.parts, PM.owned, PM.isD, PM.runCall, PM.pks, PM.lend, PM.back, PM.take, PM.takes, PM.walkV, PM.walkL, PM.muV, PM.mtD, PM.biD, PM.setIx, PM.isOl, PM.isiV, PM.tyD, PM.isiD, PM.nonV, PM.truV, PM.truD, PM.partD, PM.items, PM.isiD, PM.lcFree, PM.wipeE, PM.backE, PM.intsD, PM.strsD, PM.boolsD, PM.keyD, PM.dKey, PM.enumV, PM.zipV, PM.rangeV] using h.symm
    rw [this]; rfl
  | x :: r, ss, h => by
    cases x <;> simp [PM.exs, PM.ex, PM.ev, PM.evs, PM.lcStep, PM.evo, PM.evt, PM.evi, PM.getS, PM.see, PM.sees, PM.frD, PM.binD, PM.cmpD, PM.stow, PM.stowAll, PM.asg, PM.asgs, PM.setSl, PM.setAll, PM.handOut, PM.endM, PM.parts, PM.owned, PM.isD, PM.runCall, PM.pks, PM.lend, PM.back, PM.take, PM.takes, PM.walkV, PM.walkL, PM.muV, PM.mtD, PM.biD, PM.setIx, PM.isOl, PM.isiV, PM.tyD, PM.isiD, PM.nonV, PM.truV, PM.truD, PM.partD, PM.items, PM.isiD, PM.lcFree, PM.wipeE, PM.backE, PM.intsD, PM.strsD, PM.boolsD, PM.keyD, PM.dKey, PM.enumV, PM.zipV, PM.rangeV] at h
    obtain ⟨a, ha, rfl⟩ := h
    rw [strsD_of ha]; rfl
theorem isNames_yes {ls : List (List Nat)} (hv : ∀ l ∈ ls, Valid l) (hn : ls.Nodup) (hl : ls.length ≤ 8) : isNames (.tuple (ls.map nmD)) = true := by
  have e : ls.map nmD = (ls.map W).map .str := by simp [PM.exs, PM.ex, PM.ev, PM.evs, PM.lcStep, PM.evo, PM.evt, PM.evi, PM.getS, PM.see, PM.sees, PM.frD, PM.binD, PM.cmpD, PM.stow, PM.stowAll, PM.asg, PM.asgs, PM.setSl, PM.setAll, PM.handOut, PM.endM, PM.parts, PM.owned, PM.isD, PM.runCall, PM.pks, PM.lend, PM.back, PM.take, PM.takes, PM.walkV, PM.walkL, PM.muV, PM.mtD, PM.biD, PM.setIx, PM.isOl, PM.isiV, PM.tyD, PM.isiD, PM.nonV, PM.truV, PM.truD, PM.partD, PM.items, PM.isiD, PM.lcFree, PM.wipeE, PM.backE, PM.intsD, PM.strsD, PM.boolsD, PM.keyD, PM.dKey, PM.enumV, PM.zipV, PM.rangeV, Function.comp_def]
  have n : (ls.map W).Nodup := by
    rw [List.nodup_iff_pairwise_ne, List.pairwise_map]
    exact (List.nodup_iff_pairwise_ne.mp hn).imp fun h z => h (W_inj z)
  have d : dedS (ls.map W) = ls.map W := by
    have := ded_nodup (ls.map W) [] (by simpa [PM.exs, PM.ex, PM.ev, PM.evs, PM.lcStep, PM.evo, PM.evt, PM.evi, PM.getS, PM.see, PM.sees, PM.frD, PM.binD, PM.cmpD, PM.stow, PM.stowAll, PM.asg, PM.asgs, PM.setSl, PM.setAll, PM.handOut, PM.endM, PM.parts, PM.owned, PM.isD, PM.runCall, PM.pks, PM.lend, PM.back, PM.take, PM.takes, PM.walkV, PM.walkL, PM.muV, PM.mtD, PM.biD, PM.setIx, PM.isOl, PM.isiV, PM.tyD, PM.isiD, PM.nonV, PM.truV, PM.truD, PM.partD, PM.items, PM.isiD, PM.lcFree, PM.wipeE, PM.backE, PM.intsD, PM.strsD, PM.boolsD, PM.keyD, PM.dKey, PM.enumV, PM.zipV, PM.rangeV] using n)
    simpa [PM.exs, PM.ex, PM.ev, PM.evs, PM.lcStep, PM.evo, PM.evt, PM.evi, PM.getS, PM.see, PM.sees, PM.frD, PM.binD, PM.cmpD, PM.stow, PM.stowAll, PM.asg, PM.asgs, PM.setSl, PM.setAll, PM.handOut, PM.endM, PM.parts, PM.owned, PM.isD, PM.runCall, PM.pks, PM.lend, PM.back, PM.take, PM.takes, PM.walkV, PM.walkL, PM.muV, PM.mtD, PM.biD, PM.setIx, PM.isOl, PM.isiV, PM.tyD, PM.isiD, PM.nonV, PM.truV, PM.truD, PM.partD, PM.items, PM.isiD, PM.lcFree, PM.wipeE, PM.backE, PM.intsD, PM.strsD, PM.boolsD, PM.keyD, PM.dKey, PM.enumV, PM.zipV, PM.rangeV, dedS] using this
  have a : (ls.map nmD).all isName = true := List.all_eq_true.mpr fun x hx => by
    obtain ⟨l, m, rfl⟩ := List.mem_map.mp hx
    exact (isName_nm l).mpr (hv l m)
  have s : strsD (ls.map nmD) = some (ls.map W) := by rw [e, strsD_map]
  show (decide ((ls.map nmD).length ≤ 8) && (ls.map nmD).all isName && (match strsD (ls.map nmD) with
    | some ss => decide ((dedS ss).length = (ls.map nmD).length)
    | none => false)) = true
  rw [a, s]
  simp [PM.exs, PM.ex, PM.ev, PM.evs, PM.lcStep, PM.evo, PM.evt, PM.evi, PM.getS, PM.see, PM.sees, PM.frD, PM.binD, PM.cmpD, PM.stow, PM.stowAll, PM.asg, PM.asgs, PM.setSl, PM.setAll, PM.handOut, PM.endM, PM.parts, PM.owned, PM.isD, PM.runCall, PM.pks, PM.lend, PM.back, PM.take, PM.takes, PM.walkV, PM.walkL, PM.muV, PM.mtD, PM.biD, PM.setIx, PM.isOl, PM.isiV, PM.tyD, PM.isiD, PM.nonV, PM.truV, PM.truD, PM.partD, PM.items, PM.isiD, PM.lcFree, PM.wipeE, PM.backE, PM.intsD, PM.strsD, PM.boolsD, PM.keyD, PM.dKey, PM.enumV, PM.zipV, PM.rangeV, d, hl]
theorem isNames_nd {xs : List D} (h : isNames (.tuple xs) = true) : xs.Nodup ∧ xs.length ≤ 8 ∧ ∀ x ∈ xs, isName x = true := by
  have h' : (decide (xs.length ≤ 8) && xs.all isName && (match strsD xs with
    | some ss => decide ((dedS ss).length = xs.length)
    | none => false)) = true := h
  rw [Bool.and_eq_true, Bool.and_eq_true] at h'
  obtain ⟨⟨a, b⟩, c⟩ := h'
  refine ⟨?_, of_decide_eq_true a, List.all_eq_true.mp b⟩
  cases q : strsD xs with
  | none => rw [q] at c; cases c
  | some ss =>
    rw [q] at c
    have e := strsD_of q
    have c : (dedS ss).length = xs.length := of_decide_eq_true c
    rw [e, List.length_map] at c
    have n := ded_eq ss [] List.nodup_nil (by simpa [PM.exs, PM.ex, PM.ev, PM.evs, PM.lcStep, PM.evo, PM.evt, PM.evi, PM.getS, PM.see, PM.sees, PM.frD, PM.binD, PM.cmpD, PM.stow, PM.stowAll, PM.asg, PM.asgs, PM.setSl, PM.setAll, PM.handOut, PM.endM, PM.parts, PM.owned, PM.isD, PM.runCall, PM.pks, PM.lend, PM.back, PM.take, PM.takes, PM.walkV, PM.walkL, PM.muV, PM.mtD, PM.biD, PM.setIx, PM.isOl, PM.isiV, PM.tyD, PM.isiD, PM.nonV, PM.truV, PM.truD, PM.partD, PM.items, PM.isiD, PM.lcFree, PM.wipeE, PM.backE, PM.intsD, PM.strsD, PM.boolsD, PM.keyD, PM.dKey, PM.enumV, PM.zipV, PM.rangeV, dedS] using c)
    rw [List.nil_append] at n
    rw [e, List.nodup_iff_pairwise_ne, List.pairwise_map]
    exact (List.nodup_iff_pairwise_ne.mp n).imp fun h z => h (by injection z)
/-- not names -/
def OddN (d : D) : Prop := FitN d ∧ isNames d = false
theorem fit_nm {l : List Nat} (h : Valid l) : Fit (nmD l) := by
  show (W l).length ≤ _
  rw [W_len]; have := h.2.1; omega
theorem oddN_t {xs : List D} (hf : ∀ x ∈ xs, Fit x) (h : ¬ (xs.Nodup ∧ xs.length ≤ 8 ∧ ∀ x ∈ xs, isName x = true)) : OddN (.tuple xs) := by
  refine ⟨hf, ?_⟩
  cases q : isNames (.tuple xs) with
  | false => rfl
  | true => exact absurd (isNames_nd q) h
theorem cut_hi {α : Type} (xs : List α) (a : Int) (h0 : 0 ≤ a) (h1 : a ≤ xs.length) : cut xs none (some a) = xs.take a.toNat := by
  unfold cut
  rw [HT.sIx_none]
  show (xs.drop 0).take ((if a < 0 then _ else min a.toNat xs.length) - 0) = _
  rw [if_neg (by omega)]
  simp [PM.exs, PM.ex, PM.ev, PM.evs, PM.lcStep, PM.evo, PM.evt, PM.evi, PM.getS, PM.see, PM.sees, PM.frD, PM.binD, PM.cmpD, PM.stow, PM.stowAll, PM.asg, PM.asgs, PM.setSl, PM.setAll, PM.handOut, PM.endM, PM.parts, PM.owned, PM.isD, PM.runCall, PM.pks, PM.lend, PM.back, PM.take, PM.takes, PM.walkV, PM.walkL, PM.muV, PM.mtD, PM.biD, PM.setIx, PM.isOl, PM.isiV, PM.tyD, PM.isiD, PM.nonV, PM.truV, PM.truD, PM.partD, PM.items, PM.isiD, PM.lcFree, PM.wipeE, PM.backE, PM.intsD, PM.strsD, PM.boolsD, PM.keyD, PM.dKey, PM.enumV, PM.zipV, PM.rangeV]
theorem cut_lo {α : Type} (xs : List α) (a : Int) (h0 : 0 ≤ a) (h1 : a ≤ xs.length) : cut xs (some a) none = xs.drop a.toNat := by
  unfold cut
  rw [HT.sIx_none]
  show (xs.drop (if a < 0 then _ else min a.toNat xs.length)).take (xs.length - (if a < 0 then _ else min a.toNat xs.length)) = _
  rw [if_neg (by omega), show min a.toNat xs.length = a.toNat by omega]
  rw [List.take_of_length_le (by simp [PM.exs, PM.ex, PM.ev, PM.evs, PM.lcStep, PM.evo, PM.evt, PM.evi, PM.getS, PM.see, PM.sees, PM.frD, PM.binD, PM.cmpD, PM.stow, PM.stowAll, PM.asg, PM.asgs, PM.setSl, PM.setAll, PM.handOut, PM.endM, PM.parts, PM.owned, PM.isD, PM.runCall, PM.pks, PM.lend, PM.back, PM.take, PM.takes, PM.walkV, PM.walkL, PM.muV, PM.mtD, PM.biD, PM.setIx, PM.isOl, PM.isiV, PM.tyD, PM.isiD, PM.nonV, PM.truV, PM.truD, PM.partD, PM.items, PM.isiD, PM.lcFree, PM.wipeE, PM.backE, PM.intsD, PM.strsD, PM.boolsD, PM.keyD, PM.dKey, PM.enumV, PM.zipV, PM.rangeV])]
theorem addT {xs ys : List D} (h : xs.length + ys.length ≤ 1000) : binD .Add (.tuple xs) (.tuple ys) = some (.d (.tuple (xs ++ ys))) := by
  show (if xs.length + ys.length ≤ lineN then some (Val.d (.tuple (xs ++ ys))) else none) = _
  rw [if_pos (by rw [lineN_eq]; omega)]
theorem mem_cut {α : Type} {xs : List α} {lo hi : Option Int} {x : α} (h : x ∈ cut xs lo hi) : x ∈ xs := List.mem_of_mem_drop (List.mem_of_mem_take h)
def dsC (N : List D) (o : D) (a : Int) : List D := [.tuple (cut N none (some a) ++ [o] ++ cut N (some a) none), .tuple (cut N none (some a) ++ [o] ++ cut N (some (a + 1)) none), .list N, .none, .str "ab", .dict [], .int 5]
abbrev menuC : ME := .lst [(.bin .Add (.bin .Add (.sli (.v 1) none (some (.v 3))) (.tup [(.v 2)])) (.sli (.v 1) (some (.v 3)) none)), (.bin .Add (.bin .Add (.sli (.v 1) none (some (.v 3))) (.tup [(.v 2)])) (.sli (.v 1) (some (.bin .Add (.v 3) (.c (.int 1)))) none)), (.bi .list [(.v 1)]), (.c .none), (.c (.str "ab")), (.dic []), (.c (.int 5))]
theorem oddsC (N : List D) (hN : ∀ x ∈ N, Fit x) (o : D) (ho : Odd o) (a : Int) : ∀ d ∈ dsC N o a, OddN d := by
  intro d hd
  simp only [dsC, List.mem_cons, List.not_mem_nil, or_false] at hd
  have F : ∀ p q : List D, (∀ x ∈ p, x ∈ N) → (∀ x ∈ q, x ∈ N) → OddN (.tuple (p ++ [o] ++ q)) := fun p q hp hq => by
    refine oddN_t (fun x hx => ?_) (fun h => ?_)
    · simp only [List.mem_append, List.mem_singleton] at hx
      rcases hx with (hx | rfl) | hx
      · exact hN x (hp x hx)
      · exact ho.1
      · exact hN x (hq x hx)
    · have := h.2.2 o (by simp [PM.exs, PM.ex, PM.ev, PM.evs, PM.lcStep, PM.evo, PM.evt, PM.evi, PM.getS, PM.see, PM.sees, PM.frD, PM.binD, PM.cmpD, PM.stow, PM.stowAll, PM.asg, PM.asgs, PM.setSl, PM.setAll, PM.handOut, PM.endM, PM.parts, PM.owned, PM.isD, PM.runCall, PM.pks, PM.lend, PM.back, PM.take, PM.takes, PM.walkV, PM.walkL, PM.muV, PM.mtD, PM.biD, PM.setIx, PM.isOl, PM.isiV, PM.tyD, PM.isiD, PM.nonV, PM.truV, PM.truD, PM.partD, PM.items, PM.isiD, PM.lcFree, PM.wipeE, PM.backE, PM.intsD, PM.strsD, PM.boolsD, PM.keyD, PM.dKey, PM.enumV, PM.zipV, PM.rangeV])
      rw [ho.2] at this; cases this
  rcases hd with rfl | rfl | rfl | rfl | rfl | rfl | rfl
  · exact F _ _ (fun x h => mem_cut h) (fun x h => mem_cut h)
  · exact F _ _ (fun x h => mem_cut h) (fun x h => mem_cut h)
  · exact ⟨trivial, rfl⟩
  · exact ⟨trivial, rfl⟩
  · exact ⟨trivial, rfl⟩
  · exact ⟨trivial, rfl⟩
  · exact ⟨trivial, rfl⟩
theorem menuC_ok (c : PM.Ctx) (s0 : Option Val) (N : List D) (hN : N.length ≤ 9) (o : D) (a : Int) : ev c menuC [s0, some (.d (.tuple N)), some (.d o), some (.d (.int a)), none] = .ok (.ol ((dsC N o a).map .d)) [s0, some (.d (.tuple N)), some (.d o), some (.d (.int a)), none] := by
  have E : ∀ e : PM.Env, e = [s0, some (.d (.tuple N)), some (.d o), some (.d (.int a)), none] → ev c menuC e = .ok (.ol ((dsC N o a).map .d)) e := fun e he => by
    have c1 := cut_len N none (some a)
    have c2 := cut_len N (some (a + 1)) none
    have c3 := cut_len N (some a) none
    have v1 : ev c (.v 1) e = .ok (.d (.tuple N)) e := by rw [he]; rfl
    have t2 : ev c (.tup [.v 2]) e = .ok (.d (.tuple [o])) e := by rw [he]; simp [PM.exs, PM.ex, PM.ev, PM.evs, PM.lcStep, PM.evo, PM.evt, PM.evi, PM.getS, PM.see, PM.sees, PM.frD, PM.binD, PM.cmpD, PM.stow, PM.stowAll, PM.asg, PM.asgs, PM.setSl, PM.setAll, PM.handOut, PM.endM, PM.parts, PM.owned, PM.isD, PM.runCall, PM.pks, PM.lend, PM.back, PM.take, PM.takes, PM.walkV, PM.walkL, PM.muV, PM.mtD, PM.biD, PM.setIx, PM.isOl, PM.isiV, PM.tyD, PM.isiD, PM.nonV, PM.truV, PM.truD, PM.partD, PM.items, PM.isiD, PM.lcFree, PM.wipeE, PM.backE, PM.intsD, PM.strsD, PM.boolsD, PM.keyD, PM.dKey, PM.enumV, PM.zipV, PM.rangeV, lineN_eq]
    have v3 : evo c (some (.v 3)) e = .ok (some a) e := by rw [he]; rfl
    have v4 : evo c (some (.bin .Add (.v 3) (.c (.int 1)))) e = .ok (some (a + 1)) e := by rw [he]; rfl
    have l : ev c (.bi .list [.v 1]) e = .ok (.ol (N.map .d)) e := by rw [he]; simp [PM.exs, PM.ex, PM.ev, PM.evs, PM.lcStep, PM.evo, PM.evt, PM.evi, PM.getS, PM.see, PM.sees, PM.frD, PM.binD, PM.cmpD, PM.stow, PM.stowAll, PM.asg, PM.asgs, PM.setSl, PM.setAll, PM.handOut, PM.endM, PM.parts, PM.owned, PM.isD, PM.runCall, PM.pks, PM.lend, PM.back, PM.take, PM.takes, PM.walkV, PM.walkL, PM.muV, PM.mtD, PM.biD, PM.setIx, PM.isOl, PM.isiV, PM.tyD, PM.isiD, PM.nonV, PM.truV, PM.truD, PM.partD, PM.items, PM.isiD, PM.lcFree, PM.wipeE, PM.backE, PM.intsD, PM.strsD, PM.boolsD, PM.keyD, PM.dKey, PM.enumV, PM.zipV, PM.rangeV]
    have dd : ev c (.dic []) e = .ok (.od []) e := by simp [PM.exs, PM.ex, PM.ev, PM.evs, PM.lcStep, PM.evo, PM.evt, PM.evi, PM.getS, PM.see, PM.sees, PM.frD, PM.binD, PM.cmpD, PM.stow, PM.stowAll, PM.asg, PM.asgs, PM.setSl, PM.setAll, PM.handOut, PM.endM, PM.parts, PM.owned, PM.isD, PM.runCall, PM.pks, PM.lend, PM.back, PM.take, PM.takes, PM.walkV, PM.walkL, PM.muV, PM.mtD, PM.biD, PM.setIx, PM.isOl, PM.isiV, PM.tyD, PM.isiD, PM.nonV, PM.truV, PM.truD, PM.partD, PM.items, PM.isiD, PM.lcFree, PM.wipeE, PM.backE, PM.intsD, PM.strsD, PM.boolsD, PM.keyD, PM.dKey, PM.enumV, PM.zipV, PM.rangeV, twosK, mergeD, putK, liftK]
    have sl : ev c (.sli (.v 1) none (some (.v 3))) e = .ok (.d (.tuple (cut N none (some a)))) e := ev_sli v1 rfl v3 rfl rfl
    have sh : ev c (.sli (.v 1) (some (.v 3)) none) e = .ok (.d (.tuple (cut N (some a) none))) e := ev_sli v1 v3 rfl rfl rfl
    have sh' : ev c (.sli (.v 1) (some (.bin .Add (.v 3) (.c (.int 1)))) none) e = .ok (.d (.tuple (cut N (some (a + 1)) none))) e := ev_sli v1 v4 rfl rfl rfl
    have b0 := ev_bin sl t2 rfl rfl (addT (by simp [PM.exs, PM.ex, PM.ev, PM.evs, PM.lcStep, PM.evo, PM.evt, PM.evi, PM.getS, PM.see, PM.sees, PM.frD, PM.binD, PM.cmpD, PM.stow, PM.stowAll, PM.asg, PM.asgs, PM.setSl, PM.setAll, PM.handOut, PM.endM, PM.parts, PM.owned, PM.isD, PM.runCall, PM.pks, PM.lend, PM.back, PM.take, PM.takes, PM.walkV, PM.walkL, PM.muV, PM.mtD, PM.biD, PM.setIx, PM.isOl, PM.isiV, PM.tyD, PM.isiD, PM.nonV, PM.truV, PM.truD, PM.partD, PM.items, PM.isiD, PM.lcFree, PM.wipeE, PM.backE, PM.intsD, PM.strsD, PM.boolsD, PM.keyD, PM.dKey, PM.enumV, PM.zipV, PM.rangeV]; omega))
    exact ev_lst (evs_cons' (ev_bin b0 sh rfl rfl (addT (by simp [PM.exs, PM.ex, PM.ev, PM.evs, PM.lcStep, PM.evo, PM.evt, PM.evi, PM.getS, PM.see, PM.sees, PM.frD, PM.binD, PM.cmpD, PM.stow, PM.stowAll, PM.asg, PM.asgs, PM.setSl, PM.setAll, PM.handOut, PM.endM, PM.parts, PM.owned, PM.isD, PM.runCall, PM.pks, PM.lend, PM.back, PM.take, PM.takes, PM.walkV, PM.walkL, PM.muV, PM.mtD, PM.biD, PM.setIx, PM.isOl, PM.isiV, PM.tyD, PM.isiD, PM.nonV, PM.truV, PM.truD, PM.partD, PM.items, PM.isiD, PM.lcFree, PM.wipeE, PM.backE, PM.intsD, PM.strsD, PM.boolsD, PM.keyD, PM.dKey, PM.enumV, PM.zipV, PM.rangeV]; omega))) (evs_cons' (ev_bin b0 sh' rfl rfl (addT (by simp [PM.exs, PM.ex, PM.ev, PM.evs, PM.lcStep, PM.evo, PM.evt, PM.evi, PM.getS, PM.see, PM.sees, PM.frD, PM.binD, PM.cmpD, PM.stow, PM.stowAll, PM.asg, PM.asgs, PM.setSl, PM.setAll, PM.handOut, PM.endM, PM.parts, PM.owned, PM.isD, PM.runCall, PM.pks, PM.lend, PM.back, PM.take, PM.takes, PM.walkV, PM.walkL, PM.muV, PM.mtD, PM.biD, PM.setIx, PM.isOl, PM.isiV, PM.tyD, PM.isiD, PM.nonV, PM.truV, PM.truD, PM.partD, PM.items, PM.isiD, PM.lcFree, PM.wipeE, PM.backE, PM.intsD, PM.strsD, PM.boolsD, PM.keyD, PM.dKey, PM.enumV, PM.zipV, PM.rangeV]; omega))) (evs_cons' l (evs_cons' rfl (evs_cons' rfl (evs_cons' dd (evs_cons' rfl evs_nil'))))))) (by simp [PM.exs, PM.ex, PM.ev, PM.evs, PM.lcStep, PM.evo, PM.evt, PM.evi, PM.getS, PM.see, PM.sees, PM.frD, PM.binD, PM.cmpD, PM.stow, PM.stowAll, PM.asg, PM.asgs, PM.setSl, PM.setAll, PM.handOut, PM.endM, PM.parts, PM.owned, PM.isD, PM.runCall, PM.pks, PM.lend, PM.back, PM.take, PM.takes, PM.walkV, PM.walkL, PM.muV, PM.mtD, PM.biD, PM.setIx, PM.isOl, PM.isiV, PM.tyD, PM.isiD, PM.nonV, PM.truV, PM.truD, PM.partD, PM.items, PM.isiD, PM.lcFree, PM.wipeE, PM.backE, PM.intsD, PM.strsD, PM.boolsD, PM.keyD, PM.dKey, PM.enumV, PM.zipV, PM.rangeV, dsC, allKD]) (by simp [PM.exs, PM.ex, PM.ev, PM.evs, PM.lcStep, PM.evo, PM.evt, PM.evi, PM.getS, PM.see, PM.sees, PM.frD, PM.binD, PM.cmpD, PM.stow, PM.stowAll, PM.asg, PM.asgs, PM.setSl, PM.setAll, PM.handOut, PM.endM, PM.parts, PM.owned, PM.isD, PM.runCall, PM.pks, PM.lend, PM.back, PM.take, PM.takes, PM.walkV, PM.walkL, PM.muV, PM.mtD, PM.biD, PM.setIx, PM.isOl, PM.isiV, PM.tyD, PM.isiD, PM.nonV, PM.truV, PM.truD, PM.partD, PM.items, PM.isiD, PM.lcFree, PM.wipeE, PM.backE, PM.intsD, PM.strsD, PM.boolsD, PM.keyD, PM.dKey, PM.enumV, PM.zipV, PM.rangeV, dsC])
  exact E _ rfl
end Lk01
end

section
set_option Elab.async false
set_option linter.all false
set_option maxRecDepth 100000
set_option maxHeartbeats 2000000
namespace Lk01
open PySem PM
theorem sum_le6 : ∀ {ls : List (List Nat)}, (∀ l ∈ ls, Valid l) → ((ls.map W).map (·.length)).sum ≤ 6 * ls.length
  | [], _ => by simp [PM.exs, PM.ex, PM.ev, PM.evs, PM.lcStep, PM.evo, PM.evt, PM.evi, PM.getS, PM.see, PM.sees, PM.frD, PM.binD, PM.cmpD, PM.stow, PM.stowAll, PM.asg, PM.asgs, PM.setSl, PM.setAll, PM.handOut, PM.endM, PM.parts, PM.owned, PM.isD, PM.runCall, PM.pks, PM.lend, PM.back, PM.take, PM.takes, PM.walkV, PM.walkL, PM.muV, PM.mtD, PM.biD, PM.setIx, PM.isOl, PM.isiV, PM.tyD, PM.isiD, PM.nonV, PM.truV, PM.truD, PM.partD, PM.items, PM.isiD, PM.lcFree, PM.wipeE, PM.backE, PM.intsD, PM.strsD, PM.boolsD, PM.keyD, PM.dKey, PM.enumV, PM.zipV, PM.rangeV]
  | l :: r, h => by
    have := sum_le6 fun x m => h x (List.mem_cons_of_mem _ m)
    have := (h l List.mem_cons_self).2.1
    simp [PM.exs, PM.ex, PM.ev, PM.evs, PM.lcStep, PM.evo, PM.evt, PM.evi, PM.getS, PM.see, PM.sees, PM.frD, PM.binD, PM.cmpD, PM.stow, PM.stowAll, PM.asg, PM.asgs, PM.setSl, PM.setAll, PM.handOut, PM.endM, PM.parts, PM.owned, PM.isD, PM.runCall, PM.pks, PM.lend, PM.back, PM.take, PM.takes, PM.walkV, PM.walkL, PM.muV, PM.mtD, PM.biD, PM.setIx, PM.isOl, PM.isiV, PM.tyD, PM.isiD, PM.nonV, PM.truV, PM.truD, PM.partD, PM.items, PM.isiD, PM.lcFree, PM.wipeE, PM.backE, PM.intsD, PM.strsD, PM.boolsD, PM.keyD, PM.dKey, PM.enumV, PM.zipV, PM.rangeV] at *
    omega
abbrev EO (b : Bool) (n c s : Int) (N : List D) (o : D) (a : Int) (ds : List D) : PM.Env := [some (st b n c s), some (.d (.tuple N)), some (.d o), some (.d (.int a)), some (.ol (ds.map .d))]
abbrev moreC : List MS := [
    .expr (.mu .append 4 [(.bin .Add (.bin .Add (.sli (.v 1) none (some (.v 3))) (.tup [(.idx (.v 1) (.call 6 [(.v 0), (.bi .len [(.v 1)])]))])) (.sli (.v 1) (some (.v 3)) none))]),
    .expr (.mu .append 4 [(.mt .join (.c (.str " ")) [(.v 1)])])]
theorem ex_app {c : PM.Ctx} {a : ME} {x : D} {ds : List D} {e e1 : PM.Env} (h : ev c a e = .ok (.d x) e1) (h4 : getS e 4 = some (.ol (ds.map .d))) (h4' : getS e1 4 = some (.ol (ds.map .d))) (hl : ds.length ≤ 1000) : ex c (.expr (.mu .append 4 [a])) e = .ok .nx (e1.set 4 (some (.ol ((ds ++ [x]).map .d)))) := by
  have hl' : ds.length < lineN := by rw [lineN_eq]; omega
  show (ev c (.mu .append 4 [a]) e).bind _ = _
  have : ev c (.mu .append 4 [a]) e = .ok (.d .none) (e1.set 4 (some (.ol ((ds ++ [x]).map .d)))) := by
    show (if isOl (getS e 4) = true then (evs c [a] e).bind _ else Res.no) = _
    rw [h4, if_pos (show isOl (some (.ol (ds.map Val.d))) = true from rfl), evs_cons' h evs_nil']
    show (match getS e1 4 with
      | some o => match muV .append o [x] with
        | some (r, o') => Res.ok r (e1.set 4 (some o'))
        | none => Res.no
      | none => Res.no) = _
    rw [h4']
    show (match (if (ds.map Val.d).length < lineN then some (Val.d .none, Val.ol (ds.map .d ++ [.d x])) else none) with
        | some (r, o') => Res.ok r (e1.set 4 (some o'))
        | none => Res.no) = _
    rw [if_pos (by simpa [PM.exs, PM.ex, PM.ev, PM.evs, PM.lcStep, PM.evo, PM.evt, PM.evi, PM.getS, PM.see, PM.sees, PM.frD, PM.binD, PM.cmpD, PM.stow, PM.stowAll, PM.asg, PM.asgs, PM.setSl, PM.setAll, PM.handOut, PM.endM, PM.parts, PM.owned, PM.isD, PM.runCall, PM.pks, PM.lend, PM.back, PM.take, PM.takes, PM.walkV, PM.walkL, PM.muV, PM.mtD, PM.biD, PM.setIx, PM.isOl, PM.isiV, PM.tyD, PM.isiD, PM.nonV, PM.truV, PM.truD, PM.partD, PM.items, PM.isiD, PM.lcFree, PM.wipeE, PM.backE, PM.intsD, PM.strsD, PM.boolsD, PM.keyD, PM.dKey, PM.enumV, PM.zipV, PM.rangeV] using hl'), List.map_append]
    rfl
  rw [this]
  rfl
theorem lenT_ev (c : PM.Ctx) (s0 : Option Val) (N : List D) (t : PM.Env) : ev c (.bi .len [.v 1]) (s0 :: some (.d (.tuple N)) :: t) = .ok (.d (.int N.length)) (s0 :: some (.d (.tuple N)) :: t) := by simp [PM.exs, PM.ex, PM.ev, PM.evs, PM.lcStep, PM.evo, PM.evt, PM.evi, PM.getS, PM.see, PM.sees, PM.frD, PM.binD, PM.cmpD, PM.stow, PM.stowAll, PM.asg, PM.asgs, PM.setSl, PM.setAll, PM.handOut, PM.endM, PM.parts, PM.owned, PM.isD, PM.runCall, PM.pks, PM.lend, PM.back, PM.take, PM.takes, PM.walkV, PM.walkL, PM.muV, PM.mtD, PM.biD, PM.setIx, PM.isOl, PM.isiV, PM.tyD, PM.isiD, PM.nonV, PM.truV, PM.truD, PM.partD, PM.items, PM.isiD, PM.lcFree, PM.wipeE, PM.backE, PM.intsD, PM.strsD, PM.boolsD, PM.keyD, PM.dKey, PM.enumV, PM.zipV, PM.rangeV]
theorem more_ok (k : Nat) (b : Bool) (n c s : Int) (ls : List (List Nat)) (hv : ∀ l ∈ ls, Valid l) (hl : ls.length ≤ 8) (hne : ls ≠ []) (o : D) (a : Int) (a0 : 0 ≤ a) (a1 : a ≤ ls.length) (ds : List D) (hd : ds.length ≤ 100) (h0 : 0 ≤ c) (h1 : c < 95000) :
    ∃ n' x y, OddN x ∧ OddN y ∧ exs (cx (k + 2) [true, false, false]) moreC (EO b n c s (ls.map nmD) o a ds) = .ok .nx (EO b n' (c + 1) s (ls.map nmD) o a (ds ++ [x] ++ [y])) := by
  have hN : (ls.map nmD).length = ls.length := List.length_map _
  have hpos : 0 < ls.length := by cases ls with
    | nil => exact absurd rfl hne
    | cons _ _ => simp [PM.exs, PM.ex, PM.ev, PM.evs, PM.lcStep, PM.evo, PM.evt, PM.evi, PM.getS, PM.see, PM.sees, PM.frD, PM.binD, PM.cmpD, PM.stow, PM.stowAll, PM.asg, PM.asgs, PM.setSl, PM.setAll, PM.handOut, PM.endM, PM.parts, PM.owned, PM.isD, PM.runCall, PM.pks, PM.lend, PM.back, PM.take, PM.takes, PM.walkV, PM.walkL, PM.muV, PM.mtD, PM.biD, PM.setIx, PM.isOl, PM.isiV, PM.tyD, PM.isiD, PM.nonV, PM.truV, PM.truD, PM.partD, PM.items, PM.isiD, PM.lcFree, PM.wipeE, PM.backE, PM.intsD, PM.strsD, PM.boolsD, PM.keyD, PM.dKey, PM.enumV, PM.zipV, PM.rangeV]
  obtain ⟨n1, r, r0, r1, T⟩ := take_ev k [true, false, false] (.bi .len [.v 1]) b n c s (ls.map nmD).length [some (.d (.tuple (ls.map nmD))), some (.d o), some (.d (.int a)), some (.ol (ds.map .d))] (lenT_ev _ _ _ _) h0 (by omega) (by omega) (by omega)
  obtain ⟨z, hz, hzi⟩ := atI_mem (xs := ls.map nmD) r0 r1
  have fN : ∀ x ∈ ls.map nmD, Fit x := fun x hx => by
    obtain ⟨l, m, rfl⟩ := List.mem_map.mp hx
    exact fit_nm (hv l m)
  have c1 := cut_len (ls.map nmD) none (some a)
  have c3 := cut_len (ls.map nmD) (some a) none
  have X : ev (cx (k + 2) [true, false, false]) (.bin .Add (.bin .Add (.sli (.v 1) none (some (.v 3))) (.tup [(.idx (.v 1) (.call 6 [(.v 0), (.bi .len [(.v 1)])]))])) (.sli (.v 1) (some (.v 3)) none)) (EO b n c s (ls.map nmD) o a ds) = .ok (.d (.tuple (cut (ls.map nmD) none (some a) ++ [z] ++ cut (ls.map nmD) (some a) none))) (EO b n1 (c + 1) s (ls.map nmD) o a ds) := by
    have t : ev (cx (k + 2) [true, false, false]) (.tup [(.idx (.v 1) (.call 6 [(.v 0), (.bi .len [(.v 1)])]))]) (EO b n c s (ls.map nmD) o a ds) = .ok (.d (.tuple [z])) (EO b n1 (c + 1) s (ls.map nmD) o a ds) := by
      have i : ev (cx (k + 2) [true, false, false]) (.idx (.v 1) (.call 6 [(.v 0), (.bi .len [(.v 1)])])) (EO b n c s (ls.map nmD) o a ds) = .ok (.d z) (EO b n1 (c + 1) s (ls.map nmD) o a ds) := ev_idx (va := .d (.tuple (ls.map nmD))) (x := .tuple (ls.map nmD)) rfl T rfl rfl hzi
      show (evs _ [_] _).bind _ = _
      rw [evs_cons' i evs_nil']
      show (if 1 ≤ lineN then Res.ok (Val.d (.tuple [z])) _ else Res.no) = _
      rw [if_pos (by rw [lineN_eq]; omega)]
    have sl : ev (cx (k + 2) [true, false, false]) (.sli (.v 1) none (some (.v 3))) (EO b n c s (ls.map nmD) o a ds) = .ok (.d (.tuple (cut (ls.map nmD) none (some a)))) (EO b n c s (ls.map nmD) o a ds) := ev_sli rfl rfl rfl rfl rfl
    have sh : ev (cx (k + 2) [true, false, false]) (.sli (.v 1) (some (.v 3)) none) (EO b n1 (c + 1) s (ls.map nmD) o a ds) = .ok (.d (.tuple (cut (ls.map nmD) (some a) none))) (EO b n1 (c + 1) s (ls.map nmD) o a ds) := ev_sli rfl rfl rfl rfl rfl
    exact ev_bin (ev_bin sl t rfl rfl (addT (by simp [PM.exs, PM.ex, PM.ev, PM.evs, PM.lcStep, PM.evo, PM.evt, PM.evi, PM.getS, PM.see, PM.sees, PM.frD, PM.binD, PM.cmpD, PM.stow, PM.stowAll, PM.asg, PM.asgs, PM.setSl, PM.setAll, PM.handOut, PM.endM, PM.parts, PM.owned, PM.isD, PM.runCall, PM.pks, PM.lend, PM.back, PM.take, PM.takes, PM.walkV, PM.walkL, PM.muV, PM.mtD, PM.biD, PM.setIx, PM.isOl, PM.isiV, PM.tyD, PM.isiD, PM.nonV, PM.truV, PM.truD, PM.partD, PM.items, PM.isiD, PM.lcFree, PM.wipeE, PM.backE, PM.intsD, PM.strsD, PM.boolsD, PM.keyD, PM.dKey, PM.enumV, PM.zipV, PM.rangeV] at *; omega))) sh rfl rfl (addT (by simp [PM.exs, PM.ex, PM.ev, PM.evs, PM.lcStep, PM.evo, PM.evt, PM.evi, PM.getS, PM.see, PM.sees, PM.frD, PM.binD, PM.cmpD, PM.stow, PM.stowAll, PM.asg, PM.asgs, PM.setSl, PM.setAll, PM.handOut, PM.endM, PM.parts, PM.owned, PM.isD, PM.runCall, PM.pks, PM.lend, PM.back, PM.take, PM.takes, PM.walkV, PM.walkL, PM.muV, PM.mtD, PM.biD, PM.setIx, PM.isOl, PM.isiV, PM.tyD, PM.isiD, PM.nonV, PM.truV, PM.truD, PM.partD, PM.items, PM.isiD, PM.lcFree, PM.wipeE, PM.backE, PM.intsD, PM.strsD, PM.boolsD, PM.keyD, PM.dKey, PM.enumV, PM.zipV, PM.rangeV] at *; omega))
  have Y : ev (cx (k + 2) [true, false, false]) (.mt .join (.c (.str " ")) [(.v 1)]) (EO b n1 (c + 1) s (ls.map nmD) o a (ds ++ [.tuple (cut (ls.map nmD) none (some a) ++ [z] ++ cut (ls.map nmD) (some a) none)])) = .ok (.d (.str (Txt.join " " (ls.map W)))) (EO b n1 (c + 1) s (ls.map nmD) o a (ds ++ [.tuple (cut (ls.map nmD) none (some a) ++ [z] ++ cut (ls.map nmD) (some a) none)])) := by
    have e : ls.map nmD = (ls.map W).map .str := by simp [PM.exs, PM.ex, PM.ev, PM.evs, PM.lcStep, PM.evo, PM.evt, PM.evi, PM.getS, PM.see, PM.sees, PM.frD, PM.binD, PM.cmpD, PM.stow, PM.stowAll, PM.asg, PM.asgs, PM.setSl, PM.setAll, PM.handOut, PM.endM, PM.parts, PM.owned, PM.isD, PM.runCall, PM.pks, PM.lend, PM.back, PM.take, PM.takes, PM.walkV, PM.walkL, PM.muV, PM.mtD, PM.biD, PM.setIx, PM.isOl, PM.isiV, PM.tyD, PM.isiD, PM.nonV, PM.truV, PM.truD, PM.partD, PM.items, PM.isiD, PM.lcFree, PM.wipeE, PM.backE, PM.intsD, PM.strsD, PM.boolsD, PM.keyD, PM.dKey, PM.enumV, PM.zipV, PM.rangeV, Function.comp_def]
    have sd : strsD (ls.map nmD) = some (ls.map W) := by rw [e, strsD_map]
    have s6 := sum_le6 hv
    show opt ((strsD (ls.map nmD)).bind fun ss => if (ss.map (·.length)).sum + ss.length * (Str.ofString " ").length ≤ 16777216 then some (Val.d (.str (Txt.join " " ss))) else none) _ = _
    rw [sd]
    show opt (if ((ls.map W).map (·.length)).sum + (ls.map W).length * (Str.ofString " ").length ≤ 16777216 then some (Val.d (.str (Txt.join " " (ls.map W)))) else none) _ = _
    rw [if_pos (by rw [List.length_map, show (Str.ofString " ").length = 1 by decide +kernel]; omega)]
    rfl
  refine ⟨n1, .tuple (cut (ls.map nmD) none (some a) ++ [z] ++ cut (ls.map nmD) (some a) none), .str (Txt.join " " (ls.map W)), ?_, ⟨trivial, rfl⟩, ?_⟩
  · refine oddN_t (fun x hx => ?_) (fun h => ?_)
    · simp only [List.mem_append, List.mem_singleton] at hx
      rcases hx with (hx | rfl) | hx
      · exact fN x (mem_cut hx)
      · exact fN _ hz
      · exact fN x (mem_cut hx)
    · have nd := h.1
      rw [cut_hi _ a a0 (by omega), cut_lo _ a a0 (by omega)] at nd
      rw [← List.take_append_drop a.toNat (ls.map nmD)] at hz
      rcases List.mem_append.mp hz with q | q
      · have := (List.nodup_append.mp (List.nodup_append.mp nd).1).2.2 z q z (by simp [PM.exs, PM.ex, PM.ev, PM.evs, PM.lcStep, PM.evo, PM.evt, PM.evi, PM.getS, PM.see, PM.sees, PM.frD, PM.binD, PM.cmpD, PM.stow, PM.stowAll, PM.asg, PM.asgs, PM.setSl, PM.setAll, PM.handOut, PM.endM, PM.parts, PM.owned, PM.isD, PM.runCall, PM.pks, PM.lend, PM.back, PM.take, PM.takes, PM.walkV, PM.walkL, PM.muV, PM.mtD, PM.biD, PM.setIx, PM.isOl, PM.isiV, PM.tyD, PM.isiD, PM.nonV, PM.truV, PM.truD, PM.partD, PM.items, PM.isiD, PM.lcFree, PM.wipeE, PM.backE, PM.intsD, PM.strsD, PM.boolsD, PM.keyD, PM.dKey, PM.enumV, PM.zipV, PM.rangeV])
        exact this rfl
      · have := (List.nodup_append.mp nd).2.2 z (by simp [PM.exs, PM.ex, PM.ev, PM.evs, PM.lcStep, PM.evo, PM.evt, PM.evi, PM.getS, PM.see, PM.sees, PM.frD, PM.binD, PM.cmpD, PM.stow, PM.stowAll, PM.asg, PM.asgs, PM.setSl, PM.setAll, PM.handOut, PM.endM, PM.parts, PM.owned, PM.isD, PM.runCall, PM.pks, PM.lend, PM.back, PM.take, PM.takes, PM.walkV, PM.walkL, PM.muV, PM.mtD, PM.biD, PM.setIx, PM.isOl, PM.isiV, PM.tyD, PM.isiD, PM.nonV, PM.truV, PM.truD, PM.partD, PM.items, PM.isiD, PM.lcFree, PM.wipeE, PM.backE, PM.intsD, PM.strsD, PM.boolsD, PM.keyD, PM.dKey, PM.enumV, PM.zipV, PM.rangeV]) z q
        exact this rfl
  · rw [exs_nx (ex_app X rfl rfl (by omega))]
    show exs _ [_] (EO b n1 (c + 1) s (ls.map nmD) o a (ds ++ [.tuple (cut (ls.map nmD) none (some a) ++ [z] ++ cut (ls.map nmD) (some a) none)])) = _
    rw [exs_nx (ex_app Y rfl rfl (by simp [PM.exs, PM.ex, PM.ev, PM.evs, PM.lcStep, PM.evo, PM.evt, PM.evi, PM.getS, PM.see, PM.sees, PM.frD, PM.binD, PM.cmpD, PM.stow, PM.stowAll, PM.asg, PM.asgs, PM.setSl, PM.setAll, PM.handOut, PM.endM, PM.parts, PM.owned, PM.isD, PM.runCall, PM.pks, PM.lend, PM.back, PM.take, PM.takes, PM.walkV, PM.walkL, PM.muV, PM.mtD, PM.biD, PM.setIx, PM.isOl, PM.isiV, PM.tyD, PM.isiD, PM.nonV, PM.truV, PM.truD, PM.partD, PM.items, PM.isiD, PM.lcFree, PM.wipeE, PM.backE, PM.intsD, PM.strsD, PM.boolsD, PM.keyD, PM.dKey, PM.enumV, PM.zipV, PM.rangeV]; omega))]
    rfl
theorem call_odd_names (k : Nat) (b : Bool) (n c s : Int) (ls : List (List Nat)) (hv : ∀ l ∈ ls, Valid l) (hl : ls.length ≤ 8) (o : D) (ho : Odd o) (h0 : 0 ≤ c) (h1 : c < 90000) :
    ∃ n' c' d, c ≤ c' ∧ c' ≤ c + 4 ∧ OddN d ∧ callM T.prog (k + 3) 11 [st b n c s, .d (.tuple (ls.map nmD)), .d o] = .ok (.d d) [st b n' c' s, .d (.tuple (ls.map nmD)), .d o] := by
  have hN : (ls.map nmD).length = ls.length := List.length_map _
  have fN : ∀ x ∈ ls.map nmD, Fit x := fun x hx => by
    obtain ⟨l, m, rfl⟩ := List.mem_map.mp hx
    exact fit_nm (hv l m)
  rw [go3 (fd := d__law_odd_names.d) rfl ⟨rfl, by decide⟩]
  have la : ev (cx (k + 2) [true, false, false]) (.bin .Add (.bi .len [.v 1]) (.c (.int 1))) [some (st b n c s), some (.d (.tuple (ls.map nmD))), some (.d o), none, none] = .ok (.d (.int (ls.length + 1))) [some (st b n c s), some (.d (.tuple (ls.map nmD))), some (.d o), none, none] := ev_bin (lenT_ev _ _ _ _) rfl rfl rfl (by rw [hN]; rfl)
  obtain ⟨n1, a, a0, a1, T1⟩ := take_ev k [true, false, false] _ b n c s (ls.length + 1) [some (.d (.tuple (ls.map nmD))), some (.d o), none, none] la h0 (by omega) (by omega) (by omega)
  have S1 : ex (cx (k + 2) [true, false, false]) (.set (.nm 3) (.call 6 [(.v 0), (.bin .Add (.bi .len [(.v 1)]) (.c (.int 1)))])) [some (st b n c s), some (.d (.tuple (ls.map nmD))), some (.d o), none, none] = .ok .nx [some (st b n1 (c + 1) s), some (.d (.tuple (ls.map nmD))), some (.d o), some (.d (.int a)), none] := ex_set' T1 rfl (by simp [PM.exs, PM.ex, PM.ev, PM.evs, PM.lcStep, PM.evo, PM.evt, PM.evi, PM.getS, PM.see, PM.sees, PM.frD, PM.binD, PM.cmpD, PM.stow, PM.stowAll, PM.asg, PM.asgs, PM.setSl, PM.setAll, PM.handOut, PM.endM, PM.parts, PM.owned, PM.isD, PM.runCall, PM.pks, PM.lend, PM.back, PM.take, PM.takes, PM.walkV, PM.walkL, PM.muV, PM.mtD, PM.biD, PM.setIx, PM.isOl, PM.isiV, PM.tyD, PM.isiD, PM.nonV, PM.truV, PM.truD, PM.partD, PM.items, PM.isiD, PM.lcFree, PM.wipeE, PM.backE, PM.intsD, PM.strsD, PM.boolsD, PM.keyD, PM.dKey, PM.enumV, PM.zipV, PM.rangeV]) (by simp [PM.exs, PM.ex, PM.ev, PM.evs, PM.lcStep, PM.evo, PM.evt, PM.evi, PM.getS, PM.see, PM.sees, PM.frD, PM.binD, PM.cmpD, PM.stow, PM.stowAll, PM.asg, PM.asgs, PM.setSl, PM.setAll, PM.handOut, PM.endM, PM.parts, PM.owned, PM.isD, PM.runCall, PM.pks, PM.lend, PM.back, PM.take, PM.takes, PM.walkV, PM.walkL, PM.muV, PM.mtD, PM.biD, PM.setIx, PM.isOl, PM.isiV, PM.tyD, PM.isiD, PM.nonV, PM.truV, PM.truD, PM.partD, PM.items, PM.isiD, PM.lcFree, PM.wipeE, PM.backE, PM.intsD, PM.strsD, PM.boolsD, PM.keyD, PM.dKey, PM.enumV, PM.zipV, PM.rangeV]) rfl
  have S2 : ex (cx (k + 2) [true, false, false]) (.set (.nm 4) menuC) [some (st b n1 (c + 1) s), some (.d (.tuple (ls.map nmD))), some (.d o), some (.d (.int a)), none] = .ok .nx (EO b n1 (c + 1) s (ls.map nmD) o a (dsC (ls.map nmD) o a)) := ex_set' (menuC_ok _ _ (ls.map nmD) (by omega) o a) rfl (by simp [PM.exs, PM.ex, PM.ev, PM.evs, PM.lcStep, PM.evo, PM.evt, PM.evi, PM.getS, PM.see, PM.sees, PM.frD, PM.binD, PM.cmpD, PM.stow, PM.stowAll, PM.asg, PM.asgs, PM.setSl, PM.setAll, PM.handOut, PM.endM, PM.parts, PM.owned, PM.isD, PM.runCall, PM.pks, PM.lend, PM.back, PM.take, PM.takes, PM.walkV, PM.walkL, PM.muV, PM.mtD, PM.biD, PM.setIx, PM.isOl, PM.isiV, PM.tyD, PM.isiD, PM.nonV, PM.truV, PM.truD, PM.partD, PM.items, PM.isiD, PM.lcFree, PM.wipeE, PM.backE, PM.intsD, PM.strsD, PM.boolsD, PM.keyD, PM.dKey, PM.enumV, PM.zipV, PM.rangeV]) (by simp [PM.exs, PM.ex, PM.ev, PM.evs, PM.lcStep, PM.evo, PM.evt, PM.evi, PM.getS, PM.see, PM.sees, PM.frD, PM.binD, PM.cmpD, PM.stow, PM.stowAll, PM.asg, PM.asgs, PM.setSl, PM.setAll, PM.handOut, PM.endM, PM.parts, PM.owned, PM.isD, PM.runCall, PM.pks, PM.lend, PM.back, PM.take, PM.takes, PM.walkV, PM.walkL, PM.muV, PM.mtD, PM.biD, PM.setIx, PM.isOl, PM.isiV, PM.tyD, PM.isiD, PM.nonV, PM.truV, PM.truD, PM.partD, PM.items, PM.isiD, PM.lcFree, PM.wipeE, PM.backE, PM.intsD, PM.strsD, PM.boolsD, PM.keyD, PM.dKey, PM.enumV, PM.zipV, PM.rangeV]) rfl
  have key : ∃ n2 c2 ds, c ≤ c2 ∧ c2 ≤ c + 2 ∧ ds ≠ [] ∧ ds.length ≤ 100 ∧ (∀ d ∈ ds, OddN d) ∧ ex (cx (k + 2) [true, false, false]) (.ite (.cmp .NotEq (.v 1) (.tup [])) moreC []) (EO b n1 (c + 1) s (ls.map nmD) o a (dsC (ls.map nmD) o a)) = .ok .nx (EO b n2 c2 s (ls.map nmD) o a ds) := by
    have t : ev (cx (k + 2) [true, false, false]) (.cmp .NotEq (.v 1) (.tup [])) (EO b n1 (c + 1) s (ls.map nmD) o a (dsC (ls.map nmD) o a)) = .ok (.d (.bool (!decide (ls = [])))) (EO b n1 (c + 1) s (ls.map nmD) o a (dsC (ls.map nmD) o a)) := by
      have := eqD_nilT hv
      simp [PM.exs, PM.ex, PM.ev, PM.evs, PM.lcStep, PM.evo, PM.evt, PM.evi, PM.getS, PM.see, PM.sees, PM.frD, PM.binD, PM.cmpD, PM.stow, PM.stowAll, PM.asg, PM.asgs, PM.setSl, PM.setAll, PM.handOut, PM.endM, PM.parts, PM.owned, PM.isD, PM.runCall, PM.pks, PM.lend, PM.back, PM.take, PM.takes, PM.walkV, PM.walkL, PM.muV, PM.mtD, PM.biD, PM.setIx, PM.isOl, PM.isiV, PM.tyD, PM.isiD, PM.nonV, PM.truV, PM.truD, PM.partD, PM.items, PM.isiD, PM.lcFree, PM.wipeE, PM.backE, PM.intsD, PM.strsD, PM.boolsD, PM.keyD, PM.dKey, PM.enumV, PM.zipV, PM.rangeV, this, -List.map_append]
    rw [ex_if t]
    by_cases q : ls = []
    · rw [decide_eq_true q]
      exact ⟨n1, c + 1, dsC (ls.map nmD) o a, by omega, by omega, by simp [PM.exs, PM.ex, PM.ev, PM.evs, PM.lcStep, PM.evo, PM.evt, PM.evi, PM.getS, PM.see, PM.sees, PM.frD, PM.binD, PM.cmpD, PM.stow, PM.stowAll, PM.asg, PM.asgs, PM.setSl, PM.setAll, PM.handOut, PM.endM, PM.parts, PM.owned, PM.isD, PM.runCall, PM.pks, PM.lend, PM.back, PM.take, PM.takes, PM.walkV, PM.walkL, PM.muV, PM.mtD, PM.biD, PM.setIx, PM.isOl, PM.isiV, PM.tyD, PM.isiD, PM.nonV, PM.truV, PM.truD, PM.partD, PM.items, PM.isiD, PM.lcFree, PM.wipeE, PM.backE, PM.intsD, PM.strsD, PM.boolsD, PM.keyD, PM.dKey, PM.enumV, PM.zipV, PM.rangeV, dsC], by simp [PM.exs, PM.ex, PM.ev, PM.evs, PM.lcStep, PM.evo, PM.evt, PM.evi, PM.getS, PM.see, PM.sees, PM.frD, PM.binD, PM.cmpD, PM.stow, PM.stowAll, PM.asg, PM.asgs, PM.setSl, PM.setAll, PM.handOut, PM.endM, PM.parts, PM.owned, PM.isD, PM.runCall, PM.pks, PM.lend, PM.back, PM.take, PM.takes, PM.walkV, PM.walkL, PM.muV, PM.mtD, PM.biD, PM.setIx, PM.isOl, PM.isiV, PM.tyD, PM.isiD, PM.nonV, PM.truV, PM.truD, PM.partD, PM.items, PM.isiD, PM.lcFree, PM.wipeE, PM.backE, PM.intsD, PM.strsD, PM.boolsD, PM.keyD, PM.dKey, PM.enumV, PM.zipV, PM.rangeV, dsC], oddsC _ fN o ho a, rfl⟩
    · rw [decide_eq_false q]
      obtain ⟨n2, x, y, hx, hy, M⟩ := more_ok k b n1 (c + 1) s ls hv hl q o a a0 (by omega) (dsC (ls.map nmD) o a) (by simp [PM.exs, PM.ex, PM.ev, PM.evs, PM.lcStep, PM.evo, PM.evt, PM.evi, PM.getS, PM.see, PM.sees, PM.frD, PM.binD, PM.cmpD, PM.stow, PM.stowAll, PM.asg, PM.asgs, PM.setSl, PM.setAll, PM.handOut, PM.endM, PM.parts, PM.owned, PM.isD, PM.runCall, PM.pks, PM.lend, PM.back, PM.take, PM.takes, PM.walkV, PM.walkL, PM.muV, PM.mtD, PM.biD, PM.setIx, PM.isOl, PM.isiV, PM.tyD, PM.isiD, PM.nonV, PM.truV, PM.truD, PM.partD, PM.items, PM.isiD, PM.lcFree, PM.wipeE, PM.backE, PM.intsD, PM.strsD, PM.boolsD, PM.keyD, PM.dKey, PM.enumV, PM.zipV, PM.rangeV, dsC]) (by omega) (by omega)
      refine ⟨n2, c + 1 + 1, dsC (ls.map nmD) o a ++ [x] ++ [y], by omega, by omega, by simp [PM.exs, PM.ex, PM.ev, PM.evs, PM.lcStep, PM.evo, PM.evt, PM.evi, PM.getS, PM.see, PM.sees, PM.frD, PM.binD, PM.cmpD, PM.stow, PM.stowAll, PM.asg, PM.asgs, PM.setSl, PM.setAll, PM.handOut, PM.endM, PM.parts, PM.owned, PM.isD, PM.runCall, PM.pks, PM.lend, PM.back, PM.take, PM.takes, PM.walkV, PM.walkL, PM.muV, PM.mtD, PM.biD, PM.setIx, PM.isOl, PM.isiV, PM.tyD, PM.isiD, PM.nonV, PM.truV, PM.truD, PM.partD, PM.items, PM.isiD, PM.lcFree, PM.wipeE, PM.backE, PM.intsD, PM.strsD, PM.boolsD, PM.keyD, PM.dKey, PM.enumV, PM.zipV, PM.rangeV], by simp [PM.exs, PM.ex, PM.ev, PM.evs, PM.lcStep, PM.evo, PM.evt, PM.evi, PM.getS, PM.see, PM.sees, PM.frD, PM.binD, PM.cmpD, PM.stow, PM.stowAll, PM.asg, PM.asgs, PM.setSl, PM.setAll, PM.handOut, PM.endM, PM.parts, PM.owned, PM.isD, PM.runCall, PM.pks, PM.lend, PM.back, PM.take, PM.takes, PM.walkV, PM.walkL, PM.muV, PM.mtD, PM.biD, PM.setIx, PM.isOl, PM.isiV, PM.tyD, PM.isiD, PM.nonV, PM.truV, PM.truD, PM.partD, PM.items, PM.isiD, PM.lcFree, PM.wipeE, PM.backE, PM.intsD, PM.strsD, PM.boolsD, PM.keyD, PM.dKey, PM.enumV, PM.zipV, PM.rangeV, dsC], fun d hd => ?_, M⟩
      simp only [List.mem_append, List.mem_singleton] at hd
      rcases hd with (hd | rfl) | rfl
      · exact oddsC _ fN o ho a d hd
      · exact hx
      · exact hy
  obtain ⟨n2, c2, ds, b1, b2, b3, b4, b5, S3⟩ := key
  have hp : 0 < ds.length := by cases ds with
    | nil => exact absurd rfl b3
    | cons _ _ => simp [PM.exs, PM.ex, PM.ev, PM.evs, PM.lcStep, PM.evo, PM.evt, PM.evi, PM.getS, PM.see, PM.sees, PM.frD, PM.binD, PM.cmpD, PM.stow, PM.stowAll, PM.asg, PM.asgs, PM.setSl, PM.setAll, PM.handOut, PM.endM, PM.parts, PM.owned, PM.isD, PM.runCall, PM.pks, PM.lend, PM.back, PM.take, PM.takes, PM.walkV, PM.walkL, PM.muV, PM.mtD, PM.biD, PM.setIx, PM.isOl, PM.isiV, PM.tyD, PM.isiD, PM.nonV, PM.truV, PM.truD, PM.partD, PM.items, PM.isiD, PM.lcFree, PM.wipeE, PM.backE, PM.intsD, PM.strsD, PM.boolsD, PM.keyD, PM.dKey, PM.enumV, PM.zipV, PM.rangeV]
  have ld : ev (cx (k + 2) [true, false, false]) (.bi .len [.v 4]) (EO b n2 c2 s (ls.map nmD) o a ds) = .ok (.d (.int ds.length)) (EO b n2 c2 s (ls.map nmD) o a ds) := by simp [PM.exs, PM.ex, PM.ev, PM.evs, PM.lcStep, PM.evo, PM.evt, PM.evi, PM.getS, PM.see, PM.sees, PM.frD, PM.binD, PM.cmpD, PM.stow, PM.stowAll, PM.asg, PM.asgs, PM.setSl, PM.setAll, PM.handOut, PM.endM, PM.parts, PM.owned, PM.isD, PM.runCall, PM.pks, PM.lend, PM.back, PM.take, PM.takes, PM.walkV, PM.walkL, PM.muV, PM.mtD, PM.biD, PM.setIx, PM.isOl, PM.isiV, PM.tyD, PM.isiD, PM.nonV, PM.truV, PM.truD, PM.partD, PM.items, PM.isiD, PM.lcFree, PM.wipeE, PM.backE, PM.intsD, PM.strsD, PM.boolsD, PM.keyD, PM.dKey, PM.enumV, PM.zipV, PM.rangeV]
  obtain ⟨n3, r, r0, r1, T3⟩ := take_ev k [true, false, false] _ b n2 c2 s ds.length [some (.d (.tuple (ls.map nmD))), some (.d o), some (.d (.int a)), some (.ol (ds.map .d))] ld (by omega) (by omega) (by omega) (by omega)
  obtain ⟨d, hd, hdi⟩ := atI_mem (xs := ds) r0 r1
  refine ⟨n3, c2 + 1, d, by omega, by omega, b5 d hd, ?_⟩
  have K : ev (cx (k + 2) [true, false, false]) (.idx (.v 4) (.call 6 [(.v 0), (.bi .len [(.v 4)])])) (EO b n2 c2 s (ls.map nmD) o a ds) = .ok (.d d) (EO b n3 (c2 + 1) s (ls.map nmD) o a ds) := ev_idx (va := .pk 4) (x := .list ds) rfl T3 (by simp [PM.exs, PM.ex, PM.ev, PM.evs, PM.lcStep, PM.evo, PM.evt, PM.evi, PM.getS, PM.see, PM.sees, PM.frD, PM.binD, PM.cmpD, PM.stow, PM.stowAll, PM.asg, PM.asgs, PM.setSl, PM.setAll, PM.handOut, PM.endM, PM.parts, PM.owned, PM.isD, PM.runCall, PM.pks, PM.lend, PM.back, PM.take, PM.takes, PM.walkV, PM.walkL, PM.muV, PM.mtD, PM.biD, PM.setIx, PM.isOl, PM.isiV, PM.tyD, PM.isiD, PM.nonV, PM.truV, PM.truD, PM.partD, PM.items, PM.isiD, PM.lcFree, PM.wipeE, PM.backE, PM.intsD, PM.strsD, PM.boolsD, PM.keyD, PM.dKey, PM.enumV, PM.zipV, PM.rangeV, allD_map]) rfl hdi
  show endM _ (exs (cx (k + 2) [true, false, false]) [_, _, _, _] [some (st b n c s), some (.d (.tuple (ls.map nmD))), some (.d o), none, none]) = _
  rw [exs_nx S1, exs_nx S2, exs_nx S3, exs_ret (ex_ret K rfl)]
  rfl
end Lk01
end

section
set_option Elab.async false
set_option linter.all false
set_option maxRecDepth 100000
set_option maxHeartbeats 2000000
namespace Lk01
open PySem PM
theorem pks_d (ds : List D) : pks (ds.map .d) = [] := by induction ds with
  | nil => rfl
  | cons x r ih => exact ih
theorem lend_d (e : PM.Env) (ds : List D) : lend e (ds.map .d) = some (ds.map .d) := by induction ds with
  | nil => rfl
  | cons x r ih =>
    show (lend e (r.map .d)).map _ = _
    rw [ih]; rfl
theorem back_d (e : PM.Env) (ds : List D) (as : List Val) : back e (ds.map .d) as = e := by
  induction ds generalizing as with
  | nil => rfl
  | cons x r ih => cases as with
    | nil => rfl
    | cons a q => exact ih q
theorem callD_ev {c : PM.Ctx} {f : Nat} {es : List ME} {ds : List D} {v : Val} {as : List Val} {e e1 : PM.Env} (h : evs c es e = .ok (ds.map .d) e1) (hc : c.call f (ds.map .d) = .ok v as) : ev c (.call f es) e = .ok v e1 := by
  show (evs c es e).bind _ = _
  rw [h]
  show runCall c f (ds.map .d) e1 = _
  unfold runCall
  rw [pks_d, if_pos List.nodup_nil, lend_d]
  show (match c.call f (ds.map .d) with
    | .ok v as' => Res.ok v (back e1 (ds.map .d) as')
    | .ex x as' => Res.ex x (back e1 (ds.map .d) as')
    | .no => Res.no) = _
  rw [hc]
  show Res.ok v (back e1 (ds.map .d) as) = _
  rw [back_d]
theorem callS_ev {c : PM.Ctx} {f : Nat} {es : List ME} {ds : List D} {v s0 s1 : Val} {as : List Val} {e e1 : PM.Env} (h : evs c es e = .ok (.pk 3 :: ds.map .d) e1) (hs : getS e1 3 = some s0) (hc : c.call f (s0 :: ds.map .d) = .ok v (s1 :: as)) : ev c (.call f es) e = .ok v (e1.set 3 (some s1)) := by
  show (evs c es e).bind _ = _
  rw [h]
  show runCall c f (.pk 3 :: ds.map .d) e1 = _
  unfold runCall
  have e0 : pks (.pk 3 :: ds.map .d) = [3] := by
    show 3 :: pks (ds.map .d) = _
    rw [pks_d]
  have e2 : lend e1 (.pk 3 :: ds.map .d) = some (s0 :: ds.map .d) := by
    show (getS e1 3).bind (fun v => (lend e1 (ds.map .d)).map (v :: ·)) = _
    rw [hs, lend_d]; rfl
  rw [e0, if_pos (by simp [PM.exs, PM.ex, PM.ev, PM.evs, PM.lcStep, PM.evo, PM.evt, PM.evi, PM.getS, PM.see, PM.sees, PM.frD, PM.binD, PM.cmpD, PM.stow, PM.stowAll, PM.asg, PM.asgs, PM.setSl, PM.setAll, PM.handOut, PM.endM, PM.parts, PM.owned, PM.isD, PM.runCall, PM.pks, PM.lend, PM.back, PM.take, PM.takes, PM.walkV, PM.walkL, PM.muV, PM.mtD, PM.biD, PM.setIx, PM.isOl, PM.isiV, PM.tyD, PM.isiD, PM.nonV, PM.truV, PM.truD, PM.partD, PM.items, PM.isiD, PM.lcFree, PM.wipeE, PM.backE, PM.intsD, PM.strsD, PM.boolsD, PM.keyD, PM.dKey, PM.enumV, PM.zipV, PM.rangeV]), e2]
  show (match c.call f (s0 :: ds.map .d) with
    | .ok v as' => Res.ok v (back e1 (.pk 3 :: ds.map .d) as')
    | .ex x as' => Res.ex x (back e1 (.pk 3 :: ds.map .d) as')
    | .no => Res.no) = _
  rw [hc]
  show Res.ok v (back (e1.set 3 (some s1)) (ds.map .d) as) = _
  rw [back_d]
abbrev cl : PM.Ctx := cx 59 [false]
theorem test_ok {c : PM.Ctx} {A B : ME} {tr : Bool} {g : Str} {e : PM.Env} (hA : ev c A e = .ok (.d (.bool tr)) e) (hB : ev c B e = .ok (.d (.str g)) e) : ev c (.or (.isB true A tr) (.cmp .NotEq B (.c (.str g)))) e = .ok (.d (.bool false)) e := by
  rw [ev_or_f (e1 := e)]
  · show (ev c B e).bind _ = _
    rw [hB]
    show opt (((eqD (.str g) (.str g)).map (!·)).map fun k => Val.d (.bool k)) e = _
    rw [eqD_str]
    simp [PM.exs, PM.ex, PM.ev, PM.evs, PM.lcStep, PM.evo, PM.evt, PM.evi, PM.getS, PM.see, PM.sees, PM.frD, PM.binD, PM.cmpD, PM.stow, PM.stowAll, PM.asg, PM.asgs, PM.setSl, PM.setAll, PM.handOut, PM.endM, PM.parts, PM.owned, PM.isD, PM.runCall, PM.pks, PM.lend, PM.back, PM.take, PM.takes, PM.walkV, PM.walkL, PM.muV, PM.mtD, PM.biD, PM.setIx, PM.isOl, PM.isiV, PM.tyD, PM.isiD, PM.nonV, PM.truV, PM.truD, PM.partD, PM.items, PM.isiD, PM.lcFree, PM.wipeE, PM.backE, PM.intsD, PM.strsD, PM.boolsD, PM.keyD, PM.dKey, PM.enumV, PM.zipV, PM.rangeV]
  · show (ev c A e).bind _ = _
    rw [hA]
    simp [PM.exs, PM.ex, PM.ev, PM.evs, PM.lcStep, PM.evo, PM.evt, PM.evi, PM.getS, PM.see, PM.sees, PM.frD, PM.binD, PM.cmpD, PM.stow, PM.stowAll, PM.asg, PM.asgs, PM.setSl, PM.setAll, PM.handOut, PM.endM, PM.parts, PM.owned, PM.isD, PM.runCall, PM.pks, PM.lend, PM.back, PM.take, PM.takes, PM.walkV, PM.walkL, PM.muV, PM.mtD, PM.biD, PM.setIx, PM.isOl, PM.isiV, PM.tyD, PM.isiD, PM.nonV, PM.truV, PM.truD, PM.partD, PM.items, PM.isiD, PM.lcFree, PM.wipeE, PM.backE, PM.intsD, PM.strsD, PM.boolsD, PM.keyD, PM.dKey, PM.enumV, PM.zipV, PM.rangeV]
abbrev EL (sc cell k : D) (s names : Val) (o5 o6 o7 o8 o9 : Option Val) : PM.Env := [some (.d sc), some (.d k), some (.d cell), some s, some names, o5, o6, o7, o8, o9]
/-- one test of a name -/
theorem tname {i : Nat} {e : PM.Env} {x : D} (tr : Bool) (g : Str) (h : getS e i = some (.d x)) (hf : Fit x) (ht : isName x = tr) (hgg : g = Str.ofString (if tr then "good" else "name" : String)) : ev cl (.or (.isB true (.call 0 [(.v i)]) tr) (.cmp .NotEq (.call 9 [(.c (.int 0)), (.v i)]) (.c (.str g)))) e = .ok (.d (.bool false)) e := by
  have v : ev cl (.v i) e = .ok (.d x) e := by simp only [ev, h]
  refine test_ok ?_ ?_
  · exact callD_ev (ds := [x]) (evs_cons' v evs_nil') ((call_is_name 58 x hf).trans (by rw [ht]))
  · have A := call_said0 56 x hf
    rw [ht] at A
    rw [hgg]
    refine callD_ev (ds := [.int 0, x]) (as := [.d (.int 0), .d x]) (evs_cons' rfl (evs_cons' v evs_nil')) ?_
    cases tr <;> exact A
theorem tnames {i : Nat} {e : PM.Env} {x : D} (tr : Bool) (g : Str) (h : getS e i = some (.d x)) (hf : FitN x) (ht : isNames x = tr) (hgg : g = Str.ofString (if tr then "good" else "names" : String)) : ev cl (.or (.isB true (.call 1 [(.v i)]) tr) (.cmp .NotEq (.call 9 [(.c (.int 1)), (.v i)]) (.c (.str g)))) e = .ok (.d (.bool false)) e := by
  have v : ev cl (.v i) e = .ok (.d x) e := by simp only [ev, h]
  refine test_ok ?_ ?_
  · exact callD_ev (ds := [x]) (evs_cons' v evs_nil') ((call_is_names 57 x hf).trans (by rw [ht]))
  · have A := call_said1 55 x hf
    rw [ht] at A
    rw [hgg]
    refine callD_ev (ds := [.int 1, x]) (as := [.d (.int 1), .d x]) (evs_cons' rfl (evs_cons' v evs_nil')) ?_
    cases tr <;> exact A
theorem ex_iff {c : PM.Ctx} {t : ME} {a : List MS} {e : PM.Env} (h : ev c t e = .ok (.d (.bool false)) e) : ex c (.ite t a []) e = .ok .nx e := by
  rw [ex_if h]; rfl
theorem fN_of {ls : List (List Nat)} (hv : ∀ l ∈ ls, Valid l) : FitN (.tuple (ls.map nmD)) := fun x hx => by
  obtain ⟨l, m, rfl⟩ := List.mem_map.mp hx
  exact fit_nm (hv l m)
abbrev bL3 : MS := .for_ (.nm 5) (.seq (.v 4)) [
      .ite (.or (.isB true (.call 0 [(.v 5)]) true) (.cmp .NotEq (.call 9 [(.c (.int 0)), (.v 5)]) (.c (.str "good")))) [
        .ret (.c (.bool false))] []]
theorem L3 (sc cell k : D) (s : Val) (ls : List (List Nat)) (hv : ∀ l ∈ ls, Valid l) (o5 o6 o7 o8 o9 : Option Val) : ∃ o5', ex cl bL3 (EL sc cell k s (.d (.tuple (ls.map nmD))) o5 o6 o7 o8 o9) = .ok .nx (EL sc cell k s (.d (.tuple (ls.map nmD))) o5' o6 o7 o8 o9) := by
  obtain ⟨e', h, o, rfl⟩ := forL_ok (f := fun x e2 => match asg cl (.nm 5) (.d x) e2 with
    | some e3 => exs cl [.ite (.or (.isB true (.call 0 [(.v 5)]) true) (.cmp .NotEq (.call 9 [(.c (.int 0)), (.v 5)]) (.c (.str "good")))) [
        .ret (.c (.bool false))] []] e3
    | none => Res.no) (xs := ls.map nmD) (e := EL sc cell k s (.d (.tuple (ls.map nmD))) o5 o6 o7 o8 o9)
    (fun i e => ∃ o, e = EL sc cell k s (.d (.tuple (ls.map nmD))) o o6 o7 o8 o9) ⟨o5, rfl⟩ (fun i x e hx P => by
      obtain ⟨o, rfl⟩ := P
      obtain ⟨l, m, rfl⟩ := List.mem_map.mp (List.mem_of_getElem? hx)
      refine ⟨EL sc cell k s (.d (.tuple (ls.map nmD))) (some (.d (nmD l))) o6 o7 o8 o9, ?_, _, rfl⟩
      show exs cl [_] (EL sc cell k s (.d (.tuple (ls.map nmD))) (some (.d (nmD l))) o6 o7 o8 o9) = _
      have hn := (isName_nm l).mpr (hv l m)
      rw [exs_nx (ex_iff (tname (x := nmD l) true "good" rfl (fit_nm (hv l m)) hn rfl))]
      rfl)
  exact ⟨o, h⟩
abbrev bL5 : MS := .for_ (.nm 7) (.rng1 (.c (.int 2))) [
      .ite (.or (.isB true (.call 1 [(.v 4)]) true) (.cmp .NotEq (.call 9 [(.c (.int 1)), (.v 4)]) (.c (.str "good")))) [
        .ret (.c (.bool false))] [],
      .ite (.or (.isB true (.call 0 [(.v 6)]) false) (.cmp .NotEq (.call 9 [(.c (.int 0)), (.v 6)]) (.c (.str "name")))) [
        .ret (.c (.bool false))] []]
theorem L5 (sc cell k : D) (s : Val) (ls : List (List Nat)) (hv : ∀ l ∈ ls, Valid l) (hn : ls.Nodup) (hl : ls.length ≤ 8) (o : D) (ho : Odd o) (o5 o7 o8 o9 : Option Val) : ∃ o7', ex cl bL5 (EL sc cell k s (.d (.tuple (ls.map nmD))) o5 (some (.d o)) o7 o8 o9) = .ok .nx (EL sc cell k s (.d (.tuple (ls.map nmD))) o5 (some (.d o)) o7' o8 o9) := by
  obtain ⟨e', h, q, rfl⟩ := forL_ok (f := fun x e2 => match asg cl (.nm 7) (.d x) e2 with
    | some e3 => exs cl [
      .ite (.or (.isB true (.call 1 [(.v 4)]) true) (.cmp .NotEq (.call 9 [(.c (.int 1)), (.v 4)]) (.c (.str "good")))) [
        .ret (.c (.bool false))] [],
      .ite (.or (.isB true (.call 0 [(.v 6)]) false) (.cmp .NotEq (.call 9 [(.c (.int 0)), (.v 6)]) (.c (.str "name")))) [
        .ret (.c (.bool false))] []] e3
    | none => Res.no) (xs := rangeV 0 2) (e := EL sc cell k s (.d (.tuple (ls.map nmD))) o5 (some (.d o)) o7 o8 o9)
    (fun i e => ∃ q, e = EL sc cell k s (.d (.tuple (ls.map nmD))) o5 (some (.d o)) q o8 o9) ⟨o7, rfl⟩ (fun i x e hx P => by
      obtain ⟨q, rfl⟩ := P
      refine ⟨EL sc cell k s (.d (.tuple (ls.map nmD))) o5 (some (.d o)) (some (.d x)) o8 o9, ?_, _, rfl⟩
      show exs cl [_, _] (EL sc cell k s (.d (.tuple (ls.map nmD))) o5 (some (.d o)) (some (.d x)) o8 o9) = _
      rw [exs_nx (ex_iff (tnames (x := .tuple (ls.map nmD)) true "good" rfl (fN_of hv) (isNames_yes hv hn hl) rfl)), exs_nx (ex_iff (tname (x := o) false "name" rfl ho.1 ho.2 rfl))]
      rfl)
  exact ⟨q, h⟩
theorem L7 (sc cell k : D) (s names : Val) (x y : D) (hx : OddN x) (hy : OddN y) (o5 o6 o7 o8 o9 : Option Val) : ∃ o9', forL (fun x e2 => match asg cl (.nm 9) (.d x) e2 with
    | some e3 => exs cl [
      .ite (.or (.isB true (.call 1 [(.v 9)]) false) (.cmp .NotEq (.call 9 [(.c (.int 1)), (.v 9)]) (.c (.str "names")))) [
        .ret (.c (.bool false))] []] e3
    | none => Res.no) [x, y] (EL sc cell k s names o5 o6 o7 o8 o9) = .ok .nx (EL sc cell k s names o5 o6 o7 o8 o9') := by
  obtain ⟨e', h, q, rfl⟩ := forL_ok (f := fun x e2 => match asg cl (.nm 9) (.d x) e2 with
    | some e3 => exs cl [
      .ite (.or (.isB true (.call 1 [(.v 9)]) false) (.cmp .NotEq (.call 9 [(.c (.int 1)), (.v 9)]) (.c (.str "names")))) [
        .ret (.c (.bool false))] []] e3
    | none => Res.no) (xs := [x, y]) (e := EL sc cell k s names o5 o6 o7 o8 o9)
    (fun i e => ∃ q, e = EL sc cell k s names o5 o6 o7 o8 q) ⟨o9, rfl⟩ (fun i z e hz P => by
      obtain ⟨q, rfl⟩ := P
      have ho : OddN z := by
        have := List.mem_of_getElem? hz
        simp only [List.mem_cons, List.not_mem_nil, or_false] at this
        rcases this with rfl | rfl
        · exact hx
        · exact hy
      refine ⟨EL sc cell k s names o5 o6 o7 o8 (some (.d z)), ?_, _, rfl⟩
      show exs cl [_] (EL sc cell k s names o5 o6 o7 o8 (some (.d z))) = _
      rw [exs_nx (ex_iff (tnames (x := z) false "names" rfl ho.1 ho.2 rfl))]
      rfl)
  exact ⟨q, h⟩
end Lk01
end

section
set_option Elab.async false
set_option linter.all false
set_option maxRecDepth 100000
set_option maxHeartbeats 2000000
namespace Lk01
open PySem PM
theorem callS' {c : PM.Ctx} {f : Nat} {es : List ME} {ds : List D} {v s0 s1 : Val} {as : List Val} {e e1 e2 : PM.Env} (h : evs c es e = .ok (.pk 3 :: ds.map .d) e1) (hs : getS e1 3 = some s0) (hc : c.call f (s0 :: ds.map .d) = .ok v (s1 :: as)) (he : e1.set 3 (some s1) = e2) : ev c (.call f es) e = .ok v e2 := by
  rw [callS_ev h hs hc, he]
theorem S2_ok (sc cell k : D) (b : Bool) (n c s : Int) (h0 : 0 ≤ c) (h1 : c < 1000) (o4 o5 o6 o7 o8 o9 : Option Val) : ∃ (n' c' : Int) (ls : List (List Nat)), 0 ≤ c' ∧ c' < 2000 ∧ ls.length ≤ 8 ∧ (∀ l ∈ ls, Valid l) ∧ ls.Nodup ∧ ex cl (.set (.nm 4) (.bi .tuple [(.call 7 [(.v 3), (.call 6 [(.v 3), (.c (.int 9))])])])) [some (.d sc), some (.d k), some (.d cell), some (st b n c s), o4, o5, o6, o7, o8, o9] = .ok .nx (EL sc cell k (st b n' c' s) (.d (.tuple (ls.map nmD))) o5 o6 o7 o8 o9) := by
  obtain ⟨n1, r, r0, r1, T1⟩ := call_take 57 b n c s 9 h0 (by omega) (by omega) (by omega)
  obtain ⟨m, rfl⟩ : ∃ m : Nat, r = m := ⟨r.toNat, by omega⟩
  obtain ⟨n2, c2, ls, a1, a2, a3, a4, a5, T2⟩ := call_names_by 56 b n1 (c + 1) s m (by omega) (by omega) (by omega)
  refine ⟨n2, c2, ls, by omega, by omega, by omega, a4, a5, ?_⟩
  have E1 : ev cl (.call 6 [(.v 3), (.c (.int 9))]) [some (.d sc), some (.d k), some (.d cell), some (st b n c s), o4, o5, o6, o7, o8, o9] = .ok (.d (.int m)) [some (.d sc), some (.d k), some (.d cell), some (st b n1 (c + 1) s), o4, o5, o6, o7, o8, o9] :=
    callS' (ds := [.int 9]) (evs_cons' rfl (evs_cons' rfl evs_nil')) rfl T1 rfl
  have E2 : ev cl (.call 7 [(.v 3), (.call 6 [(.v 3), (.c (.int 9))])]) [some (.d sc), some (.d k), some (.d cell), some (st b n c s), o4, o5, o6, o7, o8, o9] = .ok (.ol (vals ls)) [some (.d sc), some (.d k), some (.d cell), some (st b n2 c2 s), o4, o5, o6, o7, o8, o9] :=
    callS' (ds := [.int m]) (evs_cons' (v := .pk 3) (e1 := [some (.d sc), some (.d k), some (.d cell), some (st b n c s), o4, o5, o6, o7, o8, o9]) rfl (evs_cons' E1 evs_nil')) rfl T2 rfl
  have E3 : ev cl (.bi .tuple [(.call 7 [(.v 3), (.call 6 [(.v 3), (.c (.int 9))])])]) [some (.d sc), some (.d k), some (.d cell), some (st b n c s), o4, o5, o6, o7, o8, o9] = .ok (.d (.tuple (ls.map nmD))) [some (.d sc), some (.d k), some (.d cell), some (st b n2 c2 s), o4, o5, o6, o7, o8, o9] := by
    rw [ev_bi1 E2]
    simp [PM.exs, PM.ex, PM.ev, PM.evs, PM.lcStep, PM.evo, PM.evt, PM.evi, PM.getS, PM.see, PM.sees, PM.frD, PM.binD, PM.cmpD, PM.stow, PM.stowAll, PM.asg, PM.asgs, PM.setSl, PM.setAll, PM.handOut, PM.endM, PM.parts, PM.owned, PM.isD, PM.runCall, PM.pks, PM.lend, PM.back, PM.take, PM.takes, PM.walkV, PM.walkL, PM.muV, PM.mtD, PM.biD, PM.setIx, PM.isOl, PM.isiV, PM.tyD, PM.isiD, PM.nonV, PM.truV, PM.truD, PM.partD, PM.items, PM.isiD, PM.lcFree, PM.wipeE, PM.backE, PM.intsD, PM.strsD, PM.boolsD, PM.keyD, PM.dKey, PM.enumV, PM.zipV, PM.rangeV]
  exact ex_set' E3 rfl (by simp [PM.exs, PM.ex, PM.ev, PM.evs, PM.lcStep, PM.evo, PM.evt, PM.evi, PM.getS, PM.see, PM.sees, PM.frD, PM.binD, PM.cmpD, PM.stow, PM.stowAll, PM.asg, PM.asgs, PM.setSl, PM.setAll, PM.handOut, PM.endM, PM.parts, PM.owned, PM.isD, PM.runCall, PM.pks, PM.lend, PM.back, PM.take, PM.takes, PM.walkV, PM.walkL, PM.muV, PM.mtD, PM.biD, PM.setIx, PM.isOl, PM.isiV, PM.tyD, PM.isiD, PM.nonV, PM.truV, PM.truD, PM.partD, PM.items, PM.isiD, PM.lcFree, PM.wipeE, PM.backE, PM.intsD, PM.strsD, PM.boolsD, PM.keyD, PM.dKey, PM.enumV, PM.zipV, PM.rangeV]) (by simp [PM.exs, PM.ex, PM.ev, PM.evs, PM.lcStep, PM.evo, PM.evt, PM.evi, PM.getS, PM.see, PM.sees, PM.frD, PM.binD, PM.cmpD, PM.stow, PM.stowAll, PM.asg, PM.asgs, PM.setSl, PM.setAll, PM.handOut, PM.endM, PM.parts, PM.owned, PM.isD, PM.runCall, PM.pks, PM.lend, PM.back, PM.take, PM.takes, PM.walkV, PM.walkL, PM.muV, PM.mtD, PM.biD, PM.setIx, PM.isOl, PM.isiV, PM.tyD, PM.isiD, PM.nonV, PM.truV, PM.truD, PM.partD, PM.items, PM.isiD, PM.lcFree, PM.wipeE, PM.backE, PM.intsD, PM.strsD, PM.boolsD, PM.keyD, PM.dKey, PM.enumV, PM.zipV, PM.rangeV]) rfl
theorem S6_ok (sc cell k names : D) (b : Bool) (n c s : Int) (h0 : 0 ≤ c) (h1 : c < 5000) (o5 o6 o7 o8 o9 : Option Val) : ∃ (n' c' : Int) (ls : List (List Nat)), 0 ≤ c' ∧ c' < 6000 ∧ ls.length = 9 ∧ (∀ l ∈ ls, Valid l) ∧ ls.Nodup ∧ ex cl (.set (.nm 8) (.bi .tuple [(.call 7 [(.v 3), (.c (.int 9))])])) (EL sc cell k (st b n c s) (.d names) o5 o6 o7 o8 o9) = .ok .nx (EL sc cell k (st b n' c' s) (.d names) o5 o6 o7 (some (.d (.tuple (ls.map nmD)))) o9) := by
  obtain ⟨n2, c2, ls, a1, a2, a3, a4, a5, T2⟩ := call_names_by 56 b n c s 9 (by omega) (by omega) (by omega)
  refine ⟨n2, c2, ls, by omega, by omega, a3, a4, a5, ?_⟩
  have E2 : ev cl (.call 7 [(.v 3), (.c (.int 9))]) (EL sc cell k (st b n c s) (.d names) o5 o6 o7 o8 o9) = .ok (.ol (vals ls)) (EL sc cell k (st b n2 c2 s) (.d names) o5 o6 o7 o8 o9) :=
    callS' (ds := [.int 9]) (evs_cons' rfl (evs_cons' rfl evs_nil')) rfl T2 rfl
  have E3 : ev cl (.bi .tuple [(.call 7 [(.v 3), (.c (.int 9))])]) (EL sc cell k (st b n c s) (.d names) o5 o6 o7 o8 o9) = .ok (.d (.tuple (ls.map nmD))) (EL sc cell k (st b n2 c2 s) (.d names) o5 o6 o7 o8 o9) := by
    rw [ev_bi1 E2]
    simp [PM.exs, PM.ex, PM.ev, PM.evs, PM.lcStep, PM.evo, PM.evt, PM.evi, PM.getS, PM.see, PM.sees, PM.frD, PM.binD, PM.cmpD, PM.stow, PM.stowAll, PM.asg, PM.asgs, PM.setSl, PM.setAll, PM.handOut, PM.endM, PM.parts, PM.owned, PM.isD, PM.runCall, PM.pks, PM.lend, PM.back, PM.take, PM.takes, PM.walkV, PM.walkL, PM.muV, PM.mtD, PM.biD, PM.setIx, PM.isOl, PM.isiV, PM.tyD, PM.isiD, PM.nonV, PM.truV, PM.truD, PM.partD, PM.items, PM.isiD, PM.lcFree, PM.wipeE, PM.backE, PM.intsD, PM.strsD, PM.boolsD, PM.keyD, PM.dKey, PM.enumV, PM.zipV, PM.rangeV]
  exact ex_set' E3 rfl (by simp [PM.exs, PM.ex, PM.ev, PM.evs, PM.lcStep, PM.evo, PM.evt, PM.evi, PM.getS, PM.see, PM.sees, PM.frD, PM.binD, PM.cmpD, PM.stow, PM.stowAll, PM.asg, PM.asgs, PM.setSl, PM.setAll, PM.handOut, PM.endM, PM.parts, PM.owned, PM.isD, PM.runCall, PM.pks, PM.lend, PM.back, PM.take, PM.takes, PM.walkV, PM.walkL, PM.muV, PM.mtD, PM.biD, PM.setIx, PM.isOl, PM.isiV, PM.tyD, PM.isiD, PM.nonV, PM.truV, PM.truD, PM.partD, PM.items, PM.isiD, PM.lcFree, PM.wipeE, PM.backE, PM.intsD, PM.strsD, PM.boolsD, PM.keyD, PM.dKey, PM.enumV, PM.zipV, PM.rangeV]) (by simp [PM.exs, PM.ex, PM.ev, PM.evs, PM.lcStep, PM.evo, PM.evt, PM.evi, PM.getS, PM.see, PM.sees, PM.frD, PM.binD, PM.cmpD, PM.stow, PM.stowAll, PM.asg, PM.asgs, PM.setSl, PM.setAll, PM.handOut, PM.endM, PM.parts, PM.owned, PM.isD, PM.runCall, PM.pks, PM.lend, PM.back, PM.take, PM.takes, PM.walkV, PM.walkL, PM.muV, PM.mtD, PM.biD, PM.setIx, PM.isOl, PM.isiV, PM.tyD, PM.isiD, PM.nonV, PM.truV, PM.truD, PM.partD, PM.items, PM.isiD, PM.lcFree, PM.wipeE, PM.backE, PM.intsD, PM.strsD, PM.boolsD, PM.keyD, PM.dKey, PM.enumV, PM.zipV, PM.rangeV]) rfl
theorem sQ : Str.ofString "q" = W [113] := by decide +kernel
theorem S4_ok (sc cell k : D) (ls : List (List Nat)) (hv : ∀ l ∈ ls, Valid l) (hl : ls.length ≤ 8) (b : Bool) (n c s : Int) (h0 : 0 ≤ c) (h1 : c < 2000) (o5 o6 o7 o8 o9 : Option Val) : ∃ (n' c' : Int) (o : D), 0 ≤ c' ∧ c' < 3000 ∧ Odd o ∧ ex cl (.set (.nm 6) (.call 10 [(.v 3), (.idx (.bin .Add (.v 4) (.tup [(.c (.str "q"))])) (.c (.int 0)))])) (EL sc cell k (st b n c s) (.d (.tuple (ls.map nmD))) o5 o6 o7 o8 o9) = .ok .nx (EL sc cell k (st b n' c' s) (.d (.tuple (ls.map nmD))) o5 (some (.d o)) o7 o8 o9) := by
  have V : ∀ e : PM.Env, e = EL sc cell k (st b n c s) (.d (.tuple (ls.map nmD))) o5 o6 o7 o8 o9 → ∃ w, Valid w ∧ ev cl (.idx (.bin .Add (.v 4) (.tup [(.c (.str "q"))])) (.c (.int 0))) e = .ok (.d (nmD w)) e := fun e he => by
    have t : ev cl (.tup [(.c (.str "q"))]) e = .ok (.d (.tuple [nmD [113]])) e := by simp [PM.exs, PM.ex, PM.ev, PM.evs, PM.lcStep, PM.evo, PM.evt, PM.evi, PM.getS, PM.see, PM.sees, PM.frD, PM.binD, PM.cmpD, PM.stow, PM.stowAll, PM.asg, PM.asgs, PM.setSl, PM.setAll, PM.handOut, PM.endM, PM.parts, PM.owned, PM.isD, PM.runCall, PM.pks, PM.lend, PM.back, PM.take, PM.takes, PM.walkV, PM.walkL, PM.muV, PM.mtD, PM.biD, PM.setIx, PM.isOl, PM.isiV, PM.tyD, PM.isiD, PM.nonV, PM.truV, PM.truD, PM.partD, PM.items, PM.isiD, PM.lcFree, PM.wipeE, PM.backE, PM.intsD, PM.strsD, PM.boolsD, PM.keyD, PM.dKey, PM.enumV, PM.zipV, PM.rangeV, lineN_eq, sQ]
    have v4 : ev cl (.v 4) e = .ok (.d (.tuple (ls.map nmD))) e := by rw [he]; rfl
    have bn := ev_bin v4 t rfl rfl (addT (by simp [PM.exs, PM.ex, PM.ev, PM.evs, PM.lcStep, PM.evo, PM.evt, PM.evi, PM.getS, PM.see, PM.sees, PM.frD, PM.binD, PM.cmpD, PM.stow, PM.stowAll, PM.asg, PM.asgs, PM.setSl, PM.setAll, PM.handOut, PM.endM, PM.parts, PM.owned, PM.isD, PM.runCall, PM.pks, PM.lend, PM.back, PM.take, PM.takes, PM.walkV, PM.walkL, PM.muV, PM.mtD, PM.biD, PM.setIx, PM.isOl, PM.isiV, PM.tyD, PM.isiD, PM.nonV, PM.truV, PM.truD, PM.partD, PM.items, PM.isiD, PM.lcFree, PM.wipeE, PM.backE, PM.intsD, PM.strsD, PM.boolsD, PM.keyD, PM.dKey, PM.enumV, PM.zipV, PM.rangeV]; omega))
    cases ls with
    | nil => exact ⟨[113], ⟨by simp [PM.exs, PM.ex, PM.ev, PM.evs, PM.lcStep, PM.evo, PM.evt, PM.evi, PM.getS, PM.see, PM.sees, PM.frD, PM.binD, PM.cmpD, PM.stow, PM.stowAll, PM.asg, PM.asgs, PM.setSl, PM.setAll, PM.handOut, PM.endM, PM.parts, PM.owned, PM.isD, PM.runCall, PM.pks, PM.lend, PM.back, PM.take, PM.takes, PM.walkV, PM.walkL, PM.muV, PM.mtD, PM.biD, PM.setIx, PM.isOl, PM.isiV, PM.tyD, PM.isiD, PM.nonV, PM.truV, PM.truD, PM.partD, PM.items, PM.isiD, PM.lcFree, PM.wipeE, PM.backE, PM.intsD, PM.strsD, PM.boolsD, PM.keyD, PM.dKey, PM.enumV, PM.zipV, PM.rangeV], by simp [PM.exs, PM.ex, PM.ev, PM.evs, PM.lcStep, PM.evo, PM.evt, PM.evi, PM.getS, PM.see, PM.sees, PM.frD, PM.binD, PM.cmpD, PM.stow, PM.stowAll, PM.asg, PM.asgs, PM.setSl, PM.setAll, PM.handOut, PM.endM, PM.parts, PM.owned, PM.isD, PM.runCall, PM.pks, PM.lend, PM.back, PM.take, PM.takes, PM.walkV, PM.walkL, PM.muV, PM.mtD, PM.biD, PM.setIx, PM.isOl, PM.isiV, PM.tyD, PM.isiD, PM.nonV, PM.truV, PM.truD, PM.partD, PM.items, PM.isiD, PM.lcFree, PM.wipeE, PM.backE, PM.intsD, PM.strsD, PM.boolsD, PM.keyD, PM.dKey, PM.enumV, PM.zipV, PM.rangeV], by simp [PM.exs, PM.ex, PM.ev, PM.evs, PM.lcStep, PM.evo, PM.evt, PM.evi, PM.getS, PM.see, PM.sees, PM.frD, PM.binD, PM.cmpD, PM.stow, PM.stowAll, PM.asg, PM.asgs, PM.setSl, PM.setAll, PM.handOut, PM.endM, PM.parts, PM.owned, PM.isD, PM.runCall, PM.pks, PM.lend, PM.back, PM.take, PM.takes, PM.walkV, PM.walkL, PM.muV, PM.mtD, PM.biD, PM.setIx, PM.isOl, PM.isiV, PM.tyD, PM.isiD, PM.nonV, PM.truV, PM.truD, PM.partD, PM.items, PM.isiD, PM.lcFree, PM.wipeE, PM.backE, PM.intsD, PM.strsD, PM.boolsD, PM.keyD, PM.dKey, PM.enumV, PM.zipV, PM.rangeV]⟩, ev_idx bn rfl rfl rfl (by rfl)⟩
    | cons l r => exact ⟨l, hv l List.mem_cons_self, ev_idx bn rfl rfl rfl (by
        show L2.atI (nmD l :: (r.map nmD ++ [nmD [113]])) 0 = _
        simp [PM.exs, PM.ex, PM.ev, PM.evs, PM.lcStep, PM.evo, PM.evt, PM.evi, PM.getS, PM.see, PM.sees, PM.frD, PM.binD, PM.cmpD, PM.stow, PM.stowAll, PM.asg, PM.asgs, PM.setSl, PM.setAll, PM.handOut, PM.endM, PM.parts, PM.owned, PM.isD, PM.runCall, PM.pks, PM.lend, PM.back, PM.take, PM.takes, PM.walkV, PM.walkL, PM.muV, PM.mtD, PM.biD, PM.setIx, PM.isOl, PM.isiV, PM.tyD, PM.isiD, PM.nonV, PM.truV, PM.truD, PM.partD, PM.items, PM.isiD, PM.lcFree, PM.wipeE, PM.backE, PM.intsD, PM.strsD, PM.boolsD, PM.keyD, PM.dKey, PM.enumV, PM.zipV, PM.rangeV, L2.atI, L2.ixN]
        rw [if_pos (by omega)]
        rfl)⟩
  obtain ⟨w, vw, E1⟩ := V _ rfl
  obtain ⟨n2, c2, o, a1, a2, ho, T2⟩ := call_odd_name 56 b n c s w vw h0 (by omega)
  refine ⟨n2, c2, o, by omega, by omega, ho, ?_⟩
  have E2 : ev cl (.call 10 [(.v 3), (.idx (.bin .Add (.v 4) (.tup [(.c (.str "q"))])) (.c (.int 0)))]) (EL sc cell k (st b n c s) (.d (.tuple (ls.map nmD))) o5 o6 o7 o8 o9) = .ok (.d o) (EL sc cell k (st b n2 c2 s) (.d (.tuple (ls.map nmD))) o5 o6 o7 o8 o9) :=
    callS' (ds := [nmD w]) (evs_cons' (v := .pk 3) (e1 := EL sc cell k (st b n c s) (.d (.tuple (ls.map nmD))) o5 o6 o7 o8 o9) rfl (evs_cons' E1 evs_nil')) rfl T2 rfl
  exact ex_set' E2 rfl (by simp [PM.exs, PM.ex, PM.ev, PM.evs, PM.lcStep, PM.evo, PM.evt, PM.evi, PM.getS, PM.see, PM.sees, PM.frD, PM.binD, PM.cmpD, PM.stow, PM.stowAll, PM.asg, PM.asgs, PM.setSl, PM.setAll, PM.handOut, PM.endM, PM.parts, PM.owned, PM.isD, PM.runCall, PM.pks, PM.lend, PM.back, PM.take, PM.takes, PM.walkV, PM.walkL, PM.muV, PM.mtD, PM.biD, PM.setIx, PM.isOl, PM.isiV, PM.tyD, PM.isiD, PM.nonV, PM.truV, PM.truD, PM.partD, PM.items, PM.isiD, PM.lcFree, PM.wipeE, PM.backE, PM.intsD, PM.strsD, PM.boolsD, PM.keyD, PM.dKey, PM.enumV, PM.zipV, PM.rangeV]) (by simp [PM.exs, PM.ex, PM.ev, PM.evs, PM.lcStep, PM.evo, PM.evt, PM.evi, PM.getS, PM.see, PM.sees, PM.frD, PM.binD, PM.cmpD, PM.stow, PM.stowAll, PM.asg, PM.asgs, PM.setSl, PM.setAll, PM.handOut, PM.endM, PM.parts, PM.owned, PM.isD, PM.runCall, PM.pks, PM.lend, PM.back, PM.take, PM.takes, PM.walkV, PM.walkL, PM.muV, PM.mtD, PM.biD, PM.setIx, PM.isOl, PM.isiV, PM.tyD, PM.isiD, PM.nonV, PM.truV, PM.truD, PM.partD, PM.items, PM.isiD, PM.lcFree, PM.wipeE, PM.backE, PM.intsD, PM.strsD, PM.boolsD, PM.keyD, PM.dKey, PM.enumV, PM.zipV, PM.rangeV]) rfl
abbrev bL7 : List MS := [
      .ite (.or (.isB true (.call 1 [(.v 9)]) false) (.cmp .NotEq (.call 9 [(.c (.int 1)), (.v 9)]) (.c (.str "names")))) [
        .ret (.c (.bool false))] []]
theorem S7_ok (sc cell k : D) (ls l2 : List (List Nat)) (hv : ∀ l ∈ ls, Valid l) (hl : ls.length ≤ 8) (h2 : ∀ l ∈ l2, Valid l) (h9 : l2.length = 9) (o : D) (ho : Odd o) (b : Bool) (n c s : Int) (h0 : 0 ≤ c) (h1 : c < 6000) (o5 o7 o9 : Option Val) : ∃ s' o9', ex cl (.for_ (.nm 9) (.seq (.tup [(.call 11 [(.v 3), (.v 4), (.v 6)]), (.v 8)])) bL7) (EL sc cell k (st b n c s) (.d (.tuple (ls.map nmD))) o5 (some (.d o)) o7 (some (.d (.tuple (l2.map nmD)))) o9) = .ok .nx (EL sc cell k s' (.d (.tuple (ls.map nmD))) o5 (some (.d o)) o7 (some (.d (.tuple (l2.map nmD)))) o9') := by
  obtain ⟨n2, c2, d, a1, a2, hd, T2⟩ := call_odd_names 56 b n c s ls hv hl o ho h0 (by omega)
  have E2 : ev cl (.call 11 [(.v 3), (.v 4), (.v 6)]) (EL sc cell k (st b n c s) (.d (.tuple (ls.map nmD))) o5 (some (.d o)) o7 (some (.d (.tuple (l2.map nmD)))) o9) = .ok (.d d) (EL sc cell k (st b n2 c2 s) (.d (.tuple (ls.map nmD))) o5 (some (.d o)) o7 (some (.d (.tuple (l2.map nmD)))) o9) :=
    callS' (ds := [.tuple (ls.map nmD), o]) (evs_cons' (v := .pk 3) rfl (evs_cons' (v := .d (.tuple (ls.map nmD))) rfl (evs_cons' (v := .d o) rfl evs_nil'))) rfl T2 rfl
  have hy : OddN (.tuple (l2.map nmD)) := by
    refine oddN_t (fN_of h2) (fun h => ?_)
    have := h.2.1
    rw [List.length_map] at this
    omega
  obtain ⟨o9', F⟩ := L7 sc cell k (st b n2 c2 s) (.d (.tuple (ls.map nmD))) d (.tuple (l2.map nmD)) hd hy o5 (some (.d o)) o7 (some (.d (.tuple (l2.map nmD)))) o9
  refine ⟨st b n2 c2 s, o9', ?_⟩
  have I : evi cl (.seq (.tup [(.call 11 [(.v 3), (.v 4), (.v 6)]), (.v 8)])) (EL sc cell k (st b n c s) (.d (.tuple (ls.map nmD))) o5 (some (.d o)) o7 (some (.d (.tuple (l2.map nmD)))) o9) = .ok [d, .tuple (l2.map nmD)] (EL sc cell k (st b n2 c2 s) (.d (.tuple (ls.map nmD))) o5 (some (.d o)) o7 (some (.d (.tuple (l2.map nmD)))) o9) := by
    show (ev cl (.tup [(.call 11 [(.v 3), (.v 4), (.v 6)]), (.v 8)]) _).bind _ = _
    have t : ev cl (.tup [(.call 11 [(.v 3), (.v 4), (.v 6)]), (.v 8)]) (EL sc cell k (st b n c s) (.d (.tuple (ls.map nmD))) o5 (some (.d o)) o7 (some (.d (.tuple (l2.map nmD)))) o9) = .ok (.d (.tuple [d, .tuple (l2.map nmD)])) (EL sc cell k (st b n2 c2 s) (.d (.tuple (ls.map nmD))) o5 (some (.d o)) o7 (some (.d (.tuple (l2.map nmD)))) o9) := by
      show (evs cl [_, _] _).bind _ = _
      rw [evs_cons' E2 (evs_cons' (v := .d (.tuple (l2.map nmD))) rfl evs_nil')]
      show (if 2 ≤ lineN then Res.ok (Val.d (.tuple [d, .tuple (l2.map nmD)])) _ else Res.no) = _
      rw [if_pos (by rw [lineN_eq]; omega)]
    rw [t]
    rfl
  rw [show ex cl (.for_ (.nm 9) (.seq (.tup [(.call 11 [(.v 3), (.v 4), (.v 6)]), (.v 8)])) bL7) (EL sc cell k (st b n c s) (.d (.tuple (ls.map nmD))) o5 (some (.d o)) o7 (some (.d (.tuple (l2.map nmD)))) o9) = (evi cl (.seq (.tup [(.call 11 [(.v 3), (.v 4), (.v 6)]), (.v 8)])) (EL sc cell k (st b n c s) (.d (.tuple (ls.map nmD))) o5 (some (.d o)) o7 (some (.d (.tuple (l2.map nmD)))) o9)).bind (fun xs e1 => forL (fun x e2 => match asg cl (.nm 9) (.d x) e2 with
      | some e3 => exs cl bL7 e3
      | none => Res.no) xs e1) by rw [ex] <;> rfl]
  rw [I, Res.bind_ok]
  exact F
theorem S8_ok (sc cell k : D) (s : Val) (ls l2 : List (List Nat)) (h2 : ∀ l ∈ l2, Valid l) (hn : l2.Nodup) (h9 : l2.length = 9) (o5 o6 o7 o9 : Option Val) : ex cl (.ite (.or (.isB true (.call 1 [(.sli (.v 8) none (some (.c (.int 8))))]) true) (.isB true (.call 0 [(.v 4)]) false)) [
      .ret (.c (.bool false))] []) (EL sc cell k s (.d (.tuple (ls.map nmD))) o5 o6 o7 (some (.d (.tuple (l2.map nmD)))) o9) = .ok .nx (EL sc cell k s (.d (.tuple (ls.map nmD))) o5 o6 o7 (some (.d (.tuple (l2.map nmD)))) o9) := by
  have ct : cut (l2.map nmD) none (some 8) = (l2.take 8).map nmD := by
    rw [cut_hi _ _ (by omega) (by rw [List.length_map]; omega), List.map_take]
    rfl
  have sv : ∀ l ∈ l2.take 8, Valid l := fun l m => h2 l (List.mem_of_mem_take m)
  have sl : ev cl (.sli (.v 8) none (some (.c (.int 8)))) (EL sc cell k s (.d (.tuple (ls.map nmD))) o5 o6 o7 (some (.d (.tuple (l2.map nmD)))) o9) = .ok (.d (.tuple ((l2.take 8).map nmD))) (EL sc cell k s (.d (.tuple (ls.map nmD))) o5 o6 o7 (some (.d (.tuple (l2.map nmD)))) o9) := by
    rw [← ct]
    exact ev_sli (va := .d (.tuple (l2.map nmD))) rfl rfl rfl rfl rfl
  have c1 : ev cl (.call 1 [(.sli (.v 8) none (some (.c (.int 8))))]) (EL sc cell k s (.d (.tuple (ls.map nmD))) o5 o6 o7 (some (.d (.tuple (l2.map nmD)))) o9) = .ok (.d (.bool true)) (EL sc cell k s (.d (.tuple (ls.map nmD))) o5 o6 o7 (some (.d (.tuple (l2.map nmD)))) o9) :=
    callD_ev (ds := [.tuple ((l2.take 8).map nmD)]) (evs_cons' sl evs_nil') ((call_is_names 57 _ (fN_of sv)).trans (by rw [isNames_yes sv ((List.take_sublist 8 l2).nodup hn) (by rw [List.length_take]; omega)]))
  have c2 : ev cl (.call 0 [(.v 4)]) (EL sc cell k s (.d (.tuple (ls.map nmD))) o5 o6 o7 (some (.d (.tuple (l2.map nmD)))) o9) = .ok (.d (.bool false)) (EL sc cell k s (.d (.tuple (ls.map nmD))) o5 o6 o7 (some (.d (.tuple (l2.map nmD)))) o9) :=
    callD_ev (ds := [.tuple (ls.map nmD)]) (evs_cons' (v := .d (.tuple (ls.map nmD))) rfl evs_nil') ((call_is_name 58 (.tuple (ls.map nmD)) trivial).trans rfl)
  refine ex_iff ?_
  rw [ev_or_f (e1 := EL sc cell k s (.d (.tuple (ls.map nmD))) o5 o6 o7 (some (.d (.tuple (l2.map nmD)))) o9)]
  · show (ev cl (.call 0 [(.v 4)]) _).bind _ = _
    rw [c2]
    rfl
  · show (ev cl (.call 1 [(.sli (.v 8) none (some (.c (.int 8))))]) _).bind _ = _
    rw [c1]
    rfl
end Lk01
end

section
set_option Elab.async false
set_option linter.all false
set_option maxRecDepth 100000
set_option maxHeartbeats 2000000
namespace Lk01
open PySem PM
abbrev bLaw : List MS := [
    .set (.nm 3) (.call 5 [(.v 2), (.v 1)]),
    .set (.nm 4) (.bi .tuple [(.call 7 [(.v 3), (.call 6 [(.v 3), (.c (.int 9))])])]),
    bL3,
    .set (.nm 6) (.call 10 [(.v 3), (.idx (.bin .Add (.v 4) (.tup [(.c (.str "q"))])) (.c (.int 0)))]),
    bL5,
    .set (.nm 8) (.bi .tuple [(.call 7 [(.v 3), (.c (.int 9))])]),
    .for_ (.nm 9) (.seq (.tup [(.call 11 [(.v 3), (.v 4), (.v 6)]), (.v 8)])) bL7,
    .ite (.or (.isB true (.call 1 [(.sli (.v 8) none (some (.c (.int 8))))]) true) (.isB true (.call 0 [(.v 4)]) false)) [
      .ret (.c (.bool false))] []]
theorem call_stream' (k : Nat) (n j : Int) (h0 : 0 ≤ j) (h1 : j ≤ 100000) : ∃ b, callM T.prog (k + 2) 5 [.d (.int n), .d (.int j)] = .ok (st b n 0 (mixed n j)) [.d (.int n), .d (.int j)] := ⟨_, call_stream k n j h0 h1⟩
theorem S1_aux (k : Nat) (sc : D) (i cell mx : Int) (bb : Bool) (o3 o4 o5 o6 o7 o8 o9 : Option Val) (A : callM T.prog (k + 2) 5 [.d (.int cell), .d (.int i)] = .ok (st bb cell 0 mx) [.d (.int cell), .d (.int i)]) : ex (cx (k + 2) [false]) (.set (.nm 3) (.call 5 [(.v 2), (.v 1)])) [some (.d sc), some (.d (.int i)), some (.d (.int cell)), o3, o4, o5, o6, o7, o8, o9] = .ok .nx [some (.d sc), some (.d (.int i)), some (.d (.int cell)), some (st bb cell 0 mx), o4, o5, o6, o7, o8, o9] := by
  have v2 : ev (cx (k + 2) [false]) (.v 2) [some (.d sc), some (.d (.int i)), some (.d (.int cell)), o3, o4, o5, o6, o7, o8, o9] = .ok (.d (.int cell)) [some (.d sc), some (.d (.int i)), some (.d (.int cell)), o3, o4, o5, o6, o7, o8, o9] := rfl
  have v1 : ev (cx (k + 2) [false]) (.v 1) [some (.d sc), some (.d (.int i)), some (.d (.int cell)), o3, o4, o5, o6, o7, o8, o9] = .ok (.d (.int i)) [some (.d sc), some (.d (.int i)), some (.d (.int cell)), o3, o4, o5, o6, o7, o8, o9] := rfl
  exact ex_set' (callD_ev (ds := [.int cell, .int i]) (evs_cons' v2 (evs_cons' v1 evs_nil')) A) rfl (by simp [PM.exs, PM.ex, PM.ev, PM.evs, PM.lcStep, PM.evo, PM.evt, PM.evi, PM.getS, PM.see, PM.sees, PM.frD, PM.binD, PM.cmpD, PM.stow, PM.stowAll, PM.asg, PM.asgs, PM.setSl, PM.setAll, PM.handOut, PM.endM, PM.parts, PM.owned, PM.isD, PM.runCall, PM.pks, PM.lend, PM.back, PM.take, PM.takes, PM.walkV, PM.walkL, PM.muV, PM.mtD, PM.biD, PM.setIx, PM.isOl, PM.isiV, PM.tyD, PM.isiD, PM.nonV, PM.truV, PM.truD, PM.partD, PM.items, PM.isiD, PM.lcFree, PM.wipeE, PM.backE, PM.intsD, PM.strsD, PM.boolsD, PM.keyD, PM.dKey, PM.enumV, PM.zipV, PM.rangeV]) (by simp [PM.exs, PM.ex, PM.ev, PM.evs, PM.lcStep, PM.evo, PM.evt, PM.evi, PM.getS, PM.see, PM.sees, PM.frD, PM.binD, PM.cmpD, PM.stow, PM.stowAll, PM.asg, PM.asgs, PM.setSl, PM.setAll, PM.handOut, PM.endM, PM.parts, PM.owned, PM.isD, PM.runCall, PM.pks, PM.lend, PM.back, PM.take, PM.takes, PM.walkV, PM.walkL, PM.muV, PM.mtD, PM.biD, PM.setIx, PM.isOl, PM.isiV, PM.tyD, PM.isiD, PM.nonV, PM.truV, PM.truD, PM.partD, PM.items, PM.isiD, PM.lcFree, PM.wipeE, PM.backE, PM.intsD, PM.strsD, PM.boolsD, PM.keyD, PM.dKey, PM.enumV, PM.zipV, PM.rangeV]) rfl
theorem S1_ok (k : Nat) (sc : D) (i cell : Int) (hi0 : 0 ≤ i) (hi : i ≤ 100000) (o3 o4 o5 o6 o7 o8 o9 : Option Val) : ∃ bb mx, ex (cx (k + 2) [false]) (.set (.nm 3) (.call 5 [(.v 2), (.v 1)])) [some (.d sc), some (.d (.int i)), some (.d (.int cell)), o3, o4, o5, o6, o7, o8, o9] = .ok .nx [some (.d sc), some (.d (.int i)), some (.d (.int cell)), some (st bb cell 0 mx), o4, o5, o6, o7, o8, o9] := by
  obtain ⟨bb, A⟩ := call_stream' k cell i hi0 hi
  exact ⟨bb, mixed cell i, S1_aux k sc i cell (mixed cell i) bb o3 o4 o5 o6 o7 o8 o9 A⟩
theorem law_body (sc : D) (i : Nat) (cell : Int) (hi : i < 64) (o3 o4 o5 o6 o7 o8 o9 : Option Val) : ∃ o3' o4' o5' o6' o7' o8' o9', exs cl bLaw [some (.d sc), some (.d (.int i)), some (.d (.int cell)), o3, o4, o5, o6, o7, o8, o9] = .ok .nx [some (.d sc), some (.d (.int i)), some (.d (.int cell)), o3', o4', o5', o6', o7', o8', o9'] := by
  obtain ⟨bb, mx, S1⟩ := S1_ok 57 sc i cell (by omega) (by omega) o3 o4 o5 o6 o7 o8 o9
  obtain ⟨n2, c2, ls, a1, a2, a3, a4, a5, S2⟩ := S2_ok sc (.int cell) (.int i) bb cell 0 mx (by omega) (by omega) o4 o5 o6 o7 o8 o9
  obtain ⟨p5, S3⟩ := L3 sc (.int cell) (.int i) (st bb n2 c2 mx) ls a4 o5 o6 o7 o8 o9
  obtain ⟨n4, c4, o, b1, b2, ho, S4⟩ := S4_ok sc (.int cell) (.int i) ls a4 a3 bb n2 c2 mx a1 a2 p5 o6 o7 o8 o9
  obtain ⟨p7, S5⟩ := L5 sc (.int cell) (.int i) (st bb n4 c4 mx) ls a4 a5 a3 o ho p5 o7 o8 o9
  obtain ⟨n6, c6, l2, d1, d2, d3, d4, d5, S6⟩ := S6_ok sc (.int cell) (.int i) (.tuple (ls.map nmD)) bb n4 c4 mx b1 (by omega) p5 (some (.d o)) p7 o8 o9
  obtain ⟨s7, p9, S7⟩ := S7_ok sc (.int cell) (.int i) ls l2 a4 a3 d4 d3 o ho bb n6 c6 mx d1 d2 p5 p7 o9
  have S8 := S8_ok sc (.int cell) (.int i) s7 ls l2 d4 d5 d3 p5 (some (.d o)) p7 p9
  refine ⟨some s7, some (.d (.tuple (ls.map nmD))), p5, some (.d o), p7, some (.d (.tuple (l2.map nmD))), p9, ?_⟩
  rw [exs_nx S1, exs_nx S2, exs_nx S3, exs_nx S4, exs_nx S5, exs_nx S6, exs_nx S7, exs_nx S8]
  rfl
theorem enumV_get : ∀ (xs : List D) (k i : Nat) (x : D), (enumV k xs)[i]? = some x → ∃ y, xs[i]? = some y ∧ x = .tuple [.int (k + i : Nat), y] ∧ i < xs.length
  | [], _, _, _, h => by cases h
  | y :: r, k, 0, x, h => ⟨y, rfl, by simpa [PM.exs, PM.ex, PM.ev, PM.evs, PM.lcStep, PM.evo, PM.evt, PM.evi, PM.getS, PM.see, PM.sees, PM.frD, PM.binD, PM.cmpD, PM.stow, PM.stowAll, PM.asg, PM.asgs, PM.setSl, PM.setAll, PM.handOut, PM.endM, PM.parts, PM.owned, PM.isD, PM.runCall, PM.pks, PM.lend, PM.back, PM.take, PM.takes, PM.walkV, PM.walkL, PM.muV, PM.mtD, PM.biD, PM.setIx, PM.isOl, PM.isiV, PM.tyD, PM.isiD, PM.nonV, PM.truV, PM.truD, PM.partD, PM.items, PM.isiD, PM.lcFree, PM.wipeE, PM.backE, PM.intsD, PM.strsD, PM.boolsD, PM.keyD, PM.dKey, PM.enumV, PM.zipV, PM.rangeV, enumV] using h.symm, by simp [PM.exs, PM.ex, PM.ev, PM.evs, PM.lcStep, PM.evo, PM.evt, PM.evi, PM.getS, PM.see, PM.sees, PM.frD, PM.binD, PM.cmpD, PM.stow, PM.stowAll, PM.asg, PM.asgs, PM.setSl, PM.setAll, PM.handOut, PM.endM, PM.parts, PM.owned, PM.isD, PM.runCall, PM.pks, PM.lend, PM.back, PM.take, PM.takes, PM.walkV, PM.walkL, PM.muV, PM.mtD, PM.biD, PM.setIx, PM.isOl, PM.isiV, PM.tyD, PM.isiD, PM.nonV, PM.truV, PM.truD, PM.partD, PM.items, PM.isiD, PM.lcFree, PM.wipeE, PM.backE, PM.intsD, PM.strsD, PM.boolsD, PM.keyD, PM.dKey, PM.enumV, PM.zipV, PM.rangeV]⟩
  | y :: r, k, i + 1, x, h => by
    obtain ⟨z, a, b, c⟩ := enumV_get r (k + 1) i x (by simpa [PM.exs, PM.ex, PM.ev, PM.evs, PM.lcStep, PM.evo, PM.evt, PM.evi, PM.getS, PM.see, PM.sees, PM.frD, PM.binD, PM.cmpD, PM.stow, PM.stowAll, PM.asg, PM.asgs, PM.setSl, PM.setAll, PM.handOut, PM.endM, PM.parts, PM.owned, PM.isD, PM.runCall, PM.pks, PM.lend, PM.back, PM.take, PM.takes, PM.walkV, PM.walkL, PM.muV, PM.mtD, PM.biD, PM.setIx, PM.isOl, PM.isiV, PM.tyD, PM.isiD, PM.nonV, PM.truV, PM.truD, PM.partD, PM.items, PM.isiD, PM.lcFree, PM.wipeE, PM.backE, PM.intsD, PM.strsD, PM.boolsD, PM.keyD, PM.dKey, PM.enumV, PM.zipV, PM.rangeV, enumV] using h)
    exact ⟨z, by simpa [PM.exs, PM.ex, PM.ev, PM.evs, PM.lcStep, PM.evo, PM.evt, PM.evi, PM.getS, PM.see, PM.sees, PM.frD, PM.binD, PM.cmpD, PM.stow, PM.stowAll, PM.asg, PM.asgs, PM.setSl, PM.setAll, PM.handOut, PM.endM, PM.parts, PM.owned, PM.isD, PM.runCall, PM.pks, PM.lend, PM.back, PM.take, PM.takes, PM.walkV, PM.walkL, PM.muV, PM.mtD, PM.biD, PM.setIx, PM.isOl, PM.isiV, PM.tyD, PM.isiD, PM.nonV, PM.truV, PM.truD, PM.partD, PM.items, PM.isiD, PM.lcFree, PM.wipeE, PM.backE, PM.intsD, PM.strsD, PM.boolsD, PM.keyD, PM.dKey, PM.enumV, PM.zipV, PM.rangeV] using a, by rw [b, show k + 1 + i = k + (i + 1) by omega], by simpa [PM.exs, PM.ex, PM.ev, PM.evs, PM.lcStep, PM.evo, PM.evt, PM.evi, PM.getS, PM.see, PM.sees, PM.frD, PM.binD, PM.cmpD, PM.stow, PM.stowAll, PM.asg, PM.asgs, PM.setSl, PM.setAll, PM.handOut, PM.endM, PM.parts, PM.owned, PM.isD, PM.runCall, PM.pks, PM.lend, PM.back, PM.take, PM.takes, PM.walkV, PM.walkL, PM.muV, PM.mtD, PM.biD, PM.setIx, PM.isOl, PM.isiV, PM.tyD, PM.isiD, PM.nonV, PM.truV, PM.truD, PM.partD, PM.items, PM.isiD, PM.lcFree, PM.wipeE, PM.backE, PM.intsD, PM.strsD, PM.boolsD, PM.keyD, PM.dKey, PM.enumV, PM.zipV, PM.rangeV] using c⟩
theorem pure_law (ns : List Int) (h : ns.length ≤ 63) : ∃ vs, callM T.prog 60 12 [.d (.list (ns.map .int))] = .ok (.d (.bool true)) vs := by
  rw [go1 (k := 59) (fd := d_law.d) rfl ⟨rfl, by decide⟩]
  have mem : ∀ (i : Nat) (y : D), (cut (ns.map PyData.int ++ [PyData.int 0]) none (some 63))[i]? = some y → ∃ j, y = .int j := fun i y hy => by
    have := mem_cut (List.mem_of_getElem? hy)
    rcases List.mem_append.mp this with m | m
    · obtain ⟨j, _, rfl⟩ := List.mem_map.mp m
      exact ⟨j, rfl⟩
    · exact ⟨0, List.mem_singleton.mp m⟩
  have cl1 := cut_len (ns.map PyData.int ++ [.int 0]) none (some 63)
  have E0 : evi cl (.enum (.sli (.bin .Add (.v 0) (.lst [(.c (.int 0))])) none (some (.c (.int 63))))) [some (.d (.list (ns.map .int))), none, none, none, none, none, none, none, none, none] = .ok (enumV 0 (cut (ns.map PyData.int ++ [PyData.int 0]) none (some 63))) [some (.d (.list (ns.map .int))), none, none, none, none, none, none, none, none, none] := by
    have l0 : ev cl (.lst [.c (.int 0)]) [some (.d (.list (ns.map .int))), none, none, none, none, none, none, none, none, none] = .ok (.ol [.d (.int 0)]) [some (.d (.list (ns.map .int))), none, none, none, none, none, none, none, none, none] := by simp [PM.exs, PM.ex, PM.ev, PM.evs, PM.lcStep, PM.evo, PM.evt, PM.evi, PM.getS, PM.see, PM.sees, PM.frD, PM.binD, PM.cmpD, PM.stow, PM.stowAll, PM.asg, PM.asgs, PM.setSl, PM.setAll, PM.handOut, PM.endM, PM.parts, PM.owned, PM.isD, PM.runCall, PM.pks, PM.lend, PM.back, PM.take, PM.takes, PM.walkV, PM.walkL, PM.muV, PM.mtD, PM.biD, PM.setIx, PM.isOl, PM.isiV, PM.tyD, PM.isiD, PM.nonV, PM.truV, PM.truD, PM.partD, PM.items, PM.isiD, PM.lcFree, PM.wipeE, PM.backE, PM.intsD, PM.strsD, PM.boolsD, PM.keyD, PM.dKey, PM.enumV, PM.zipV, PM.rangeV, lineN_eq]
    have bn : ev cl (.bin .Add (.v 0) (.lst [.c (.int 0)])) [some (.d (.list (ns.map .int))), none, none, none, none, none, none, none, none, none] = .ok (.ol ((ns.map PyData.int ++ [PyData.int 0]).map Val.d)) [some (.d (.list (ns.map .int))), none, none, none, none, none, none, none, none, none] :=
      ev_bin (va := .d (.list (ns.map .int))) (x := .list (ns.map .int)) (y := .list [.int 0]) rfl l0 rfl rfl (by
        show (if (ns.map PyData.int).length + 1 ≤ lineN then some (Val.ol ((ns.map PyData.int ++ [PyData.int 0]).map Val.d)) else none) = _
        rw [if_pos (by rw [lineN_eq, List.length_map]; omega)])
    have sl : ev cl (.sli (.bin .Add (.v 0) (.lst [.c (.int 0)])) none (some (.c (.int 63)))) [some (.d (.list (ns.map .int))), none, none, none, none, none, none, none, none, none] = .ok (.ol ((cut (ns.map PyData.int ++ [PyData.int 0]) none (some 63)).map Val.d)) [some (.d (.list (ns.map .int))), none, none, none, none, none, none, none, none, none] :=
      ev_sli (x := .list (ns.map PyData.int ++ [.int 0])) bn rfl rfl (by
        show (allD ((ns.map PyData.int ++ [PyData.int 0]).map Val.d)).map PyData.list = _
        rw [allD_map]; rfl) rfl
    show (ev cl (.sli (.bin .Add (.v 0) (.lst [.c (.int 0)])) none (some (.c (.int 63)))) _).bind _ = _
    rw [sl]
    have w : walkL [some (.d (.list (ns.map .int))), none, none, none, none, none, none, none, none, none] (.ol ((cut (ns.map PyData.int ++ [PyData.int 0]) none (some 63)).map Val.d)) = some (cut (ns.map PyData.int ++ [PyData.int 0]) none (some 63), [some (.d (.list (ns.map .int))), none, none, none, none, none, none, none, none, none]) := by
      show (((allD ((cut (ns.map PyData.int ++ [PyData.int 0]) none (some 63)).map Val.d)).map PyData.list).map fun x => (x, _)).bind _ = _
      rw [allD_map]
      rfl
    rw [Res.bind_ok, w]
  obtain ⟨e', L, o1, o2, o3, o4, o5, o6, o7, o8, o9, rfl⟩ := forL_ok (f := fun x e2 => match asg cl (.tup [(.nm 1), (.nm 2)]) (.d x) e2 with
      | some e3 => exs cl bLaw e3
      | none => Res.no) (xs := enumV 0 (cut (ns.map PyData.int ++ [PyData.int 0]) none (some 63))) (e := [some (.d (.list (ns.map .int))), none, none, none, none, none, none, none, none, none])
    (fun _ e => ∃ o1 o2 o3 o4 o5 o6 o7 o8 o9, e = [some (.d (.list (ns.map .int))), o1, o2, o3, o4, o5, o6, o7, o8, o9]) ⟨none, none, none, none, none, none, none, none, none, rfl⟩ (fun i x e hx P => by
      obtain ⟨o1, o2, o3, o4, o5, o6, o7, o8, o9, rfl⟩ := P
      obtain ⟨y, hy, rfl, hl⟩ := enumV_get _ _ _ _ hx
      obtain ⟨j, rfl⟩ := mem _ _ hy
      have hi : 0 + i < 64 := by
        have : (ns.map PyData.int ++ [PyData.int 0]).length ≤ 64 := by simp [PM.exs, PM.ex, PM.ev, PM.evs, PM.lcStep, PM.evo, PM.evt, PM.evi, PM.getS, PM.see, PM.sees, PM.frD, PM.binD, PM.cmpD, PM.stow, PM.stowAll, PM.asg, PM.asgs, PM.setSl, PM.setAll, PM.handOut, PM.endM, PM.parts, PM.owned, PM.isD, PM.runCall, PM.pks, PM.lend, PM.back, PM.take, PM.takes, PM.walkV, PM.walkL, PM.muV, PM.mtD, PM.biD, PM.setIx, PM.isOl, PM.isiV, PM.tyD, PM.isiD, PM.nonV, PM.truV, PM.truD, PM.partD, PM.items, PM.isiD, PM.lcFree, PM.wipeE, PM.backE, PM.intsD, PM.strsD, PM.boolsD, PM.keyD, PM.dKey, PM.enumV, PM.zipV, PM.rangeV]; omega
        omega
      obtain ⟨q3, q4, q5, q6, q7, q8, q9, B⟩ := law_body (.list (ns.map .int)) (0 + i) j hi o3 o4 o5 o6 o7 o8 o9
      exact ⟨_, B, _, _, _, _, _, _, _, _, _, rfl⟩)
  have F : ex cl (.for_ (.tup [(.nm 1), (.nm 2)]) (.enum (.sli (.bin .Add (.v 0) (.lst [(.c (.int 0))])) none (some (.c (.int 63))))) bLaw) [some (.d (.list (ns.map .int))), none, none, none, none, none, none, none, none, none] = .ok .nx [some (.d (.list (ns.map .int))), o1, o2, o3, o4, o5, o6, o7, o8, o9] := by
    rw [show ex cl (.for_ (.tup [(.nm 1), (.nm 2)]) (.enum (.sli (.bin .Add (.v 0) (.lst [(.c (.int 0))])) none (some (.c (.int 63))))) bLaw) [some (.d (.list (ns.map .int))), none, none, none, none, none, none, none, none, none] = (evi cl (.enum (.sli (.bin .Add (.v 0) (.lst [(.c (.int 0))])) none (some (.c (.int 63))))) [some (.d (.list (ns.map .int))), none, none, none, none, none, none, none, none, none]).bind (fun xs e1 => forL (fun x e2 => match asg cl (.tup [(.nm 1), (.nm 2)]) (.d x) e2 with
      | some e3 => exs cl bLaw e3
      | none => Res.no) xs e1) by rw [ex] <;> rfl]
    rw [E0, Res.bind_ok]
    exact L
  refine ⟨[.d (.list (ns.map .int))], ?_⟩
  show endM _ (exs cl [_, _] [some (.d (.list (ns.map .int))), none, none, none, none, none, none, none, none, none]) = _
  rw [exs_nx F]
  rfl
end Lk01
end

section
set_option Elab.async false
set_option linter.all false
set_option maxRecDepth 100000
set_option maxHeartbeats 0
open PySem PySem.W PySem.Calls PyProof.Rows
theorem PySem.Challenge.cw_readyhall_k01_names_holds : PySem.Challenge.rw_readyhall_k01_names.Holds := by
  w_on; o_law
  refine HandSHeadRun.head_any (r := PySem.W.OpenLaw.row PySem.Challenge.rw_readyhall_k01_names) (q := PySem.W.view (PySem.W.OpenLaw.row PySem.Challenge.rw_readyhall_k01_names).prog [36]) (H := Lk01.hk) (ob := Lk01.ob) (M := 6000) (loose := Lk01.names) (d := HandSHeadRun.topDef (PySem.W.OpenLaw.row PySem.Challenge.rw_readyhall_k01_names).prog 36) (kwd := []) Lk01.ob_eq
    (by kernel_rfl) (fun s => by kernel_rfl) Lk01.run (by kernel_rfl) (by kernel_rfl) (by kernel_rfl) (by rfl) (by first | assumption | decide +kernel) (by decide +kernel) ⟨rfl, rfl, rfl, rfl, rfl, by decide +kernel⟩ ?hw ?hc
  case hw => w_witness2
  case hc =>
    refine PM.law_end (l := PySem.Challenge.rw_readyhall_k01_names) (T := Lk01.T) (fe := 60) (fs := 60) (n := 63) (k := 60) (li := 12) (x := "_law_script") (lx := "law") (lt := Lk01.d_law) (fun w h Y => Y) (by kernel_rfl) Lk01.ok_all (by kernel_rfl) rfl rfl (by decide) (by kernel_rfl) ⟨rfl, by decide, by decide⟩ Lk01.pure_law
end
