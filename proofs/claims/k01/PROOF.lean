import PyProof.Rows.All
import Wide.All
import OpenK.AllK
import Wide.FinOn
import HandS.ForMost
import HandS.ForExc
import HandS.IsInst
import HandS.Wide
import HandS.Nested
import HandS.Lambda
import HandS.ExcCtx
import HandS.TupAny
import HandS.TupLe
import HandS.TupMul
import KE.KTupSum
import HandS.Small
import HandS.SortInts
import KE.DatumOrd
import HandS.Zip0
import HandS.Iter
import KE.GoesMore
import HandS.HotCalls
import HandS.Comp
import HandS.ExcIs
import HandS.More
import HandS.Style
import HandS.HeadHook4
import HandS.HeadWalk
import HandS.Head2
import PyProof.ExcBaseAll.ValueError
import HandS.Head0
import HandS.Head1
import HandS.HeadEnd
import HandS.HeadHook1
import PySem.Challenge.RW_everydate_k01_whole_dates_and_days_undon
set_option Elab.async false
set_option linter.all false
set_option maxRecDepth 100000
/-! EvA: the code tree, the values, the meaning. -/
namespace Ev
open PySem

/-- built-in functions on values -/
inductive Bif where
  | len | all | any | sum | tuple | list | abs | max2 | min2 | int | bool | max1 | min1 | sorted
  deriving DecidableEq

/-- targets: slots, nested -/
inductive Tg where
  | name (i : Nat)
  | tup (ts : List Tg)

mutual
inductive IE where
  | non | bl (b : Bool) | int (i : Int) | str (x : Str)
  | var (i : Nat) | bor (i : Nat) | glob (x : Str)
  | tup (es : IEs) | lst (es : IEs) | dnew
  | bin (op : Operator) (a b : IE)
  | neg (a : IE) | not (a : IE) | and (a b : IE) | or (a b : IE)
  | cmp (op : CmpOp) (a b : IE)
  | chain (op op' : CmpOp) (a b c : IE)
  | ite (t a b : IE)
  | idx (a i : IE)
  | slc (a : IE) (lo hi : IEo)
  | call (f : Str) (args : IAs)
  | callv (i : Nat) (args : IEs)
  | bif (f : Bif) (args : IEs)
  | isi (a : IE) (ty : String)
  | isx (i : Nat) (c : Str)
  | comp (elt : IE) (tg : Tg) (src : ISrc) (cond : IEo) (own : List Nat)
  /-- a[::-1] -/
  | rev (a : IE)
  /-- a in X, not in X; X[a]; X.get(a, d): X a name of the module -/
  | gin (neg : Bool) (a : IE) (x : Str)
  | gidx (x : Str) (a : IE)
  | gget (x : Str) (a d : IE)
inductive IEs where
  | nil
  | cons (e : IE) (r : IEs)
inductive IEo where
  | none
  | some (e : IE)
inductive IAs where
  | nil
  | val (e : IE) (r : IAs)
  | lam (np nl : Nat) (body : IE) (cap : List Nat) (r : IAs)
inductive ISrc where
  | seq (e : IE)
  | range1 (a : IE)
  | range2 (a b : IE)
  | zip (a b : IE)
  | enum (a : IE)
end

mutual
inductive IS where
  | set (t : Tg) (e : IE)
  | setOwn (i : Nat) (e : IE)
  | par (is : List Nat) (es : IEs)
  /-- .. some of them lists of the frame's own -/
  | parO (is : List Nat) (fl : List Bool) (es : IEs)
  | expr (e : IE)
  | append (i : Nat) (e : IE)
  | extend (i : Nat) (e : IE)
  /-- t = x.pop(); t = x.pop(), e -/
  | popT (i : Nat) (t : Tg)
  | popT2 (i : Nat) (e : IE) (t : Tg)
  /-- x = {}: a shared dict; tk: its keys are tuples -/
  | newDic (i : Nat) (tk : Bool)
  /-- what is not carried -/
  | bad
  | setIdx (o : IE) (k e : IE)
  | aug (i : Nat) (op : Operator) (e : IE)
  | ife (t : IE) (a b : ISs)
  | whl (t : IE) (b : ISs)
  | for (t : Tg) (src : ISrc) (b : ISs)
  | ret (e : IE)
  | retN
  | retObj (es : IEs)
  | raise (c : Str) (x : IEo)
  | pass
  | frz (is : List Nat)
  | tryAs (b : ISs) (c : Str) (i : Nat) (h : ISs)
inductive ISs where
  | nil
  | cons (s : IS) (r : ISs)
end

/-- values -/
inductive D where
  | non | bl (b : Bool) | int (i : Int) | str (x : Str)
  | tup (ds : List D) | lst (ds : List D)
  | dct (ks vs : List D)
  | obj (i : Nat)
  /-- a tuple that the module wrote, of ints alone -/
  | kt (ds : List D)
/-- shared objects -/
inductive SObj where
  | lst (ds : List D)
  /-- dicts: keys ints and texts; keys tuples of ints -/
  | dK (kvs : List (L2.Key × D))
  | dT (kvs : List (List L2.Key × D))
abbrev Objs := List SObj

inductive Res (α : Type) where
  | ok (a : α) (o : Objs)
  | err (c : Str) (xs : List D) (o : Objs)
  | stuck
namespace Res
def bind {α β : Type} (r : Res α) (f : α → Objs → Res β) : Res β := match r with
  | .ok a o => f a o
  | .err c xs o => .err c xs o
  | .stuck => .stuck
@[simp] theorem bind_ok {α β : Type} (a : α) (o : Objs) (f : α → Objs → Res β) : (Res.ok a o).bind f = f a o := rfl
@[simp] theorem bind_err {α β : Type} (c : Str) (xs : List D) (o : Objs) (f : α → Objs → Res β) : (Res.err c xs o).bind f = .err c xs o := rfl
@[simp] theorem bind_stuck {α β : Type} (f : α → Objs → Res β) : (Res.stuck : Res α).bind f = .stuck := rfl
/-- an answer that may lack -/
def ofO {α : Type} (a : Option α) (o : Objs) : Res α := match a with
  | some a => .ok a o
  | none => .stuck
@[simp] theorem ofO_some {α : Type} (a : α) (o : Objs) : ofO (some a) o = .ok a o := rfl
@[simp] theorem ofO_none {α : Type} (o : Objs) : ofO (none : Option α) o = .stuck := rfl
/-- no exception comes out -/
def calm {α : Type} (r : Res α) : Res α := match r with
  | .err _ _ _ => .stuck
  | r => r
@[simp] theorem calm_ok {α : Type} (a : α) (o : Objs) : (Res.ok a o).calm = .ok a o := rfl
end Res

inductive Slot where
  | none | val (d : D) | own (d : D)
  /-- a lambda, what it captured -/
  | clo (np nl : Nat) (body : IE) (cap : List D)
  /-- an exception that is caught -/
  | exc (c : Str) (xs : List D)
abbrev Frm := List Slot

/-- the answer of statements -/
inductive SRes where
  | nx (ρ : Frm) (o : Objs)
  | ret (d : D) (o : Objs)
  | brk (ρ : Frm) (o : Objs)
  | cnt (ρ : Frm) (o : Objs)
  | err (c : Str) (xs : List D) (ρ : Frm) (o : Objs)
  | stuck
def SRes.seq (r : SRes) (f : Frm → Objs → SRes) : SRes := match r with
  | .nx ρ o => f ρ o
  | r => r
/-- an expression's answer, in a statement -/
def Res.st {α : Type} (r : Res α) (ρ : Frm) (f : α → Objs → SRes) : SRes := match r with
  | .ok a o => f a o
  | .err c xs o => .err c xs ρ o
  | .stuck => .stuck

/-! ### the operators on values -/
def sz (n : Nat) : Bool := decide (n ≤ sizeLine)
def mulOk (i j : Int) : Bool := decide (i.natAbs.log2 + j.natAbs.log2 < 1000000)
def divOk (j : Int) : Bool := decide (0 < j) && decide (j.natAbs.log2 < 9000)
def powOk (i j : Int) : Bool := decide (0 ≤ j) && (decide (j ≤ 1000000) && decide (i.natAbs < 2 ^ 64))
def repOk (n : Nat) (k : Int) : Bool := decide (-(2 ^ 63) ≤ k) && (decide (k < 2 ^ 63) && decide (n * k.toNat ≤ sizeLine))
/-- a tuple times a small int -/
def tupOk (n : Nat) (k : Int) : Bool := decide (0 < n) && (decide (1 ≤ k) && (decide (k ≤ 1000) && decide (n ≤ 1000)))
def binD : Operator → D → D → Option D
  | .Add, .int i, .int j => some (.int (i + j))
  | .Add, .str x, .str y => if sz (x.length + y.length) then some (.str (x ++ y)) else none
  | .Add, .tup xs, .tup ys => if sz (xs.length + ys.length) then some (.tup (xs ++ ys)) else none
  | .Add, .lst xs, .lst ys => if sz (xs.length + ys.length) then some (.lst (xs ++ ys)) else none
  | .Sub, .int i, .int j => some (.int (i - j))
  | .Mult, .int i, .int j => if mulOk i j then some (.int (i * j)) else none
  | .Mult, .tup xs, .int k => if tupOk xs.length k then some (.tup (List.replicate k.toNat xs).flatten) else none
  | .Mult, .lst xs, .int k => if repOk xs.length k then some (.lst (List.replicate k.toNat xs).flatten) else none
  | .FloorDiv, .int i, .int j => if divOk j then some (.int (i / j)) else none
  | .Mod, .int i, .int j => if decide (0 < j) then some (.int (i % j)) else none
  | .Pow, .int i, .int j => if powOk i j then some (.int (i ^ j.toNat)) else none
  | _, _, _ => none
def negD : D → Option D
  | .int i => some (.int (-i))
  | _ => none
mutual
def D.py : D → Option PyData
  | .non => some .none
  | .bl b => some (.bool b)
  | .int i => some (.int i)
  | .str x => some (.str x)
  | .tup ds => (D.pys ds).map .tuple
  | .lst ds => (D.pys ds).map .list
  | .kt ds => (D.pys ds).map .tuple
  | _ => none
def D.pys : List D → Option (List PyData)
  | [] => some []
  | d :: ds => match D.py d, D.pys ds with
    | some x, some xs => some (x :: xs)
    | _, _ => none
end
def eqD (x y : D) : Option Bool := match x.py, y.py with
  | some a, some b => if SeqAt.shaped a && SeqAt.shaped b then some (PyData.eqv a b) else none
  | _, _ => none
def flatD : D → Bool
  | .non | .bl _ | .int _ | .str _ => true
  | _ => false
def eqF : D → D → Bool
  | .non, .non => true
  | .bl a, .bl b => a == b
  | .bl a, .int b => (if a then 1 else 0) == b
  | .int a, .bl b => a == (if b then 1 else 0)
  | .int a, .int b => a == b
  | .str a, .str b => a == b
  | _, _ => false
def inD (x : D) : D → Option Bool
  | .tup ys => if flatD x && ys.all flatD then some (ys.any fun y => eqF y x) else none
  | .lst ys => if flatD x && ys.all flatD then some (ys.any fun y => eqF y x) else none
  | .kt ys => if flatD x && ys.all flatD then some (ys.any fun y => eqF y x) else none
  | _ => none
def ltD : D → D → Option Bool
  | .int i, .int j => some (decide (i < j))
  | _, _ => none
def leD : D → D → Option Bool
  | .int i, .int j => some (decide (i ≤ j))
  | _, _ => none
def isNonD : D → Bool
  | .non => true
  | _ => false
/-- is: None, True, False alone -/
def isD : D → D → Option Bool
  | x, .non => some (isNonD x)
  | .bl a, .bl b => some (decide (a = b))
  | _, _ => none
def cmpD : CmpOp → D → D → Option D
  | .Eq, x, y => (eqD x y).map .bl
  | .NotEq, x, y => (eqD x y).map fun b => .bl (!b)
  | .Lt, x, y => (ltD x y).map .bl
  | .LtE, x, y => (leD x y).map .bl
  | .Gt, x, y => (ltD y x).map .bl
  | .GtE, x, y => (leD y x).map .bl
  | .Is, x, y => (isD x y).map .bl
  | .IsNot, x, y => (isD x y).map fun b => .bl (!b)
  | .In, x, y => (inD x y).map .bl
  | .NotIn, x, y => (inD x y).map fun b => .bl (!b)
def idxD : D → D → Option D
  | .tup ds, .int i => L2.atI ds i
  | .lst ds, .int i => L2.atI ds i
  | .kt ds, .int i => L2.atI ds i
  | _, _ => none
def cutD (ds : List D) (lo hi : Option Int) : List D := (ds.drop (HT.sIx ds.length 0 lo)).take (HT.sIx ds.length ds.length hi - HT.sIx ds.length 0 lo)
def slcD (a : D) (lo hi : Option Int) : Option D := match a with
  | .tup ds => some (.tup (cutD ds lo hi))
  | .lst ds => some (.lst (cutD ds lo hi))
  | _ => none
def intsD : List D → Option (List Int)
  | [] => some []
  | .int i :: r => (intsD r).map (i :: ·)
  | _ => none
def blsD : List D → Option (List Bool)
  | [] => some []
  | .bl i :: r => (blsD r).map (i :: ·)
  | _ => none
def bifD : Bif → List D → Option D
  | .len, [.tup ds] => some (.int ds.length)
  | .len, [.lst ds] => some (.int ds.length)
  | .len, [.kt ds] => some (.int ds.length)
  | .len, [.str x] => if sz x.length then some (.int x.length) else none
  | .all, [.lst ds] => (blsD ds).map fun bs => .bl (bs.all id)
  | .any, [.lst ds] => (blsD ds).map fun bs => .bl (bs.any id)
  | .sum, [.lst ds] => (intsD ds).map fun ns => .int ns.sum
  | .sum, [.tup ds] => (intsD ds).map fun ns => .int ns.sum
  | .tuple, [.tup ds] => some (.tup ds)
  | .tuple, [.lst ds] => some (.tup ds)
  | .list, [.tup ds] => some (.lst ds)
  | .list, [.lst ds] => some (.lst ds)
  | .abs, [.int i] => some (.int (if i < 0 then -i else i))
  | .max2, [.int i, .int j] => some (.int (if j > i then j else i))
  | .min2, [.int i, .int j] => some (.int (if j < i then j else i))
  | .int, [.int i] => some (.int i)
  | .int, [.bl b] => some (.int (if b then 1 else 0))
  | .bool, [.int i] => some (.bl (i != 0))
  | .bool, [.bl b] => some (.bl b)
  | .max1, [.lst ds] => (intsD ds).bind fun ns => ns.max?.map .int
  | .max1, [.tup ds] => (intsD ds).bind fun ns => ns.max?.map .int
  | .min1, [.lst ds] => (intsD ds).bind fun ns => ns.min?.map .int
  | .sorted, [.lst ds] => (intsD ds).map fun ns => .lst ((ns.mergeSort fun a b => decide (a ≤ b)).map .int)
  | _, _ => none
/-- isinstance of a value and a built-in class -/
def isiD (d : D) (ty : String) : Option Bool := match d with
  | .non => L2.kitB "NoneType" ty
  | .bl _ => L2.kitB "bool" ty
  | .int _ => L2.kitB "int" ty
  | .str _ => L2.kitB "str" ty
  | .tup _ => L2.kitB "tuple" ty
  | .kt _ => L2.kitB "tuple" ty
  | .lst _ => L2.kitB "list" ty
  | .dct _ _ => L2.kitB "dict" ty
  | _ => none

/-- a dict of the module: its texts, its values -/
def dicAt : List D → List D → Str → Option D
  | .str x :: ks, v :: vs, z => if x = z then some v else dicAt ks vs z
  | _, _, _ => none
def isDct : D → Bool
  | .dct _ _ => true
  | _ => false
def ginD (neg : Bool) (x : D) : D → Option D
  | .dct ks vs => match x with
    | .str z => some (.bl ((dicAt ks vs z).isSome != neg))
    | _ => none
  | _ => none
def gidxD (x : D) : D → Option D
  | .dct ks vs => match x with
    | .str z => dicAt ks vs z
    | _ => none
  | _ => none
def ggetD (x y : D) : D → Option D
  | .dct ks vs => match x with
    | .str z => some ((dicAt ks vs z).getD y)
    | _ => none
  | _ => none
/-! ### shared objects -/
def keyK : D → Option L2.Key
  | .int i => some (.inl i)
  | .str x => some (.inr x)
  | _ => none
/-- a tuple of ints -/
def keysI : List D → Option (List L2.Key)
  | [] => some []
  | .int i :: r => (keysI r).map (.inl i :: ·)
  | _ => none
def keyT : D → Option (List L2.Key)
  | .tup ds => keysI ds
  | _ => none
section
variable {κ : Type} [DecidableEq κ]
def getKV (kvs : List (κ × D)) (k : κ) : Option D := (kvs.find? fun kv => decide (kv.1 = k)).map (·.2)
def putKV (kvs : List (κ × D)) (k : κ) (v : D) : List (κ × D) :=
  if (kvs.any fun kv => decide (kv.1 = k)) = true then kvs.map (fun kv => if kv.1 = k then (kv.1, v) else kv) else kvs ++ [(k, v)]
end
def getO : SObj → D → Option D
  | .lst ds, y => idxD (.lst ds) y
  | .dK kvs, y => match keyK y with
    | some k => getKV kvs k
    | none => none
  | .dT kvs, y => match keyT y with
    | some k => getKV kvs k
    | none => none
/-- o[k] = v -/
def putD (ds : List D) (k : Int) (v : D) : Option (List D) := (L2.ixN ds.length k).map fun j => ds.set j v
def putO : SObj → D → D → Option SObj
  | .lst ds, y, v => match y with
    | .int j => (putD ds j v).map .lst
    | _ => none
  | .dK kvs, y, v => match keyK y with
    | some k => if decide (kvs.length < sizeLine) then some (.dK (putKV kvs k v)) else none
    | none => none
  | .dT kvs, y, v => match keyT y with
    | some k => if decide (kvs.length < sizeLine) then some (.dT (putKV kvs k v)) else none
    | none => none
mutual
/-- no shared object within -/
def nO : D → Bool
  | .obj _ => false
  | .tup ds => nOs ds
  | .lst ds => nOs ds
  | .kt ds => nOs ds
  | .dct ks vs => nOs ks && nOs vs
  | _ => true
def nOs : List D → Bool
  | [] => true
  | d :: ds => nO d && nOs ds
end
def SObj.nO : SObj → Bool
  | .lst ds => nOs ds
  | .dK kvs => nOs (kvs.map (·.2))
  | .dT kvs => nOs (kvs.map (·.2))
/-- what a call made, and nobody has, is forgotten -/
def Res.trunc (n : Nat) (r : Res D) : Res D := match r with
  | .ok d o => if Ev.nO d && (o.take n).all SObj.nO then .ok d (o.take n) else .ok d o
  | .err c xs o => if nOs xs && (o.take n).all SObj.nO then .err c xs (o.take n) else .err c xs o
  | .stuck => .stuck
def globD (G : Str → Option D) (x : Str) : Option D := match G x with
  | some (.dct _ _) => none
  | r => r

/-! ### frames -/
def getV (ρ : Frm) (i : Nat) : Option D := match ρ[i]? with
  | some (.val d) => some d
  | _ => none
def getB (ρ : Frm) (i : Nat) : Option D := match ρ[i]? with
  | some (.val d) => some d
  | some (.own d) => some d
  | _ => none
def wipeF (ρ : Frm) : List Nat → Frm
  | [] => ρ
  | v :: vs => (wipeF ρ vs).set v .none
mutual
def bindT : Tg → D → Frm → Option Frm
  | .name i, d, ρ => some (ρ.set i (.val d))
  | .tup ts, .tup ds, ρ => bindTs ts ds ρ
  | .tup ts, .lst ds, ρ => none
  | .tup _, _, _ => none
def bindTs : List Tg → List D → Frm → Option Frm
  | [], [], ρ => some ρ
  | t :: ts, d :: ds, ρ => match bindT t d ρ with
    | some ρ' => bindTs ts ds ρ'
    | none => none
  | _, _, _ => none
end

/-- a comprehension's walk -/
def compL (bd : D → Option Frm) (cnd : Frm → Objs → Res Bool) (el : Frm → Objs → Res D) : List D → Objs → Res (List D)
  | [], o => .ok [] o
  | d :: ds, o => match bd d with
    | none => .stuck
    | some ρ => (cnd ρ o).bind fun b o1 => if b then (el ρ o1).bind fun x o2 => (compL bd cnd el ds o2).bind fun xs o3 => .ok (x :: xs) o3 else compL bd cnd el ds o1

def rangeD (a b : Int) : List D := (List.range (b - a).toNat).map fun i => .int (a + (i : Nat))
def rngOk (a : Int) : Bool := decide (-(2 ^ 62) ≤ a) && decide (a < 2 ^ 62)

section
variable (F : Str → List Slot → Objs → Res D) (C : Nat → Nat → IE → List D → List D → Objs → Res D) (G : Str → Option D) (isa : Str → Str → Bool)
mutual
def evE : IE → Frm → Objs → Res D
  | .non, _, o => .ok .non o
  | .bl b, _, o => .ok (.bl b) o
  | .int i, _, o => .ok (.int i) o
  | .str x, _, o => .ok (.str x) o
  | .var i, ρ, o => .ofO (getV ρ i) o
  | .bor i, ρ, o => .ofO (getB ρ i) o
  | .glob x, _, o => .ofO (globD G x) o
  | .tup es, ρ, o => (evEs es ρ o).bind fun ds o1 => if sz ds.length then .ok (.tup ds) o1 else .stuck
  | .lst es, ρ, o => (evEs es ρ o).bind fun ds o1 => if sz ds.length then .ok (.lst ds) o1 else .stuck
  | .dnew, _, o => .ok (.dct [] []) o
  | .bin op a b, ρ, o => (evE a ρ o).bind fun x o1 => (evE b ρ o1).bind fun y o2 => .ofO (binD op x y) o2
  | .neg a, ρ, o => (evE a ρ o).bind fun x o1 => .ofO (negD x) o1
  | .not a, ρ, o => (evE a ρ o).bind fun x o1 => match x with
    | .bl b => .ok (.bl (!b)) o1
    | _ => .stuck
  | .and a b, ρ, o => (evE a ρ o).bind fun x o1 => match x with
    | .bl true => evE b ρ o1
    | .bl false => .ok (.bl false) o1
    | _ => .stuck
  | .or a b, ρ, o => (evE a ρ o).bind fun x o1 => match x with
    | .bl true => .ok (.bl true) o1
    | .bl false => evE b ρ o1
    | _ => .stuck
  | .cmp op a b, ρ, o => (evE a ρ o).bind fun x o1 => (evE b ρ o1).bind fun y o2 => .ofO (cmpD op x y) o2
  | .chain op op' a b c, ρ, o => (evE a ρ o).bind fun x o1 => (evE b ρ o1).bind fun y o2 => match cmpD op x y with
    | some (.bl true) => (evE c ρ o2).bind fun z o3 => .ofO (cmpD op' y z) o3
    | some (.bl false) => .ok (.bl false) o2
    | _ => .stuck
  | .ite t a b, ρ, o => (evE t ρ o).bind fun x o1 => match x with
    | .bl true => evE a ρ o1
    | .bl false => evE b ρ o1
    | _ => .stuck
  | .idx a i, ρ, o => (evE a ρ o).bind fun x o1 => (evE i ρ o1).bind fun y o2 => match x with
    | .obj k => match o2[k]? with
      | some so => .ofO (getO so y) o2
      | none => .stuck
    | x => .ofO (idxD x y) o2
  | .slc a lo hi, ρ, o => (evE a ρ o).bind fun x o1 => (evEo lo ρ o1).bind fun l o2 => (evEo hi ρ o2).bind fun h o3 => .ofO (slcD x l h) o3
  | .call f args, ρ, o => (evAs args ρ o).bind fun ds o1 => F f ds o1
  | .callv i args, ρ, o => match ρ[i]? with
    | some (.clo np nl body cap) => (evEs args ρ o).bind fun ds o1 => C np nl body cap ds o1
    | _ => .stuck
  | .bif f args, ρ, o => (evEs args ρ o).bind fun ds o1 => .ofO (bifD f ds) o1
  | .isi a ty, ρ, o => (evE a ρ o).bind fun x o1 => .ofO ((isiD x ty).map .bl) o1
  | .isx i c, ρ, o => match ρ[i]? with
    | some (.exc c' _) => .ok (.bl (isa c' c)) o
    | _ => .stuck
  | .comp elt tg src cond own, ρ, o => (evSrc src ρ o).bind fun ds o1 =>
      ((compL (fun d => bindT tg d (wipeF ρ own)) (fun ρ' o' => evC cond ρ' o') (fun ρ' o' => evE elt ρ' o') ds o1).calm).bind fun xs o2 => if sz xs.length then .ok (.lst xs) o2 else .stuck
  | .rev a, ρ, o => (evE a ρ o).bind fun x o1 => match x with
    | .lst ds => .ok (.lst ds.reverse) o1
    | _ => .stuck
  | .gin neg a g, ρ, o => match G g with
    | some d => (evE a ρ o).bind fun x o1 => .ofO (ginD neg x d) o1
    | none => .stuck
  | .gidx g a, ρ, o => match G g with
    | some d => (evE a ρ o).bind fun x o1 => .ofO (gidxD x d) o1
    | none => .stuck
  | .gget g a b, ρ, o => match G g with
    | some d => (evE a ρ o).bind fun x o1 => (evE b ρ o1).bind fun y o2 => .ofO (ggetD x y d) o2
    | none => .stuck
def evEs : IEs → Frm → Objs → Res (List D)
  | .nil, _, o => .ok [] o
  | .cons e r, ρ, o => (evE e ρ o).bind fun d o1 => (evEs r ρ o1).bind fun ds o2 => .ok (d :: ds) o2
def evEo : IEo → Frm → Objs → Res (Option Int)
  | .none, _, o => .ok none o
  | .some e, ρ, o => (evE e ρ o).bind fun d o1 => match d with
    | .int i => .ok (some i) o1
    | _ => .stuck
def evC : IEo → Frm → Objs → Res Bool
  | .none, _, o => .ok true o
  | .some e, ρ, o => (evE e ρ o).bind fun d o1 => match d with
    | .bl b => .ok b o1
    | _ => .stuck
def evAs : IAs → Frm → Objs → Res (List Slot)
  | .nil, _, o => .ok [] o
  | .val e r, ρ, o => (evE e ρ o).bind fun d o1 => (evAs r ρ o1).bind fun ds o2 => .ok (.val d :: ds) o2
  | .lam np nl body cap r, ρ, o => match cap.mapM (getV ρ) with
    | some cs => (evAs r ρ o).bind fun ds o2 => .ok (.clo np nl body cs :: ds) o2
    | none => .stuck
def evSrc : ISrc → Frm → Objs → Res (List D)
  | .seq e, ρ, o => (evE e ρ o).bind fun d o1 => match d with
    | .tup ds => .ok ds o1
    | .lst ds => .ok ds o1
    | .kt ds => .ok ds o1
    | _ => .stuck
  | .range1 a, ρ, o => (evE a ρ o).bind fun d o1 => match d with
    | .int j => if rngOk j then .ok (rangeD 0 j) o1 else .stuck
    | _ => .stuck
  | .range2 a b, ρ, o => (evE a ρ o).bind fun d o1 => (evE b ρ o1).bind fun e o2 => match d, e with
    | .int i, .int j => if rngOk i && rngOk j then .ok (rangeD i j) o2 else .stuck
    | _, _ => .stuck
  | .zip a b, ρ, o => (evE a ρ o).bind fun d o1 => (evE b ρ o1).bind fun e o2 => match d, e with
    | .lst xs, .lst ys => .ok ((xs.zip ys).map fun p => .tup [p.1, p.2]) o2
    | .tup xs, .tup ys => .ok ((xs.zip ys).map fun p => .tup [p.1, p.2]) o2
    | _, _ => .stuck
  | .enum a, ρ, o => (evE a ρ o).bind fun d o1 => match d with
    | .lst xs => .ok ((List.range xs.length).zipWith (fun (i : Nat) x => .tup [.int i, x]) xs) o1
    | .tup xs => .ok ((List.range xs.length).zipWith (fun (i : Nat) x => .tup [.int i, x]) xs) o1
    | _ => .stuck
end
end
/-! ### statements -/
/-- behind an except suite -/
def noX : Slot → Slot
  | .exc _ _ => .none
  | s => s
def clrX (ρ : Frm) (i : Nat) : Frm := (ρ.map noX).set i .none
/-- a list of the frame's own, or a value -/
def ownS : D → Slot
  | .lst ds => .own (.lst ds)
  | d => .val d
/-- a while, at most n turns -/
def loopW (t : Frm → Objs → Res Bool) (b : Frm → Objs → SRes) : Nat → Frm → Objs → SRes
  | 0, _, _ => .stuck
  | n + 1, ρ, o => (t ρ o).st ρ fun c o1 => if c then match b ρ o1 with
      | .nx ρ' o' => loopW t b n ρ' o'
      | .cnt ρ' o' => loopW t b n ρ' o'
      | .brk ρ' o' => .nx ρ' o'
      | r => r
    else .nx ρ o1
def loopF (bd : D → Frm → Option Frm) (b : Frm → Objs → SRes) : List D → Frm → Objs → SRes
  | [], ρ, o => .nx ρ o
  | d :: ds, ρ, o => match bd d ρ with
    | none => .stuck
    | some ρ1 => match b ρ1 o with
      | .nx ρ' o' => loopF bd b ds ρ' o'
      | .cnt ρ' o' => loopF bd b ds ρ' o'
      | .brk ρ' o' => .nx ρ' o'
      | r => r
def frzF (ρ : Frm) : List Nat → Frm
  | [] => ρ
  | i :: is => match ρ[i]? with
    | some (.own d) => frzF (ρ.set i (.val d)) is
    | _ => frzF ρ is
def slotF (f : Bool) (d : D) : Slot := if f then ownS d else .val d
def setsO (ρ : Frm) : List Nat → List Bool → List D → Option Frm
  | [], [], [] => some ρ
  | i :: is, f :: fl, d :: ds => setsO (ρ.set i (slotF f d)) is fl ds
  | _, _, _ => none
def setsF (ρ : Frm) : List Nat → List D → Option Frm
  | [], [] => some ρ
  | i :: is, d :: ds => setsF (ρ.set i (.val d)) is ds
  | _, _ => none
def augD : Operator → D → D → Option D
  | .Add, .int i, .int j => some (.int (i + j))
  | .Sub, .int i, .int j => some (.int (i - j))
  | _, _, _ => none
section
variable (F : Str → List Slot → Objs → Res D) (C : Nat → Nat → IE → List D → List D → Objs → Res D) (G : Str → Option D) (isa : Str → Str → Bool) (L : Nat)
def evT (e : IE) (ρ : Frm) (o : Objs) : Res Bool := (evE F C G isa e ρ o).bind fun d o1 => match d with
  | .bl b => .ok b o1
  | _ => .stuck
mutual
def exS : IS → Frm → Objs → SRes
  | .set t e, ρ, o => (evE F C G isa e ρ o).st ρ fun d o1 => match bindT t d ρ with
    | some ρ' => .nx ρ' o1
    | none => .stuck
  | .setOwn i e, ρ, o => (evE F C G isa e ρ o).st ρ fun d o1 => .nx (ρ.set i (ownS d)) o1
  | .par is es, ρ, o => (evEs F C G isa es ρ o).st ρ fun ds o1 => match setsF ρ is ds with
    | some ρ' => .nx ρ' o1
    | none => .stuck
  | .parO is fl es, ρ, o => (evEs F C G isa es ρ o).st ρ fun ds o1 => match setsO ρ is fl ds with
    | some ρ' => .nx ρ' o1
    | none => .stuck
  | .expr e, ρ, o => (evE F C G isa e ρ o).st ρ fun _ o1 => .nx ρ o1
  | .append i e, ρ, o => match ρ[i]? with
    | some (.own (.lst ds)) => (evE F C G isa e ρ o).st ρ fun d o1 => if decide (ds.length < sizeLine) then .nx (ρ.set i (.own (.lst (ds ++ [d])))) o1 else .stuck
    | _ => .stuck
  | .extend i e, ρ, o => match ρ[i]? with
    | some (.own (.lst ds)) => (evE F C G isa e ρ o).st ρ fun d o1 => match d with
      | .lst es => if sz (ds.length + es.length) then .nx (ρ.set i (.own (.lst (ds ++ es)))) o1 else .stuck
      | _ => .stuck
    | _ => .stuck
  | .popT i t, ρ, o => match ρ[i]? with
    | some (.own (.lst ds)) => match ds.getLast? with
      | some d => match bindT t d (ρ.set i (.own (.lst ds.dropLast))) with
        | some ρ' => .nx ρ' o
        | none => .stuck
      | none => .stuck
    | _ => .stuck
  | .popT2 i e t, ρ, o => match ρ[i]? with
    | some (.own (.lst ds)) => match ds.getLast? with
      | some d => (evE F C G isa e (ρ.set i (.own (.lst ds.dropLast))) o).st (ρ.set i (.own (.lst ds.dropLast))) fun y o1 => match bindT t (.tup [d, y]) (ρ.set i (.own (.lst ds.dropLast))) with
        | some ρ' => .nx ρ' o1
        | none => .stuck
      | none => .stuck
    | _ => .stuck
  | .bad, _, _ => .stuck
  | .newDic i tk, ρ, o => .nx (ρ.set i (.val (.obj o.length))) (o ++ [if tk then .dT [] else .dK []])
  | .setIdx a k e, ρ, o => match a with
    | .bor i => match ρ[i]? with
      | some (.own (.lst ds)) => (evE F C G isa e ρ o).st ρ fun d o1 => (evE F C G isa k ρ o1).st ρ fun kd o2 => match kd with
        | .int j => match putD ds j d with
          | some ds' => .nx (ρ.set i (.own (.lst ds'))) o2
          | none => .stuck
        | _ => .stuck
      | some (.val (.obj n)) => (evE F C G isa e ρ o).st ρ fun d o1 => (evE F C G isa k ρ o1).st ρ fun kd o2 => match o2[n]? with
        | some so => match putO so kd d with
          | some so' => .nx ρ (o2.set n so')
          | none => .stuck
        | none => .stuck
      | _ => .stuck
    | _ => .stuck
  | .aug i op e, ρ, o => match getV ρ i with
    | some x => (evE F C G isa e ρ o).st ρ fun y o1 => match augD op x y with
      | some d => .nx (ρ.set i (.val d)) o1
      | none => .stuck
    | none => .stuck
  | .ife t a b, ρ, o => (evT F C G isa t ρ o).st ρ fun c o1 => if c then exSs a ρ o1 else exSs b ρ o1
  | .whl t b, ρ, o => loopW (fun ρ o => evT F C G isa t ρ o) (fun ρ o => exSs b ρ o) L ρ o
  | .for t src b, ρ, o => (evSrc F C G isa src ρ o).st ρ fun ds o1 => loopF (fun d ρ => bindT t d ρ) (fun ρ o => exSs b ρ o) ds ρ o1
  | .ret e, ρ, o => (evE F C G isa e ρ o).st ρ fun d o1 => .ret d o1
  | .retN, _, o => .ret .non o
  | .retObj es, ρ, o => (evEs F C G isa es ρ o).st ρ fun ds o1 => if sz ds.length then .ret (.obj o1.length) (o1 ++ [.lst ds]) else .stuck
  | .raise c .none, ρ, o => .err c [] ρ o
  | .raise c (.some e), ρ, o => (evE F C G isa e ρ o).st ρ fun d o1 => .err c [d] ρ o1
  | .pass, ρ, o => .nx ρ o
  | .frz is, ρ, o => .nx (frzF ρ is) o
  | .tryAs b c i h, ρ, o => match exSs b ρ o with
    | .err c' xs ρ' o' => if isa c' c then match xs with
        | [] => match exSs h (ρ'.set i (.exc c' [])) o' with
          | .nx ρ2 o2 => .nx (clrX ρ2 i) o2
          | .brk ρ2 o2 => .brk (clrX ρ2 i) o2
          | .cnt ρ2 o2 => .cnt (clrX ρ2 i) o2
          | .ret d o2 => .ret d o2
          | _ => .stuck
        | _ => .stuck
      else .err c' xs ρ' o'
    | r => r
def exSs : ISs → Frm → Objs → SRes
  | .nil, ρ, o => .nx ρ o
  | .cons s r, ρ, o => (exS s ρ o).seq fun ρ' o' => exSs r ρ' o'
end
end

/-! ### defs -/
structure FnIR where
  np : Nat
  nl : Nat
  body : ISs
structure Tab where
  fn : Str → Option FnIR
  con : Str → Option D
  isa : Str → Str → Bool
def frame (vs : List Slot) (n : Nat) : Frm := vs ++ List.replicate (n - vs.length) .none
def SRes.out (r : SRes) : Res D := match r with
  | .nx _ o => .ok .non o
  | .ret d o => .ok d o
  | .err c xs _ o => .err c xs o
  | _ => .stuck
abbrev FnT : Type := Str → List Slot → Objs → Res D
abbrev CloT : Type := Nat → Nat → IE → List D → List D → Objs → Res D
/-- the calls at a depth -/
def calls (T : Tab) (L : Nat) : Nat → FnT × CloT
  | 0 => (fun _ _ _ => .stuck, fun _ _ _ _ _ _ => .stuck)
  | k + 1 =>
    (fun f ds o => match T.fn f with
      | some ir => if ds.length = ir.np then (exSs (calls T L k).1 (calls T L k).2 T.con T.isa L ir.body (frame ds ir.nl) o).out.trunc o.length else .stuck
      | none => .stuck,
     fun np nl body cap ds o => if ds.length = np then evE (calls T L k).1 (calls T L k).2 T.con T.isa body (frame (ds.map .val ++ cap.map .val) nl) o else .stuck)
abbrev callF (T : Tab) (L k : Nat) : FnT := (calls T L k).1
abbrev callC (T : Tab) (L k : Nat) : CloT := (calls T L k).2
example (F C G isa ρ o) : evE F C G isa (.and (.bl true) (.bl false)) ρ o = .ok (.bl false) o := rfl
end Ev

/-! EvB: from the program's tree to the code tree. -/
namespace Ev
open PySem

/-! ### names -/
structure Scp where
  N : List Str
  sc : Scope
  muts : List Nat
  /-- lambdas may be made; the caught exception may be asked -/
  lam : Bool
  isx : Bool
  objs : Bool
  /-- within an except suite -/
  hot : Bool
  /-- the defs, the classes of exceptions -/
  defs : List Str
  clss : List Str
  /-- dicts of the module; names of dicts whose keys are tuples -/
  dics : List Str
  tks : List Str
def ixOf (N : List Str) (x : Str) : Option Nat := N.findIdx? fun y => decide (y = x)
def isVis (sc : Scope) (x : Str) : Bool := match sc.names.lookup x with
  | some .local => true
  | some .cell => true
  | some .free => true
  | _ => false
def isLoc (sc : Scope) (x : Str) : Bool := match sc.names.lookup x with
  | some .local => true
  | some .cell => true
  | _ => false
def isGl (sc : Scope) (x : Str) : Bool := decide (sc.names.lookup x = some .globalImplicit)
def okName (x : Str) : Bool := !(x == ("__debug__" : Str)) && !(x == ("__classdict__" : Str)) && !(x == ("__name__" : Str))
def cSlot (Γ : Scp) (x : Str) : Option Nat := if isVis Γ.sc x && okName x then ixOf Γ.N x else none
def cStore (Γ : Scp) (x : Str) : Option Nat := if isLoc Γ.sc x && okName x then ixOf Γ.N x else none
def builtins : List Str := ["len", "all", "any", "sum", "tuple", "list", "abs", "max", "min", "int", "bool", "sorted", "isinstance", "range", "zip", "enumerate", "str", "repr", "dict", "set", "divmod", "ord", "ValueError"]
def bifOf (x : Str) (n : Nat) : Option Bif :=
  if x = "len" ∧ n = 1 then some .len else
  if x = "all" ∧ n = 1 then some .all else
  if x = "any" ∧ n = 1 then some .any else
  if x = "sum" ∧ n = 1 then some .sum else
  if x = "tuple" ∧ n = 1 then some .tuple else
  if x = "list" ∧ n = 1 then some .list else
  if x = "abs" ∧ n = 1 then some .abs else
  if x = "max" ∧ n = 2 then some .max2 else
  if x = "min" ∧ n = 2 then some .min2 else
  if x = "max" ∧ n = 1 then some .max1 else
  if x = "min" ∧ n = 1 then some .min1 else
  if x = "int" ∧ n = 1 then some .int else
  if x = "bool" ∧ n = 1 then some .bool else
  if x = "sorted" ∧ n = 1 then some .sorted else none
/-- it may run within an except suite -/
def bifHot : Bif → Bool
  | .len | .abs | .int | .bool | .list | .tuple => true
  | _ => false
mutual
def tgS : Tg → List Nat
  | .name i => [i]
  | .tup ts => tgSs ts
def tgSs : List Tg → List Nat
  | [] => []
  | t :: r => tgS t ++ tgSs r
end
def tyOf (x : Str) : Option String :=
  if x = "int" then some "int" else if x = "bool" then some "bool" else if x = "str" then some "str" else if x = "tuple" then some "tuple" else if x = "list" then some "list" else if x = "dict" then some "dict" else none

/-! ### the block of a comprehension -/
def relNames (scope sc : Scope) : Scope := L2.relS scope sc
/-- its own names with their places -/
def ownOf (N : List Str) (scope : Scope) : List (Str × Nat) := scope.names.filterMap fun p => match p.2 with
  | .local => (ixOf N p.1).map fun i => (p.1, i)
  | .cell => (ixOf N p.1).map fun i => (p.1, i)
  | _ => none

/-- a lambda is within -/
def kidsOpt : Option Expr → List Expr
  | none => []
  | some e => [e]
/-! ### expressions -/
def cOpts {α β : Type} (f : α → Option β) : List α → Option (List β)
  | [] => some []
  | a :: r => match f a, cOpts f r with
    | some b, some bs => some (b :: bs)
    | _, _ => none
def cEs (f : Expr → Option IE) : List Expr → Option IEs
  | [] => some .nil
  | e :: r => match f e, cEs f r with
    | some a, some as => some (.cons a as)
    | _, _ => none
def cBool (k : IE → IE → IE) (f : Expr → Option IE) : List Expr → Option IE
  | [] => none
  | [e] => f e
  | e :: r => match f e, cBool k f r with
    | some a, some b => some (k a b)
    | _, _ => none
/-- an operand that is only read -/
def cB (Γ : Scp) (f : Expr → Option IE) : Expr → Option IE
  | .Name x pos => match cSlot Γ x with
    | some i => some (.bor i)
    | none => f (.Name x pos)
  | e => f e
def cBb (br : Bool) (Γ : Scp) (f : Expr → Option IE) (e : Expr) : Option IE := if br then cB Γ f e else f e
mutual
def cTg (Γ : Scp) : Nat → Expr → Option Tg
  | 0, _ => none
  | n + 1, .Name x _ => (cStore Γ x).map .name
  | n + 1, .Tuple es _ _ => (cTgs Γ n es).map .tup
  | _, _ => none
def cTgs (Γ : Scp) : Nat → List Expr → Option (List Tg)
  | 0, _ => none
  | n + 1, [] => some []
  | n + 1, e :: r => match cTg Γ n e, cTgs Γ n r with
    | some a, some as => some (a :: as)
    | _, _ => none
end
def cOpt (f : Expr → Option IE) : Option Expr → Option IEo
  | none => some .none
  | some e => (f e).map .some
def cSrc (Γ : Scp) (br : Bool) (f : Expr → Option IE) (tup : Bool) : Expr → Option ISrc
  | .Call (.Name g p) args [] pos =>
    if isGl Γ.sc g && okName g then
      if g = "range" then match args with
        | [a] => (f a).map .range1
        | [a, b] => match f a, f b with
          | some x, some y => some (.range2 x y)
          | _, _ => none
        | _ => none
      else if g = "zip" then match args, tup with
        | [a, b], true => match cBb br Γ f a, cBb br Γ f b with
          | some x, some y => some (.zip x y)
          | _, _ => none
        | _, _ => none
      else if g = "enumerate" then match args, tup with
        | [a], true => (cBb br Γ f a).map .enum
        | _, _ => none
      else (f (.Call (.Name g p) args [] pos)).map .seq
    else (f (.Call (.Name g p) args [] pos)).map .seq
  | e => (cBb br Γ f e).map .seq
def isNameE : Expr → Bool
  | .Name _ _ => true
  | _ => false
def isTupE : Expr → Bool
  | .Tuple _ _ _ => true
  | _ => false
def lamParams (a : Arguments) : Option (List Str) := match a with
  | ⟨[], args, none, [], [], none, []⟩ => some (args.map (·.arg))
  | _ => none
def freeOf (scope : Scope) : List Str := scope.names.filterMap fun p => match p.2 with
  | .free => some p.1
  | _ => none
def ownNames (scope : Scope) : List Str := scope.names.filterMap fun p => match p.2 with
  | .local => if p.1 = ".0" then none else some p.1
  | .cell => some p.1
  | _ => none
/-- the comprehensions' own names within -/
def kids : Expr → List Expr
  | .BoolOp _ vs _ => vs
  | .BinOp a _ b _ => [a, b]
  | .UnaryOp _ a _ => [a]
  | .IfExp a b c _ => [a, b, c]
  | .Compare a _ bs _ => a :: bs
  | .Call f as _ _ => f :: as
  | .Attribute a _ _ => [a]
  | .Subscript a b _ => [a, b]
  | .Slice a b c _ => kidsOpt a ++ (kidsOpt b ++ kidsOpt c)
  | .List es _ => es
  | .Tuple es _ _ => es
  | .Dict ks vs _ => (ks.flatMap kidsOpt) ++ vs
  | .ListComp e gs _ _ => e :: gs.flatMap fun g => g.target :: g.iter :: g.ifs
  | .DictComp k v gs _ _ => k :: v :: gs.flatMap fun g => g.target :: g.iter :: g.ifs
  | _ => []
def compNames : Nat → Expr → List Str
  | 0, _ => []
  | n + 1, e => (match e with
    | .ListComp _ _ sc _ => ownNames sc
    | .DictComp _ _ _ sc _ => ownNames sc
    | _ => []) ++ (kids e).flatMap (compNames n)
def skids : Stmt → List Expr × List Stmt
  | .Return v _ => (kidsOpt v, [])
  | .Assign ts v _ => (ts ++ [v], [])
  | .AugAssign t _ v _ => ([t, v], [])
  | .For t i b o _ => ([t, i], b ++ o)
  | .While t b o _ => ([t], b ++ o)
  | .If t b o _ => ([t], b ++ o)
  | .Raise e _ _ => (kidsOpt e, [])
  | .Try b hs _ _ _ => ([], b ++ hs.flatMap fun h => match h with | .ExceptHandler _ _ s _ => s)
  | .Expr v _ => ([v], [])
  | _ => ([], [])
def stmtComps : Nat → Stmt → List Str
  | 0, _ => []
  | n + 1, s => ((skids s).1.flatMap (compNames 30)) ++ (skids s).2.flatMap (stmtComps n)

def lamE : Nat → Expr → Bool
  | 0, _ => false
  | n + 1, e => (match e with | .Lambda .. => true | _ => false) || (kids e).any (lamE n)
def lamS : Nat → Stmt → Bool
  | 0, _ => false
  | n + 1, s => (skids s).1.any (lamE 30) || (skids s).2.any (lamS n)
def cIfs (f : Expr → Option IE) : List Expr → Option IEo
  | [] => some .none
  | [c] => (f c).map .some
  | _ => none
/-- the arguments of a call: lambdas among them -/
def cAs (Γ : Scp) (f : Expr → Option IE) (g : Scp → Expr → Option IE) : List Expr → Option IAs
  | [] => some .nil
  | .Lambda a body scope _ :: r => match Γ.lam, lamParams a, cAs Γ f g r with
    | true, some ps, some r' =>
      let fr := freeOf scope
      let N' := (ps ++ (fr ++ compNames 30 body)).eraseDups
      if !(NdefX.nscB N' ps fr scope && NdefX.ndefB Γ.sc scope fr) then none else
      match g { N := N', sc := scope, muts := [], lam := false, isx := false, objs := false, hot := false, defs := Γ.defs, clss := Γ.clss, dics := Γ.dics, tks := Γ.tks } body, cOpts (fun x => cSlot Γ x) fr with
      | some b, some cap => some (.lam ps.length N'.length b cap r')
      | _, _ => none
    | _, _, _ => none
  | e :: r => match f e, cAs Γ f g r with
    | some a, some as => some (.val a as)
    | _, _ => none
def cO (f : Scp → Expr → Option IE) (Γ : Scp) (e : Expr) : Option IE := match e with
    | .Constant .none _ _ => some .non
    | .Constant (.bool b) _ _ => some (.bl b)
    | .Constant (.int i) _ _ => some (.int i)
    | .Constant (.str x) _ _ => some (.str x)
    | .Name x _ => match cSlot Γ x with
      | some i => some (.var i)
      | none => if isGl Γ.sc x && okName x then some (.glob x) else none
    | .BoolOp .And vs _ => cBool .and (f Γ) vs
    | .BoolOp .Or vs _ => cBool .or (f Γ) vs
    | .BinOp a op b _ => match cB Γ (f Γ) a, cB Γ (f Γ) b with
      | some x, some y => some (.bin op x y)
      | _, _ => none
    | .UnaryOp .Not a _ => (f Γ a).map .not
    | .UnaryOp .USub a _ => (f Γ a).map .neg
    | .IfExp t a b _ => match f Γ t, f Γ a, f Γ b with
      | some x, some y, some z => some (.ite x y z)
      | _, _, _ => none
    | .Compare a [op] [b] _ => match cB Γ (f Γ) a, cB Γ (f Γ) b with
      | some x, some y => some (.cmp op x y)
      | _, _ => none
    | .Compare a [op, op'] [b, c] _ => match f Γ a, f Γ b, f Γ c with
      | some x, some y, some z => some (.chain op op' x y z)
      | _, _, _ => none
    | .Tuple es _ _ => (cEs (f Γ) es).map .tup
    | .List es _ => (cEs (f Γ) es).map .lst
    | .Dict [] [] _ => some .dnew
    | .Subscript a (.Slice lo hi none _) _ => match cB Γ (f Γ) a, cOpt (f Γ) lo, cOpt (f Γ) hi with
      | some x, some l, some h => some (.slc x l h)
      | _, _, _ => none
    | .Subscript _ (.Slice _ _ _ _) _ => none
    | .Subscript a i _ => match cB Γ (f Γ) a, f Γ i with
      | some x, some y => some (.idx x y)
      | _, _ => none
    | .Call (.Name fn _) args [] _ =>
      match cSlot Γ fn with
      | some i => if Γ.hot then none else (cEs (f Γ) args).map (.callv i)
      | none => if !(isGl Γ.sc fn && okName fn) then none else
        if fn = "isinstance" then match args with
          | [.Name x _, .Name c _] => match cSlot Γ x, isGl Γ.sc c && okName c with
            | some i, true => match tyOf c with
              | some ty => some (.isi (.bor i) ty)
              | none => if Γ.isx && (Γ.clss.contains c || decide (c = "ValueError")) then some (.isx i c) else none
            | _, _ => none
          | [a, .Name c _] => match f Γ a, isGl Γ.sc c && okName c, tyOf c with
            | some x, true, some ty => some (.isi x ty)
            | _, _, _ => none
          | _ => none
        else match bifOf fn args.length with
          | some b => if Γ.hot && !bifHot b then none else (cEs (cB Γ (f Γ)) args).map (.bif b)
          | none => if Γ.hot || !Γ.defs.contains fn then none else (cAs Γ (f Γ) f args).map (.call fn)
    | .ListComp elt [⟨tg, iter, ifs, 0⟩] scope _ =>
      let Γ' : Scp := { Γ with sc := L2.relS scope Γ.sc, lam := false, isx := false, muts := [] }
      if (!Γ.hot || isNameE iter) && L2.blkC Γ.N Γ.sc scope (ownOf Γ.N scope) then
        match f Γ' elt, cTg Γ' 10 tg, cSrc Γ true (f Γ) (isTupE tg) iter, cIfs (f Γ') ifs with
        | some x, some t, some s, some c => if (tgS t).all ((ownOf Γ.N scope).map (·.2)).contains then some (.comp x t s c ((ownOf Γ.N scope).map (·.2))) else none
        | _, _, _, _ => none
      else none
    | _ => none
/-- dicts of the module; a[::-1] -/
def isDicN (Γ : Scp) (g : Str) : Bool := Γ.dics.contains g && (isGl Γ.sc g && okName g)
def cN (Γ : Scp) (f : Expr → Option IE) (e : Expr) : Option IE := match e with
  | .Subscript a (.Slice none none (some (.UnaryOp .USub (.Constant (.int 1) _ _) _)) _) _ => (cB Γ f a).map .rev
  | .Compare a [.In] [.Name g _] _ => if isDicN Γ g then (f a).map fun x => .gin false x g else none
  | .Compare a [.NotIn] [.Name g _] _ => if isDicN Γ g then (f a).map fun x => .gin true x g else none
  | .Subscript (.Name g _) i _ => if isDicN Γ g then (match i with
    | .Slice .. => none
    | i => (f i).map (.gidx g)) else none
  | .Call (.Attribute (.Name g _) m apos) [a, b] [] cpos => if isDicN Γ g && (decide (m = "get") && ((apos.endLine == cpos.line) && !Γ.hot)) then match f a, f b with
      | some x, some y => some (.gget g x y)
      | _, _ => none
    else none
  | _ => none
def cE : Nat → Scp → Expr → Option IE
  | 0, _, _ => none
  | n + 1, Γ, e => match cN Γ (cE n Γ) e with
    | some a => some a
    | none => cO (cE n) Γ e
theorem cE_cases {n : Nat} {Γ : Scp} {e : Expr} {a : IE} (h : cE (n + 1) Γ e = some a) : cN Γ (cE n Γ) e = some a ∨ cO (cE n) Γ e = some a := by
  have h : (match cN Γ (cE n Γ) e with | some a => some a | none => cO (cE n) Γ e) = some a := h
  split at h
  · rename_i q
    rw [q, h]
    exact .inl rfl
  · exact .inr h
end Ev

/-! EvC: statements, defs, the program. -/
namespace Ev
open PySem

/-! ### the slots that are read as values -/
mutual
def vE : IE → List Nat
  | .var i => [i]
  | .tup es | .lst es => vEs es
  | .bin _ a b | .cmp _ a b | .and a b | .or a b | .idx a b => vE a ++ vE b
  | .neg a | .not a | .isi a _ => vE a
  | .chain _ _ a b c | .ite a b c => vE a ++ (vE b ++ vE c)
  | .slc a lo hi => vE a ++ (vEo lo ++ vEo hi)
  | .call _ as => vAs as
  | .callv i es => i :: vEs es
  | .bif _ es => vEs es
  | .comp e _ s c _ => vE e ++ (vSrc s ++ vEo c)
  | .rev a => vE a
  | .gin _ a _ => vE a
  | .gidx _ a => vE a
  | .gget _ a b => vE a ++ vE b
  | _ => []
def vEs : IEs → List Nat
  | .nil => []
  | .cons e r => vE e ++ vEs r
def vEo : IEo → List Nat
  | .none => []
  | .some e => vE e
def vAs : IAs → List Nat
  | .nil => []
  | .val e r => vE e ++ vAs r
  | .lam _ _ _ cap r => cap ++ vAs r
def vSrc : ISrc → List Nat
  | .seq e => vE e
  | .range1 a => vE a
  | .range2 a b => vE a ++ vE b
  | .zip a b => vE a ++ vE b
  | .enum a => vE a
end
/-- an expression that makes a new list -/
def isNew : IE → Bool
  | .lst _ => true
  | .comp _ _ _ _ _ => true
  | .bif .list _ => true
  | .bif .sorted _ => true
  | .bin .Add _ _ => true
  | .bin .Mult _ _ => true
  | .slc _ _ _ => true
  | .rev _ => true
  | _ => false
def frzOf (Γ : Scp) (vs : List Nat) : List IS :=
  let fs := (vs.filter fun i => Γ.muts.contains i).eraseDups
  if fs.isEmpty then [] else [.frz fs]
def folded : Nat → Expr → Bool := PySem.foldedForSure
/-- a, b = x, y: the plain names that are stored from the right -/
def parN (Γ : Scp) (ts vs : List Expr) : Option (Option (List Str)) :=
  if !(ts.length == 2 || ts.length == 3) || vs.length != ts.length then some none else
  if (vs.any fun | .Starred .. => true | _ => false) = true then none else
  let names := ts.filterMap fun
    | .Name id pos => if Γ.sc.names.lookup id == some .local && pos.line == (ts.head?.map (·.pos.line)).getD 0 then some id else none
    | _ => none
  if (names.length != ts.length || names.eraseDups.length != names.length) = true then some none else
  if vs.all (foldedForSure 8) = true then some none else
  if vs.all (constantsAlone 8) = true then none else
  some (some names)
def parIs (Γ : Scp) : List Expr → Option (List Nat)
  | [.Name x _, .Name y _] => match cStore Γ x, cStore Γ y with
    | some i, some j => if i == j then none else some [i, j]
    | _, _ => none
  | [.Name x _, .Name y _, .Name z _] => match cStore Γ x, cStore Γ y, cStore Γ z with
    | some i, some j, some l => if i == j || (i == l || j == l) then none else some [i, j, l]
    | _, _, _ => none
  | _ => none
/-- a, b = x, y: new lists stay the frame's own -/
def parS (Γ : Scp) (is : List Nat) (es : IEs) : IS := match is, es with
  | [i, j], .cons e1 (.cons e2 .nil) => if (Γ.muts.contains i && isNew e1) || (Γ.muts.contains j && isNew e2) then .parO [i, j] [Γ.muts.contains i && isNew e1, Γ.muts.contains j && isNew e2] (.cons e1 (.cons e2 .nil)) else .par [i, j] (.cons e1 (.cons e2 .nil))
  | is, es => .par is es
def isComp : Expr → Bool
  | .ListComp .. => true
  | .SetComp .. => true
  | .DictComp .. => true
  | _ => false
/-- name = [..]: its store is exchanged with the block's end -/
def exch (Γ : Scp) (scope : Scope) (x : Str) (py pos : Pos) : Bool :=
  decide (Γ.sc.names.lookup x = some .local) && ((py.line == pos.line) && !(scope.names.any fun p => p.1 == x && (p.2 == .local || p.2 == .cell)))

def seqS : List IS → ISs
  | [] => .nil
  | s :: r => .cons s (seqS r)
def cSs (f : Stmt → Option (List IS)) : List Stmt → Option (List IS)
  | [] => some []
  | s :: r => match f s, cSs f r with
    | some a, some b => some (a ++ b)
    | _, _ => some [.bad]
/-- x.pop() -/
def isPop : Expr → Option Str
  | .Call (.Attribute (.Name x _) m apos) [] [] cpos => if m = "pop" && (apos.endLine == cpos.line) then some x else none
  | _ => none
def cS : Nat → Scp → Stmt → Option (List IS)
  | 0, _, _ => none
  | n + 1, Γ, s => match s with
    | .Pass _ => some [.pass]
    | .Expr (.Constant (.str _) _ _) _ => some [.pass]
    | .Expr (.Call (.Attribute (.Name x _) m apos) [a] [] cpos) _ =>
      if m = "append" && (apos.endLine == cpos.line) then match cSlot Γ x, cE 40 Γ a with
        | some i, some e => some (frzOf Γ (vE e) ++ [.append i e])
        | _, _ => none
      else if m = "extend" && ((apos.endLine == cpos.line) && !Γ.hot) then match cSlot Γ x, cE 40 Γ a with
        | some i, some e => if isNew e then some (frzOf Γ (vE e) ++ [.extend i e]) else none
        | _, _ => none
      else none
    | .Expr e _ => if isComp e then none else (cE 40 Γ e).map fun a => frzOf Γ (vE a) ++ [.expr a]
    | .Return none _ => some [.retN]
    | .Return (some e) _ =>
      match Γ.objs, e with
      | true, .List es _ => (cEs (cE 40 Γ) es).map fun a => [.retObj a]
      | _, e => (cE 40 Γ e).map fun a => frzOf Γ (vE a) ++ [.ret a]
    | .Assign [.Name y py] (.Call (.Attribute (.Name x px) m apos) [] [] cpos) _ => if m = "pop" && ((apos.endLine == cpos.line) && !Γ.hot) then match cSlot Γ x, cStore Γ y with
        | some i, some j => if i == j then none else some [.popT i (.name j)]
        | _, _ => none
      else none
    | .Assign [.Tuple ts k tp] (.Call (.Attribute (.Name x px) m apos) [] [] cpos) _ => if m = "pop" && ((apos.endLine == cpos.line) && !Γ.hot) then match cSlot Γ x, cTg Γ 10 (.Tuple ts k tp) with
        | some i, some t => if (tgS t).contains i then none else some [.popT i t]
        | _, _ => none
      else none
    | .Assign [.Tuple ts k tp] (.Tuple [.Call (.Attribute (.Name x px) m apos) [] [] cpos, v] k2 vp) _ =>
      match parN Γ ts [.Call (.Attribute (.Name x px) m apos) [] [] cpos, v] with
      | some none => if m = "pop" && ((apos.endLine == cpos.line) && !Γ.hot) then match cSlot Γ x, cE 40 Γ v, cTg Γ 10 (.Tuple ts k tp) with
          | some i, some e, some t => if (tgS t).contains i then none else some (frzOf Γ (vE e) ++ [.popT2 i e t])
          | _, _, _ => none
        else none
      | _ => none
    | .Assign [.Name x py] (.Dict [] [] dp) _ => match cStore Γ x with
      | some i => if Γ.muts.contains i then some [.newDic i (Γ.tks.contains x)] else some [.set (.name i) .dnew]
      | none => none
    | .Assign [.Name x py] v pos => match cStore Γ x, cE 40 Γ v with
      | some i, some e => some (frzOf Γ (vE e) ++ [if Γ.muts.contains i && isNew e then .setOwn i e else .set (.name i) e])
      | _, _ => none
    | .Assign [.Tuple ts k tp] v pos => match v with
      | .Tuple vs _ _ => match parN Γ ts vs with
        | none => none
        | some (some ns) => match parIs Γ ts, cEs (cE 40 Γ) vs with
          | some is, some es => if Γ.hot then none else some (frzOf Γ (vEs es) ++ [parS Γ is es])
          | _, _ => none
        | some none => if Γ.hot then none else match cTg Γ 10 (.Tuple ts k tp), cE 40 Γ v with
          | some t, some e => some (frzOf Γ (vE e) ++ [.set t e])
          | _, _ => none
      | v => if isComp v || Γ.hot then none else match cTg Γ 10 (.Tuple ts k tp), cE 40 Γ v with
        | some t, some e => some (frzOf Γ (vE e) ++ [.set t e])
        | _, _ => none
    | .Assign [.Subscript (.Name x _) i _] v _ => if isComp v then none else match i with
      | .Slice .. => none
      | i => match cSlot Γ x, cE 40 Γ i, cE 40 Γ v with
        | some j, some k, some e => some (frzOf Γ (vE k ++ vE e) ++ [.setIdx (.bor j) k e])
        | _, _, _ => none
    | .AugAssign (.Name x _) op v _ => if !(decide (op = .Add) || decide (op = .Sub)) then none else match cStore Γ x, cE 40 Γ v with
      | some i, some e => some (frzOf Γ (vE e) ++ [.aug i op e])
      | _, _ => none
    | .If t a b _ => match cE 40 Γ t, cSs (cS n Γ) a, cSs (cS n Γ) b with
      | some x, some y, some z => some (frzOf Γ (vE x) ++ [.ife x (seqS y) (seqS z)])
      | _, _, _ => none
    | .While t b [] _ => if Γ.hot then none else match cE 40 Γ t, cSs (cS n Γ) b with
      | some x, some y => if (frzOf Γ (vE x)).isEmpty then some [.whl x (seqS y)] else none
      | _, _ => none
    | .For t i b [] _ => if Γ.hot then none else match cTg Γ 10 t, cSrc Γ false (cE 40 Γ) (isTupE t) i, cSs (cS n Γ) b with
      | some x, some s, some y => some (frzOf Γ (vSrc s) ++ [.for x s (seqS y)])
      | _, _, _ => none
    | .Raise (some (.Call (.Name c _) [] [] _)) none _ => if isGl Γ.sc c && (okName c && (!Γ.hot && Γ.clss.contains c)) then some [.raise c .none] else none
    | .Try b [.ExceptHandler (some (.Name c _)) (some x) h _] [] [] _ => match cSs (cS n Γ) b, cStore Γ x, isGl Γ.sc c && (okName c && (!Γ.hot && Γ.clss.contains c)), cSs (cS n { Γ with hot := true }) h with
      | some y, some i, true, some z => if !h.isEmpty && decide (Γ.sc.names.lookup x = some .local) then some [.tryAs (seqS y) c i (seqS z)] else none
      | _, _, _, _ => none
    | _ => none

/-! ### defs -/
def mutWords : List Str := ["append", "extend", "pop", "insert", "sort", "update", "clear", "remove"]
def mutE : Nat → Expr → List Str
  | 0, _ => []
  | n + 1, e => (match e with
    | .Call (.Attribute (.Name x _) m _) _ _ _ => if mutWords.contains m then [x] else []
    | _ => []) ++ (kids e).flatMap (mutE n)
def mutS : Nat → Stmt → List Str
  | 0, _ => []
  | n + 1, s => (match s with
    | .Assign [.Subscript (.Name x _) _ _] _ _ => [x]
    | .AugAssign (.Subscript (.Name x _) _ _) _ _ _ => [x]
    | _ => []) ++ ((skids s).1.flatMap (mutE 30) ++ (skids s).2.flatMap (mutS n))
def localNames (sc : Scope) : List Str := sc.names.filterMap fun p => match p.2 with
  | .local => some p.1
  | .cell => some p.1
  | _ => none
/-- the names of a def by slot -/
def slotsOf (ps : List Str) (sc : Scope) (body : List Stmt) : List Str := (ps ++ (localNames sc ++ body.flatMap (stmtComps 30))).eraseDups
def fnScopeB (N ps : List Str) (sc : Scope) : Bool :=
  decide (sc.kind = .function) && (!sc.isCoroutine && (!sc.isGenerator && (decide N.Nodup && (decide (N.take ps.length = ps) && (ps.all (fun x => isLoc sc x) && sc.names.all fun y => decide (y.2 ≠ .free))))))
def scpOf (defs clss dics tks : List Str) (obj : Bool) (ps : List Str) (sc : Scope) (body : List Stmt) : Scp :=
  let N := slotsOf ps sc body
  let ms := (body.flatMap (mutS 30)).filter fun x => !ps.contains x
  { N := N, sc := sc, muts := (ms.filterMap (ixOf N)).eraseDups, lam := body.any (lamS 30), isx := true, objs := obj, hot := false, defs := defs, clss := clss, dics := dics, tks := tks }
def cFn (defs clss dics tks : List Str) (obj : Bool) (ps : List Str) (sc : Scope) (body : List Stmt) : Option FnIR :=
  let Γ := scpOf defs clss dics tks obj ps sc body
  if fnScopeB Γ.N ps sc then (cSs (cS 30 Γ) body).map fun b => { np := ps.length, nl := Γ.N.length, body := seqS b } else none
/-- a def of the top -/
def cDef (defs clss dics : List Str) (tks : List (Str × Str)) (objs : List Str) (st : Stmt) : Option (Str × FnIR) := match st with
  | .FunctionDef name a body [] none [] sc none bind _ => match lamParams a with
    | some ps => (cFn defs clss dics (tks.filterMap fun p => if p.1 = name then some p.2 else none) (objs.contains name) ps sc body).map fun ir => (name, ir)
    | none => none
  | _ => none
end Ev

set_option maxHeartbeats 1000000
/-! EvD: how values lie in the abstract heap. -/
namespace Ev
open PySem PySem.Spec PyProof.Rows L2

/-- a list that never changes -/
def SqF (K : PySem.W.Frag) (H : Hp) (a : Addr) (xs : List V) : Prop := ∃ ob, H a = some (.frz ob (.lst xs))
theorem SqF.toL {K : PySem.W.Frag} {H : Hp} {a : Addr} {xs : List V} (h : SqF K H a xs) : SqL K H a xs := .inl (.inr h)

/-- whole numbers alone -/
def intD : D → Bool
  | .int _ => true
  | _ => false
/-- .. such tuples lie where they can be keys -/
def KeyT (H : Hp) (ds : List D) (a : Addr) (xs : List V) : Prop := ds.all intD = true → H a = some (.tup xs)
/-- what is changed in place -/
def isMu : HO → Bool
  | .lst _ => true
  | .dK _ => true
  | .dT _ => true
  | _ => false
mutual
def Rep (K : PySem.W.Frag) (os : List Addr) (H : Hp) : D → V → Prop
  | .non, v => v = .non
  | .bl b, v => v = .bl b
  | .int i, v => v = .int i
  | .str x, v => v = .str x
  | .tup ds, v => ∃ a xs, v = .ref a ∧ SqT K H a xs ∧ Reps K os H ds xs ∧ KeyT H ds a xs
  | .lst ds, v => ∃ a xs, v = .ref a ∧ SqF K H a xs ∧ Reps K os H ds xs
  | .dct ks vs, v => ks = [] ∧ vs = [] ∧ ∃ a ob, v = .ref a ∧ H a = some (.frz ob (.dK []))
  | .obj i, v => ∃ a, os[i]? = some a ∧ v = .ref a
  | .kt ds, v => ∃ a xs, v = .ref a ∧ SqT K H a xs ∧ Reps K os H ds xs
def Reps (K : PySem.W.Frag) (os : List Addr) (H : Hp) : List D → List V → Prop
  | [], xs => xs = []
  | d :: ds, xs => ∃ x r, xs = x :: r ∧ Rep K os H d x ∧ Reps K os H ds r
end
section
variable {K : PySem.W.Frag} {os : List Addr} {H : Hp}
theorem Reps.nil : Reps K os H [] [] := by unfold Reps; rfl
theorem Reps.cons {d : D} {ds : List D} {x : V} {r : List V} (h1 : Rep K os H d x) (h2 : Reps K os H ds r) : Reps K os H (d :: ds) (x :: r) := by
  unfold Reps; exact ⟨x, r, rfl, h1, h2⟩
theorem Reps.inv {d : D} {ds : List D} {xs : List V} (h : Reps K os H (d :: ds) xs) : ∃ x r, xs = x :: r ∧ Rep K os H d x ∧ Reps K os H ds r := by
  unfold Reps at h; exact h
theorem Reps.inv0 {xs : List V} (h : Reps K os H [] xs) : xs = [] := by unfold Reps at h; exact h
theorem Reps.length : ∀ {ds : List D} {xs : List V}, Reps K os H ds xs → xs.length = ds.length
  | [], xs, h => by rw [h.inv0]; rfl
  | d :: ds, xs, h => by
    obtain ⟨x, r, rfl, _, h2⟩ := h.inv
    rw [List.length_cons, List.length_cons, Reps.length h2]
theorem Reps.get : ∀ {ds : List D} {xs : List V} {i : Nat} {d : D}, Reps K os H ds xs → ds[i]? = some d → ∃ x, xs[i]? = some x ∧ Rep K os H d x
  | [], _, _, _, _, e => by simp at e
  | d :: ds, xs, 0, d', h, e => by
    obtain ⟨x, r, rfl, h1, _⟩ := h.inv
    have e' : d = d' := Option.some.inj e
    exact ⟨x, rfl, e' ▸ h1⟩
  | d :: ds, xs, i + 1, d', h, e => by
    obtain ⟨x, r, rfl, _, h2⟩ := h.inv
    obtain ⟨y, e1, e2⟩ := Reps.get (i := i) h2 (by simpa using e)
    exact ⟨y, by simpa using e1, e2⟩
theorem Reps.getV : ∀ {ds : List D} {xs : List V} {i : Nat} {x : V}, Reps K os H ds xs → xs[i]? = some x → ∃ d, ds[i]? = some d ∧ Rep K os H d x
  | [], xs, i, x, h, e => by rw [h.inv0] at e; simp at e
  | d :: ds, xs, 0, x', h, e => by
    obtain ⟨x, r, rfl, h1, _⟩ := h.inv
    have e' : x = x' := Option.some.inj e
    exact ⟨d, rfl, e' ▸ h1⟩
  | d :: ds, xs, i + 1, x', h, e => by
    obtain ⟨x, r, rfl, _, h2⟩ := h.inv
    obtain ⟨y, e1, e2⟩ := Reps.getV (i := i) h2 (by simpa using e)
    exact ⟨y, by simpa using e1, e2⟩
theorem Reps.append : ∀ {ds es : List D} {xs ys : List V}, Reps K os H ds xs → Reps K os H es ys → Reps K os H (ds ++ es) (xs ++ ys)
  | [], es, xs, ys, h, g => by rw [h.inv0]; exact g
  | d :: ds, es, xs, ys, h, g => by
    obtain ⟨x, r, rfl, h1, h2⟩ := h.inv
    exact .cons h1 (Reps.append h2 g)
theorem Reps.take : ∀ {ds : List D} {xs : List V} (n : Nat), Reps K os H ds xs → Reps K os H (ds.take n) (xs.take n)
  | ds, xs, 0, _ => by simpa using Reps.nil
  | [], xs, n + 1, h => by rw [h.inv0]; exact Reps.nil
  | d :: ds, xs, n + 1, h => by
    obtain ⟨x, r, rfl, h1, h2⟩ := h.inv
    exact .cons h1 (Reps.take n h2)
theorem Reps.drop : ∀ {ds : List D} {xs : List V} (n : Nat), Reps K os H ds xs → Reps K os H (ds.drop n) (xs.drop n)
  | ds, xs, 0, h => h
  | [], xs, n + 1, h => by rw [h.inv0]; exact Reps.nil
  | d :: ds, xs, n + 1, h => by
    obtain ⟨x, r, rfl, h1, h2⟩ := h.inv
    exact Reps.drop n h2
theorem Reps.set : ∀ {ds : List D} {xs : List V} {d : D} {x : V} (n : Nat), Reps K os H ds xs → Rep K os H d x → Reps K os H (ds.set n d) (xs.set n x)
  | [], xs, d, x, n, h, g => by rw [h.inv0]; exact Reps.nil
  | e :: ds, xs, d, x, 0, h, g => by
    obtain ⟨y, r, rfl, h1, h2⟩ := h.inv
    exact .cons g h2
  | e :: ds, xs, d, x, n + 1, h, g => by
    obtain ⟨y, r, rfl, h1, h2⟩ := h.inv
    exact .cons h1 (Reps.set n h2 g)
theorem Reps.rep {ds : List D} {xs : List V} (h : Reps K os H ds xs) : ∀ k : Nat, Reps K os H (List.replicate k ds).flatten (List.replicate k xs).flatten
  | 0 => by simpa using Reps.nil
  | k + 1 => by
    rw [List.replicate_succ, List.replicate_succ, List.flatten_cons, List.flatten_cons]
    exact h.append (Reps.rep h k)
theorem Reps.cut {ds : List D} {xs : List V} (h : Reps K os H ds xs) (lo hi : Option Int) : Reps K os H (cutD ds lo hi) (cutV xs lo hi) := by
  unfold cutD cutV
  rw [h.length]
  exact (h.drop _).take _
theorem Reps.at {ds : List D} {xs : List V} {i : Int} {d : D} (h : Reps K os H ds xs) (e : atI ds i = some d) : ∃ x, atI xs i = some x ∧ Rep K os H d x := by
  unfold atI at e ⊢
  rw [h.length]
  cases q : ixN ds.length i with
  | none => rw [q] at e; cases e
  | some j =>
    rw [q] at e
    exact h.get e
/-- the ints, the bools -/
theorem Reps.ints : ∀ {ds : List D} {ns : List Int} {xs : List V}, intsD ds = some ns → Reps K os H ds xs → xs = ns.map V.int
  | [], ns, xs, e, h => by
    have e' : ns = [] := (Option.some.inj e).symm
    rw [e', h.inv0]; rfl
  | d :: ds, ns, xs, e, h => by
    obtain ⟨x, r, rfl, h1, h2⟩ := h.inv
    cases d with
    | int i =>
      have e1 : (intsD ds).map (i :: ·) = some ns := e
      cases q : intsD ds with
      | none => rw [q] at e1; cases e1
      | some ms =>
        rw [q] at e1
        have e2 : i :: ms = ns := Option.some.inj e1
        have hx : x = .int i := by unfold Rep at h1; exact h1
        rw [← e2, hx, Reps.ints q h2]; rfl
    | _ => cases e
theorem Reps.bls : ∀ {ds : List D} {ns : List Bool} {xs : List V}, blsD ds = some ns → Reps K os H ds xs → xs = ns.map V.bl
  | [], ns, xs, e, h => by
    have e' : ns = [] := (Option.some.inj e).symm
    rw [e', h.inv0]; rfl
  | d :: ds, ns, xs, e, h => by
    obtain ⟨x, r, rfl, h1, h2⟩ := h.inv
    cases d with
    | bl i =>
      have e1 : (blsD ds).map (i :: ·) = some ns := e
      cases q : blsD ds with
      | none => rw [q] at e1; cases e1
      | some ms =>
        rw [q] at e1
        have e2 : i :: ms = ns := Option.some.inj e1
        have hx : x = .bl i := by unfold Rep at h1; exact h1
        rw [← e2, hx, Reps.bls q h2]; rfl
    | _ => cases e
/-- flat values -/
theorem Rep.flat {d : D} {v : V} (h : Rep K os H d v) (f : flatD d = true) : flatV v = true := by
  cases d <;> first
    | (cases f; done)
    | (unfold Rep at h; subst h; rfl)
theorem Rep.eqF {d e : D} {v u : V} (h : Rep K os H d v) (g : Rep K os H e u) (f : flatD d = true) (f' : flatD e = true) : eqV v u = Ev.eqF d e := by
  cases d <;> cases e <;> first
    | (cases f; done)
    | (cases f'; done)
    | (unfold Rep at h g; subst h; subst g; rfl)
theorem Reps.flats : ∀ {ds : List D} {xs : List V}, Reps K os H ds xs → ds.all flatD = true → xs.all flatV = true
  | [], xs, h, _ => by rw [h.inv0]; rfl
  | d :: ds, xs, h, f => by
    obtain ⟨x, r, rfl, h1, h2⟩ := h.inv
    rw [List.all_cons, Bool.and_eq_true] at f ⊢
    exact ⟨h1.flat f.1, Reps.flats h2 f.2⟩
theorem Reps.anyF {d : D} {v : V} (g : Rep K os H d v) (f : flatD d = true) : ∀ {ds : List D} {xs : List V}, Reps K os H ds xs → ds.all flatD = true → inV v xs = ds.any fun y => Ev.eqF y d
  | [], xs, h, _ => by rw [h.inv0]; rfl
  | e :: ds, xs, h, fs => by
    obtain ⟨x, r, rfl, h1, h2⟩ := h.inv
    rw [List.all_cons, Bool.and_eq_true] at fs
    have ih := Reps.anyF g f h2 fs.2
    unfold inV at ih ⊢
    rw [List.any_cons, List.any_cons, ih, h1.eqF g fs.1 f]

/-- .. perhaps a list of the frame's own, that is changed in place -/
def RepB (K : PySem.W.Frag) (os : List Addr) (H : Hp) (d : D) (v : V) : Prop :=
  Rep K os H d v ∨ ∃ ds a xs, d = .lst ds ∧ v = .ref a ∧ a ∉ os ∧ H a = some (.lst xs) ∧ Reps K os H ds xs
theorem RepB.lst {ds : List D} {v : V} (h : RepB K os H (.lst ds) v) : ∃ a xs, v = .ref a ∧ SqL K H a xs ∧ Reps K os H ds xs := by
  rcases h with h | ⟨ds', a, xs, e, rfl, _, h1, h2⟩
  · unfold Rep at h
    obtain ⟨a, xs, rfl, h1, h2⟩ := h
    exact ⟨a, xs, rfl, h1.toL, h2⟩
  · cases e
    exact ⟨a, xs, rfl, .of h1, h2⟩
/-- .. where it lies -/
theorem RepB.lstR {ds : List D} {v : V} (h : RepB K os H (.lst ds) v) : ∃ a xs, v = .ref a ∧ Rd H a (.lst xs) ∧ Reps K os H ds xs := by
  rcases h with h | ⟨ds', a, xs, e, rfl, _, h1, h2⟩
  · unfold Rep at h
    obtain ⟨a, xs, rfl, h1, h2⟩ := h
    exact ⟨a, xs, rfl, .inr h1, h2⟩
  · cases e
    exact ⟨a, xs, rfl, .inl h1, h2⟩
theorem RepB.of_ne {d : D} {v : V} (h : RepB K os H d v) (n : ∀ ds, d ≠ .lst ds) : Rep K os H d v := by
  rcases h with h | ⟨ds', a, xs, e, _⟩
  · exact h
  · exact absurd e (n ds')
theorem RepB.tup {ds : List D} {v : V} (h : RepB K os H (.tup ds) v) : ∃ a xs, v = .ref a ∧ SqT K H a xs ∧ Reps K os H ds xs := by
  have q := h.of_ne (fun _ e => nomatch e)
  unfold Rep at q
  obtain ⟨a, xs, e, h1, h2, _⟩ := q
  exact ⟨a, xs, e, h1, h2⟩
theorem RepB.tupK {ds : List D} {v : V} (h : RepB K os H (.tup ds) v) : ∃ a xs, v = .ref a ∧ SqT K H a xs ∧ Reps K os H ds xs ∧ KeyT H ds a xs := by
  have q := h.of_ne (fun _ e => nomatch e)
  unfold Rep at q
  exact q
theorem RepB.kt {ds : List D} {v : V} (h : RepB K os H (.kt ds) v) : ∃ a xs, v = .ref a ∧ SqT K H a xs ∧ Reps K os H ds xs := by
  have q := h.of_ne (fun _ e => nomatch e)
  unfold Rep at q
  exact q
theorem RepB.int {i : Int} {v : V} (h : RepB K os H (.int i) v) : v = .int i := by
  have q := h.of_ne (fun _ e => nomatch e)
  unfold Rep at q; exact q
theorem RepB.bl {i : Bool} {v : V} (h : RepB K os H (.bl i) v) : v = .bl i := by
  have q := h.of_ne (fun _ e => nomatch e)
  unfold Rep at q; exact q
theorem RepB.str {i : Str} {v : V} (h : RepB K os H (.str i) v) : v = .str i := by
  have q := h.of_ne (fun _ e => nomatch e)
  unfold Rep at q; exact q
theorem RepB.non {v : V} (h : RepB K os H .non v) : v = .non := by
  have q := h.of_ne (fun _ e => nomatch e)
  unfold Rep at q; exact q

/-! ### as the library's data -/
mutual
theorem Rep.dp : ∀ (d : D) {v : V} {p : PyData}, d.py = some p → Rep K os H d v → Dp K H v p
  | .non, v, p, e, h => by
    unfold D.py at e; unfold Rep at h; cases e; subst h; exact .non
  | .bl b, v, p, e, h => by
    unfold D.py at e; unfold Rep at h; cases e; subst h; exact .bl b
  | .int b, v, p, e, h => by
    unfold D.py at e; unfold Rep at h; cases e; subst h; exact .int b
  | .str b, v, p, e, h => by
    unfold D.py at e; unfold Rep at h; cases e; subst h; exact .str b
  | .tup ds, v, p, e, h => by
    unfold D.py at e; unfold Rep at h
    obtain ⟨a, xs, rfl, h1, h2, _⟩ := h
    cases q : D.pys ds with
    | none => rw [q] at e; cases e
    | some ps =>
      rw [q] at e
      cases e
      exact .tup h1 (Reps.dp ds q h2)
  | .lst ds, v, p, e, h => by
    unfold D.py at e; unfold Rep at h
    obtain ⟨a, xs, rfl, h1, h2⟩ := h
    cases q : D.pys ds with
    | none => rw [q] at e; cases e
    | some ps =>
      rw [q] at e
      cases e
      exact .lst h1.toL (Reps.dp ds q h2)
  | .dct _ _, v, p, e, h => by unfold D.py at e; cases e
  | .obj _, v, p, e, h => by unfold D.py at e; cases e
  | .kt ds, v, p, e, h => by
    unfold D.py at e; unfold Rep at h
    obtain ⟨a, xs, rfl, h1, h2⟩ := h
    cases q : D.pys ds with
    | none => rw [q] at e; cases e
    | some ps =>
      rw [q] at e
      cases e
      exact .tup h1 (Reps.dp ds q h2)
theorem Reps.dp : ∀ (ds : List D) {xs : List V} {ps : List PyData}, D.pys ds = some ps → Reps K os H ds xs → DpAll K H xs ps
  | [], xs, ps, e, h => by
    unfold D.pys at e
    cases e
    rw [h.inv0]; exact .nil
  | d :: ds, xs, ps, e, h => by
    obtain ⟨x, r, rfl, h1, h2⟩ := h.inv
    unfold D.pys at e
    cases q1 : D.py d with
    | none => rw [q1] at e; cases e
    | some p =>
      cases q2 : D.pys ds with
      | none => rw [q1, q2] at e; cases e
      | some qs =>
        rw [q1, q2] at e
        cases e
        exact .cons (Rep.dp d q1 h1) (Reps.dp ds q2 h2)
end
theorem RepB.dp {d : D} {v : V} {p : PyData} (e : d.py = some p) (h : RepB K os H d v) : Dp K H v p := by
  rcases h with h | ⟨ds, a, xs, rfl, rfl, _, h1, h2⟩
  · exact h.dp d e
  · unfold D.py at e
    cases q : D.pys ds with
    | none => rw [q] at e; cases e
    | some ps =>
      rw [q] at e
      cases e
      exact .lst (.of h1) (Reps.dp ds q h2)
end

/-! ### what changes -/
abbrev Tbs : Type := List (Addr × Str)
/-- nothing but a table is there -/
def NoO (H : Hp) (b : Addr) : Prop := ∀ u, H b = some u → ∃ ps, u = .tbl ps
theorem NoO.of {H : Hp} {b : Addr} (h : H b = none) : NoO H b := fun u e => by rw [h] at e; cases e
structure Post (T : Tbs) (os : List Addr) (H : Hp) (os' : List Addr) (H' : Hp) : Prop where
  pre : ∃ new, os' = os ++ new ∧ ∀ b ∈ new, NoO H b
  keep : ∀ b u, H b = some u → b ∉ os → (∀ ps, u ≠ .tbl ps) → H' b = some u
  dom : ∀ b, NoO H' b → NoO H b
  tab : LamX.Tabs T H → LamX.Tabs T H'
theorem Post.refl {T : Tbs} {os : List Addr} {H : Hp} : Post T os H os H := ⟨⟨[], by simp, by simp⟩, fun _ _ h _ _ => h, fun _ h => h, fun h => h⟩
theorem Post.trans {T : Tbs} {os os1 os2 : List Addr} {H H1 H2 : Hp} (a : Post T os H os1 H1) (b : Post T os1 H1 os2 H2) : Post T os H os2 H2 where
  pre := by
    obtain ⟨n1, rfl, h1⟩ := a.pre
    obtain ⟨n2, rfl, h2⟩ := b.pre
    refine ⟨n1 ++ n2, by rw [List.append_assoc], fun c hc => ?_⟩
    rcases List.mem_append.mp hc with hc | hc
    · exact h1 c hc
    · exact a.dom c (h2 c hc)
  keep := fun c u e n nt => by
    refine b.keep c u (a.keep c u e n nt) ?_ nt
    obtain ⟨n1, rfl, h1⟩ := a.pre
    intro hc
    rcases List.mem_append.mp hc with hc | hc
    · exact n hc
    · obtain ⟨ps, z⟩ := h1 c hc u e
      exact nt ps z
  dom := fun c h => a.dom c (b.dom c h)
  tab := fun h => b.tab (a.tab h)
/-- all that was tracked is as it was -/
theorem Post.same {T : Tbs} {os : List Addr} {H H' : Hp} (h : Same H H') : Post T os H os H' where
  pre := ⟨[], by simp, by simp⟩
  keep := fun b u e _ _ => h b u e
  dom := fun b e u q => e u (h b u q)
  tab := fun t => LamX.Tabs.ext t h
theorem same_upd {H : Hp} {p : Addr} {o : HO} (h : H p = none) : Same H (upd H p o) := fun b x e => by
  rw [upd_ne (ne_of_none e h)]; exact e
/-- a mutable thing is changed -/
theorem tabs_upd {T : Tbs} {H : Hp} {a : Addr} {xs : List V} {o : HO} (h : H a = some (.lst xs)) (t : LamX.Tabs T H) : LamX.Tabs T (upd H a o) := fun p hp => by
  obtain ⟨ps, h1, h2, h3⟩ := t p hp
  have n1 : p.1 ≠ a := fun e => by rw [e, h] at h1; cases h1
  refine ⟨ps, by rw [upd_ne n1]; exact h1, h2, fun pos cv hc => ?_⟩
  obtain ⟨c, e1, e2⟩ := h3 pos cv hc
  have n2 : c ≠ a := fun e => by
    rw [e, h] at e2
    unfold LamX.CodeO at e2
    cases e2
  exact ⟨c, e1, by rw [upd_ne n2]; exact e2⟩

/-! ### the shared objects -/
def ObjAt (K : PySem.W.Frag) (os : List Addr) (H : Hp) (a : Addr) : SObj → Prop
  | .lst ds => ∃ xs, H a = some (.lst xs) ∧ Reps K os H ds xs
  | .dK kvs => ∃ kvs' : List (Key × V), H a = some (.dK kvs') ∧ kvs'.map (·.1) = kvs.map (·.1) ∧ Reps K os H (kvs.map (·.2)) (kvs'.map (·.2))
  | .dT kvs => ∃ kvs' : List (List Key × V), H a = some (.dT kvs') ∧ kvs'.map (·.1) = kvs.map (·.1) ∧ Reps K os H (kvs.map (·.2)) (kvs'.map (·.2))
structure OOk (K : PySem.W.Frag) (os : List Addr) (H : Hp) (o : Objs) : Prop where
  len : os.length = o.length
  at_ : ∀ (i : Nat) (so : SObj), o[i]? = some so → ∃ a, os[i]? = some a ∧ ObjAt K os H a so
  nd : os.Nodup
theorem OOk.mem {K : PySem.W.Frag} {os : List Addr} {H : Hp} {o : Objs} (O : OOk K os H o) {a : Addr} (h : a ∈ os) : ∃ u, H a = some u ∧ isMu u = true := by
  obtain ⟨i, hi, e⟩ := List.mem_iff_getElem.mp h
  have hi' : i < o.length := by rw [← O.len]; exact hi
  obtain ⟨b, e1, e2⟩ := O.at_ i o[i] (List.getElem?_eq_getElem hi')
  have e3 : os[i]? = some a := by rw [List.getElem?_eq_getElem hi, e]
  rw [e1] at e3
  cases e3
  cases q : o[i] with
  | lst ds =>
    rw [q] at e2
    obtain ⟨xs, h1, _⟩ := e2
    exact ⟨_, h1, rfl⟩
  | dK ds =>
    rw [q] at e2
    obtain ⟨xs, h1, _⟩ := e2
    exact ⟨_, h1, rfl⟩
  | dT ds =>
    rw [q] at e2
    obtain ⟨xs, h1, _⟩ := e2
    exact ⟨_, h1, rfl⟩
/-- what is not changed in place is no shared object -/
theorem OOk.not {K : PySem.W.Frag} {os : List Addr} {H : Hp} {o : Objs} (O : OOk K os H o) {a : Addr} {u : HO} (e : H a = some u) (n : isMu u = false) : a ∉ os := fun hm => by
  obtain ⟨w, e', m⟩ := O.mem hm
  rw [e] at e'
  cases e'
  rw [n] at m
  cases m

section
variable {K : PySem.W.Frag} {T : Tbs} {os os' : List Addr} {H H' : Hp} {o o' : Objs}
theorem SqT.post (P : Post T os H os' H') (O : OOk K os H o) {a : Addr} {xs : List V} (h : SqT K H a xs) : SqT K H' a xs := by
  rcases h with (h | ⟨ob, h⟩) | h
  · exact .inl (.inl (P.keep _ _ h (O.not h rfl) fun _ e => nomatch e))
  · exact .inl (.inr ⟨ob, P.keep _ _ h (O.not h rfl) fun _ e => nomatch e⟩)
  · exact .inr h
theorem SqF.post (P : Post T os H os' H') (O : OOk K os H o) {a : Addr} {xs : List V} (h : SqF K H a xs) : SqF K H' a xs := by
  obtain ⟨ob, h⟩ := h
  exact ⟨ob, P.keep _ _ h (O.not h rfl) fun _ e => nomatch e⟩
theorem KeyT.post (P : Post T os H os' H') (O : OOk K os H o) {ds : List D} {a : Addr} {xs : List V} (h : KeyT H ds a xs) : KeyT H' ds a xs := fun z =>
  P.keep _ _ (h z) (O.not (h z) rfl) fun _ e => nomatch e
mutual
theorem Rep.post (P : Post T os H os' H') (O : OOk K os H o) : ∀ (d : D) {v : V}, Rep K os H d v → Rep K os' H' d v
  | .non, v, h => by unfold Rep at h ⊢; exact h
  | .bl _, v, h => by unfold Rep at h ⊢; exact h
  | .int _, v, h => by unfold Rep at h ⊢; exact h
  | .str _, v, h => by unfold Rep at h ⊢; exact h
  | .tup ds, v, h => by
    unfold Rep at h ⊢
    obtain ⟨a, xs, e, h1, h2, h3⟩ := h
    exact ⟨a, xs, e, SqT.post P O h1, Reps.post P O ds h2, h3.post P O⟩
  | .lst ds, v, h => by
    unfold Rep at h ⊢
    obtain ⟨a, xs, e, h1, h2⟩ := h
    exact ⟨a, xs, e, SqF.post P O h1, Reps.post P O ds h2⟩
  | .dct ks vs, v, h => by
    unfold Rep at h ⊢
    obtain ⟨e1, e2, a, ob, e3, h1⟩ := h
    exact ⟨e1, e2, a, ob, e3, P.keep _ _ h1 (O.not h1 rfl) fun _ e => nomatch e⟩
  | .obj i, v, h => by
    unfold Rep at h ⊢
    obtain ⟨a, e, e2⟩ := h
    obtain ⟨new, rfl, _⟩ := P.pre
    exact ⟨a, by rw [List.getElem?_append_left (List.getElem?_eq_some_iff.mp e).1]; exact e, e2⟩
  | .kt ds, v, h => by
    unfold Rep at h ⊢
    obtain ⟨a, xs, e, h1, h2⟩ := h
    exact ⟨a, xs, e, SqT.post P O h1, Reps.post P O ds h2⟩
theorem Reps.post (P : Post T os H os' H') (O : OOk K os H o) : ∀ (ds : List D) {xs : List V}, Reps K os H ds xs → Reps K os' H' ds xs
  | [], xs, h => by unfold Reps at h ⊢; exact h
  | d :: ds, xs, h => by
    obtain ⟨x, r, rfl, h1, h2⟩ := h.inv
    exact .cons (Rep.post P O d h1) (Reps.post P O ds h2)
end
theorem RepB.post (P : Post T os H os' H') (O : OOk K os H o) {d : D} {v : V} (h : RepB K os H d v) : RepB K os' H' d v := by
  rcases h with h | ⟨ds, a, xs, rfl, rfl, n, h1, h2⟩
  · exact .inl (Rep.post P O d h)
  · refine .inr ⟨ds, a, xs, rfl, rfl, fun hm => ?_, P.keep _ _ h1 n (fun _ e => nomatch e), Reps.post P O ds h2⟩
    obtain ⟨new, rfl, hn⟩ := P.pre
    rcases List.mem_append.mp hm with hm | hm
    · exact n hm
    · obtain ⟨ps, z⟩ := hn a hm _ h1
      cases z
theorem OOk.same (O : OOk K os H o) (h : Same H H') : OOk K os H' o where
  len := O.len
  at_ := fun i so e => by
    obtain ⟨a, e1, e2⟩ := O.at_ i so e
    refine ⟨a, e1, ?_⟩
    cases so with
    | lst ds =>
      obtain ⟨xs, h1, h2⟩ := e2
      exact ⟨xs, h _ _ h1, Reps.post (T := []) (Post.same h) O ds h2⟩
    | dK kvs =>
      obtain ⟨xs, h1, hk, h2⟩ := e2
      exact ⟨xs, h _ _ h1, hk, Reps.post (T := []) (Post.same h) O _ h2⟩
    | dT kvs =>
      obtain ⟨xs, h1, hk, h2⟩ := e2
      exact ⟨xs, h _ _ h1, hk, Reps.post (T := []) (Post.same h) O _ h2⟩
  nd := O.nd
end

/-! ### frames -/
/-- what lambdas that came in are, what the caught exception is: fixed through the def -/
structure SpV where
  clo : Addr → Nat → Nat → IE → List V → Addr → Str → Prop
  exc : Addr → Str → Prop
structure EnvOk (K : PySem.W.Frag) (Sp : SpV) (os : List Addr) (H : Hp) (σ : L2.St) (ρ : Frm) : Prop where
  len : σ.length = ρ.length
  val : ∀ (i : Nat) (d : D), ρ[i]? = some (.val d) → ∃ v, σ[i]? = some (some v) ∧ Rep K os H d v
  own : ∀ (i : Nat) (d : D), ρ[i]? = some (.own d) → ∃ ds a xs, d = .lst ds ∧ σ[i]? = some (some (.ref a)) ∧ a ∉ os ∧ H a = some (.lst xs) ∧ Reps K os H ds xs
  dis : ∀ (i j : Nat) (d e : D) (a : Addr), i ≠ j → ρ[i]? = some (.own d) → ρ[j]? = some (.own e) → σ[i]? = some (some (.ref a)) → σ[j]? ≠ some (some (.ref a))
  clo : ∀ (i np nl : Nat) (b : IE) (cap : List D), ρ[i]? = some (.clo np nl b cap) → ∃ f vs c' q, σ[i]? = some (some (.ref f)) ∧ Sp.clo f np nl b vs c' q ∧ Reps K os H cap vs ∧ H c' = some (LamX.CodeO c' q)
  exc : ∀ (i : Nat) (c : Str) (xs : List D), ρ[i]? = some (.exc c xs) → ∃ a, σ[i]? = some (some (.ref a)) ∧ Sp.exc a c
section
variable {K : PySem.W.Frag} {Sp : SpV} {T : Tbs} {os os' : List Addr} {H H' : Hp} {o o' : Objs} {σ : L2.St} {ρ : Frm}
theorem codeO_post (P : Post T os H os' H') (O : OOk K os H o) {c' : Addr} {q : Str} (h : H c' = some (LamX.CodeO c' q)) : H' c' = some (LamX.CodeO c' q) := by
  exact P.keep _ _ h (O.not h (by unfold LamX.CodeO; rfl)) fun ps => LamX.codeO_ne ps
theorem EnvOk.post (E : EnvOk K Sp os H σ ρ) (P : Post T os H os' H') (O : OOk K os H o) : EnvOk K Sp os' H' σ ρ where
  len := E.len
  val := fun i d e => by
    obtain ⟨v, e1, e2⟩ := E.val i d e
    exact ⟨v, e1, Rep.post P O d e2⟩
  own := fun i d e => by
    obtain ⟨ds, a, xs, e1, e2, n, e3, e4⟩ := E.own i d e
    refine ⟨ds, a, xs, e1, e2, fun hm => ?_, P.keep _ _ e3 n (fun _ e => nomatch e), Reps.post P O ds e4⟩
    obtain ⟨new, rfl, hn⟩ := P.pre
    rcases List.mem_append.mp hm with hm | hm
    · exact n hm
    · obtain ⟨ps, z⟩ := hn a hm _ e3
      cases z
  dis := E.dis
  clo := fun i np nl b cap e => by
    obtain ⟨f, vs, c', q, e1, e2, e3, e4⟩ := E.clo i np nl b cap e
    exact ⟨f, vs, c', q, e1, e2, Reps.post P O cap e3, codeO_post P O e4⟩
  exc := E.exc
theorem wipe_ne {σ : L2.St} {i : Nat} : ∀ {vs : List Nat}, i ∉ vs → (wipe σ vs)[i]? = σ[i]? := L2.wipe_out
theorem wipeF_ne {ρ : Frm} {i : Nat} : ∀ {vs : List Nat}, i ∉ vs → (wipeF ρ vs)[i]? = ρ[i]?
  | [], _ => rfl
  | v :: vs, h => by
    simp only [List.mem_cons, not_or] at h
    show ((wipeF ρ vs).set v .none)[i]? = _
    rw [List.getElem?_set_ne (Ne.symm h.1)]
    exact wipeF_ne h.2
theorem wipeF_length {ρ : Frm} : ∀ vs : List Nat, (wipeF ρ vs).length = ρ.length
  | [] => rfl
  | v :: vs => by
    show ((wipeF ρ vs).set v .none).length = _
    rw [List.length_set, wipeF_length vs]
theorem wipeF_in {ρ : Frm} {i : Nat} {s : Slot} : ∀ {vs : List Nat}, i ∈ vs → (wipeF ρ vs)[i]? = some s → s = .none
  | v :: vs, h, e => by
    have e' : ((wipeF ρ vs).set v .none)[i]? = some s := e
    by_cases hv : v = i
    · subst hv
      by_cases hl : v < (wipeF ρ vs).length
      · rw [List.getElem?_set_self hl] at e'
        exact (Option.some.inj e').symm
      · rw [List.getElem?_eq_none (by simpa using hl)] at e'
        cases e'
    · rw [List.getElem?_set_ne hv] at e'
      rcases List.mem_cons.mp h with q | q
      · exact absurd q.symm hv
      · exact wipeF_in q e'
theorem EnvOk.wiped (E : EnvOk K Sp os H σ ρ) (vs : List Nat) : EnvOk K Sp os H (wipe σ vs) (wipeF ρ vs) where
  len := by rw [wipe_length, wipeF_length]; exact E.len
  val := fun i d e => by
    by_cases hi : i ∈ vs
    · cases wipeF_in hi e
    · rw [wipeF_ne hi] at e
      rw [wipe_ne hi]
      exact E.val i d e
  own := fun i d e => by
    by_cases hi : i ∈ vs
    · cases wipeF_in hi e
    · rw [wipeF_ne hi] at e
      rw [wipe_ne hi]
      exact E.own i d e
  dis := fun i j d e a hij e1 e2 e3 => by
    by_cases hi : i ∈ vs
    · cases wipeF_in hi e1
    · by_cases hj : j ∈ vs
      · cases wipeF_in hj e2
      · rw [wipeF_ne hi] at e1
        rw [wipeF_ne hj] at e2
        rw [wipe_ne hi] at e3
        rw [wipe_ne hj]
        exact E.dis i j d e a hij e1 e2 e3
  clo := fun i np nl b cap e => by
    by_cases hi : i ∈ vs
    · cases wipeF_in hi e
    · rw [wipeF_ne hi] at e
      rw [wipe_ne hi]
      exact E.clo i np nl b cap e
  exc := fun i c xs e => by
    by_cases hi : i ∈ vs
    · cases wipeF_in hi e
    · rw [wipeF_ne hi] at e
      rw [wipe_ne hi]
      exact E.exc i c xs e
/-- what is not there is not another -/
theorem set_ne {ρ : Frm} {i j : Nat} {s u : Slot} (q : (ρ.set i s)[j]? = some u) (n : s ≠ u) : i ≠ j := fun z => by
  subst z
  have hl : i < ρ.length := by simpa using (List.getElem?_eq_some_iff.mp q).1
  rw [List.getElem?_set_self hl] at q
  exact n (Option.some.inj q)
/-- a slot is set -/
theorem EnvOk.set (E : EnvOk K Sp os H σ ρ) {i : Nat} {d : D} {v : V} (h : Rep K os H d v) : EnvOk K Sp os H (σ.set i (some v)) (ρ.set i (.val d)) where
  len := by rw [List.length_set, List.length_set]; exact E.len
  val := fun j e q => by
    by_cases hj : i = j
    · subst hj
      have hl : i < ρ.length := by simpa using (List.getElem?_eq_some_iff.mp q).1
      rw [List.getElem?_set_self hl] at q
      cases q
      exact ⟨v, by rw [List.getElem?_set_self (by rw [E.len]; exact hl)], h⟩
    · rw [List.getElem?_set_ne hj] at q ⊢
      exact E.val j e q
  own := fun j e q => by
    by_cases hj : i = j
    · subst hj
      have hl : i < ρ.length := by simpa using (List.getElem?_eq_some_iff.mp q).1
      rw [List.getElem?_set_self hl] at q
      cases q
    · rw [List.getElem?_set_ne hj] at q ⊢
      exact E.own j e q
  dis := fun j k e f a hjk q1 q2 q3 => by
    have nj : i ≠ j := fun z => by
      subst z
      have hl : i < ρ.length := by simpa using (List.getElem?_eq_some_iff.mp q1).1
      rw [List.getElem?_set_self hl] at q1
      cases q1
    have nk : i ≠ k := fun z => by
      subst z
      have hl : i < ρ.length := by simpa using (List.getElem?_eq_some_iff.mp q2).1
      rw [List.getElem?_set_self hl] at q2
      cases q2
    rw [List.getElem?_set_ne nj] at q1 q3
    rw [List.getElem?_set_ne nk] at q2 ⊢
    exact E.dis j k e f a hjk q1 q2 q3
  clo := fun j np nl b cap q => by
    have nj := set_ne q (fun z => nomatch z)
    rw [List.getElem?_set_ne nj] at q ⊢
    exact E.clo j np nl b cap q
  exc := fun j c xs q => by
    have nj := set_ne q (fun z => nomatch z)
    rw [List.getElem?_set_ne nj] at q ⊢
    exact E.exc j c xs q
/-- a slot is forgotten -/
theorem EnvOk.gone (E : EnvOk K Sp os H σ ρ) (i : Nat) (v : Option V) : EnvOk K Sp os H (σ.set i v) (ρ.set i .none) where
  len := by rw [List.length_set, List.length_set]; exact E.len
  val := fun j e q => by
    have nj : i ≠ j := fun z => by
      subst z
      have hl : i < ρ.length := by simpa using (List.getElem?_eq_some_iff.mp q).1
      rw [List.getElem?_set_self hl] at q
      cases q
    rw [List.getElem?_set_ne nj] at q ⊢
    exact E.val j e q
  own := fun j e q => by
    have nj : i ≠ j := fun z => by
      subst z
      have hl : i < ρ.length := by simpa using (List.getElem?_eq_some_iff.mp q).1
      rw [List.getElem?_set_self hl] at q
      cases q
    rw [List.getElem?_set_ne nj] at q ⊢
    exact E.own j e q
  dis := fun j k e f a hjk q1 q2 q3 => by
    have nj : i ≠ j := fun z => by
      subst z
      have hl : i < ρ.length := by simpa using (List.getElem?_eq_some_iff.mp q1).1
      rw [List.getElem?_set_self hl] at q1
      cases q1
    have nk : i ≠ k := fun z => by
      subst z
      have hl : i < ρ.length := by simpa using (List.getElem?_eq_some_iff.mp q2).1
      rw [List.getElem?_set_self hl] at q2
      cases q2
    rw [List.getElem?_set_ne nj] at q1 q3
    rw [List.getElem?_set_ne nk] at q2 ⊢
    exact E.dis j k e f a hjk q1 q2 q3
  clo := fun j np nl b cap q => by
    have nj := set_ne q (fun z => nomatch z)
    rw [List.getElem?_set_ne nj] at q ⊢
    exact E.clo j np nl b cap q
  exc := fun j c xs q => by
    have nj := set_ne q (fun z => nomatch z)
    rw [List.getElem?_set_ne nj] at q ⊢
    exact E.exc j c xs q
end
end Ev

set_option maxHeartbeats 1000000
/-! EvE: the readings; operators. -/
namespace Ev
open PySem PySem.Spec PyProof.Rows L2

structure Pm where
  F : FnT
  C : CloT
  G : Str → Option D
  isa : Str → Str → Bool
  L : Nat
  T : Tbs
  Sp : SpV
  ad : Str → Addr
  fld : Str → Str
  xok : Str → Prop
abbrev Pm.evE (p : Pm) (e : IE) (ρ : Frm) (o : Objs) : Res D := Ev.evE p.F p.C p.G p.isa e ρ o
abbrev Pm.evEs (p : Pm) (e : IEs) (ρ : Frm) (o : Objs) : Res (List D) := Ev.evEs p.F p.C p.G p.isa e ρ o
abbrev Pm.evEo (p : Pm) (e : IEo) (ρ : Frm) (o : Objs) : Res (Option Int) := Ev.evEo p.F p.C p.G p.isa e ρ o
abbrev Pm.evC (p : Pm) (e : IEo) (ρ : Frm) (o : Objs) : Res Bool := Ev.evC p.F p.C p.G p.isa e ρ o
abbrev Pm.evAs (p : Pm) (e : IAs) (ρ : Frm) (o : Objs) : Res (List Slot) := Ev.evAs p.F p.C p.G p.isa e ρ o
abbrev Pm.evSrc (p : Pm) (e : ISrc) (ρ : Frm) (o : Objs) : Res (List D) := Ev.evSrc p.F p.C p.G p.isa e ρ o
abbrev Pm.evT (p : Pm) (e : IE) (ρ : Frm) (o : Objs) : Res Bool := Ev.evT p.F p.C p.G p.isa e ρ o

/-- an exception of the class c with these fields -/
def ExR (p : Pm) (K : PySem.W.Frag) (os : List Addr) (H : Hp) (c : Str) (xs : List D) (cls : Value) (d : Option Addr) : Prop :=
  cls = .ref (p.ad c) ∧ p.xok c ∧ ((xs = [] ∧ d = none) ∨ ∃ x dd v, xs = [x] ∧ d = some dd ∧ H dd = some (.xd [(p.fld c, v)]) ∧ Rep K os H x v)
section
variable {p : Pm} {K : PySem.W.Frag} {W : WX} {os os1 : List Addr} {H H1 : Hp} {o o1 : Objs} {σ : L2.St} {ρ : Frm} {α β : Type}
/-- what is wanted of an answer -/
def Out (p : Pm) (K : PySem.W.Frag) (W : WX) (σ : L2.St) (os : List Addr) (H : Hp) (r : Res α) (Q : α → Objs → List Addr → Hp → Prop) : Prop := match r with
  | .ok a o' => ∀ os' H', Post p.T os H os' H' → OOk K os' H' o' → Q a o' os' H'
  | .err c xs o' => ∀ os' H' cls d, Post p.T os H os' H' → OOk K os' H' o' → ExR p K os' H' c xs cls d → W cls d σ H'
  | .stuck => False
theorem Out.step {r : Res α} {Q : α → Objs → List Addr → Hp → Prop} (h : Out p K W σ os H r Q) (P : Post p.T os H os1 H1) : Out p K W σ os1 H1 r Q := by
  cases r with
  | ok a o' => exact fun os' H' P' => h os' H' (P.trans P')
  | err c xs o' => exact fun os' H' cls d P' => h os' H' cls d (P.trans P')
  | stuck => exact h
theorem Out.mono {r : Res α} {Q Q' : α → Objs → List Addr → Hp → Prop} (h : Out p K W σ os H r Q) (m : ∀ a o' os' H', r = .ok a o' → Post p.T os H os' H' → OOk K os' H' o' → Q a o' os' H' → Q' a o' os' H') : Out p K W σ os H r Q' := by
  cases r with
  | ok a o' => exact fun os' H' P' O' => m a o' os' H' rfl P' O' (h os' H' P' O')
  | err c xs o' => exact h
  | stuck => exact h
/-- .. where all that comes later is told -/
theorem Out.more {r : Res α} {Q Q' : α → Objs → List Addr → Hp → Prop} (h : Out p K W σ os H r Q) (m : ∀ a o' os' H', r = .ok a o' → Post p.T os H os' H' → OOk K os' H' o' → (∀ os2 H2, Post p.T os' H' os2 H2 → OOk K os2 H2 o' → Q a o' os2 H2) → Q' a o' os' H') : Out p K W σ os H r Q' := by
  cases r with
  | ok a o' => exact fun os' H' P' O' => m a o' os' H' rfl P' O' fun os2 H2 P2 O2 => h os2 H2 (P'.trans P2) O2
  | err c xs o' => exact h
  | stuck => exact h
theorem Out.bind {r : Res α} {f : α → Objs → Res β} {Q : β → Objs → List Addr → Hp → Prop} (h : Out p K W σ os H (r.bind f) Q) : Out p K W σ os H r fun a o' os' H' => Out p K W σ os' H' (f a o') Q := by
  cases r with
  | ok a o' => exact fun os' H' P' O' => Out.step (r := f a o') h P'
  | err c xs o' => exact h
  | stuck => exact h
theorem Out.ok {a : α} {Q : α → Objs → List Addr → Hp → Prop} (h : Out p K W σ os H (.ok a o) Q) (O : OOk K os H o) : Q a o os H := h os H .refl O
/-- .. of an answer that may lack -/
theorem Out.ofO {a : Option α} {Q : α → Objs → List Addr → Hp → Prop} (h : Out p K W σ os H (.ofO a o) Q) : ∃ b, a = some b ∧ Out p K W σ os H (.ok b o) Q := by
  cases a with
  | none => exact h.elim
  | some b => exact ⟨b, rfl, h⟩
end

/-- the state at a place: the frame, the shared objects, the tables -/
structure At (p : Pm) (K : PySem.W.Frag) (os : List Addr) (H : Hp) (σ : L2.St) (ρ : Frm) (o : Objs) : Prop where
  env : EnvOk K p.Sp os H σ ρ
  obs : OOk K os H o
  tab : LamX.Tabs p.T H
theorem At.next {p : Pm} {K : PySem.W.Frag} {os os' : List Addr} {H H' : Hp} {σ : L2.St} {ρ : Frm} {o o' : Objs} (a : At p K os H σ ρ o) (P : Post p.T os H os' H') (O : OOk K os' H' o') : At p K os' H' σ ρ o' :=
  ⟨a.env.post P a.obs, O, P.tab a.tab⟩
theorem At.same {p : Pm} {K : PySem.W.Frag} {os : List Addr} {H H' : Hp} {σ : L2.St} {ρ : Frm} {o : Objs} (a : At p K os H σ ρ o) (h : Same H H') : At p K os H' σ ρ o := a.next (.same h) (a.obs.same h)

/-! ### the readings -/
section
variable (p : Pm) (K : PySem.W.Frag) (W : WX)
/-- an expression's value -/
def tE (ie : IE) : TE := fun σ H Q => ∃ ρ os o, At p K os H σ ρ o ∧ Out p K W σ os H (p.evE ie ρ o) fun d _ os' H' => ∀ v, Rep K os' H' d v → Q v H'
/-- .. one that is only read -/
def tB (ie : IE) : TE := fun σ H Q => ∃ ρ os o, At p K os H σ ρ o ∧ Out p K W σ os H (p.evE ie ρ o) fun d _ os' H' => ∀ v, RepB K os' H' d v → Q v H'
/-- .. a new list -/
def tN (ie : IE) : TE := fun σ H Q => ∃ ρ os o, At p K os H σ ρ o ∧ Out p K W σ os H (p.evE ie ρ o) fun d _ os' H' => ∀ v ds a xs, d = .lst ds → v = .ref a → H a = none → a ∉ os' → H' a = some (.lst xs) → Reps K os' H' ds xs → Q v H'
/-- a test -/
def tT (ie : IE) : TT := fun σ H Q => ∃ ρ os o, At p K os H σ ρ o ∧ Out p K W σ os H (p.evE ie ρ o) fun d _ os' H' => ∃ k, d = .bl k ∧ Q k H'
def tVs (es : IEs) : TA := fun σ H Q => ∃ ρ os o, At p K os H σ ρ o ∧ Out p K W σ os H (p.evEs es ρ o) fun ds _ os' H' => ∀ vs, Reps K os' H' ds vs → Q vs H'
/-- values that are only read -/
def RepBs (os : List Addr) (H : Hp) : List D → List V → Prop
  | [], xs => xs = []
  | d :: ds, xs => ∃ x r, xs = x :: r ∧ RepB K os H d x ∧ RepBs os H ds r
def tBs (es : IEs) : TA := fun σ H Q => ∃ ρ os o, At p K os H σ ρ o ∧ Out p K W σ os H (p.evEs es ρ o) fun ds _ os' H' => ∀ vs, RepBs K os' H' ds vs → Q vs H'
end
section
variable {X : Cx} {p : Pm} {K : PySem.W.Frag} {W : WX}
/-- a reading that asks more -/
theorem pe_imp {e : Expr} {t t' : TE} (h : PE X e t) (m : ∀ σ H Q, t' σ H Q → t σ H Q) : PE X e t' := ⟨fun pins s σ H Q I q => h.run pins s σ H Q I (m σ H Q q)⟩
theorem pt_imp {e : Expr} {t t' : TT} (h : PT X e t) (m : ∀ σ H Q, t' σ H Q → t σ H Q) : PT X e t' := ⟨fun pins s σ H Q I q => h.run pins s σ H Q I (m σ H Q q)⟩
theorem pw_imp {e : Expr} {t t' : TT} (h : PW X e t) (m : ∀ σ H Q, t' σ H Q → t σ H Q) : PW X e t' := ⟨fun wh pins s σ H Q I q => h.run wh pins s σ H Q I (m σ H Q q)⟩
theorem pa_imp {e : List Expr} {t t' : TA} (h : PA X e t) (m : ∀ σ H Q, t' σ H Q → t σ H Q) : PA X e t' := ⟨fun pos pins s σ H Q I q => h.run pos pins s σ H Q I (m σ H Q q)⟩
theorem ps_imp {e : Stmt} {t t' : TS} (h : PS X e t) (m : ∀ D σ H, t' D σ H → t D σ H) : PS X e t' := ⟨fun pins s σ H D I q => h.run pins s σ H D I (m D σ H q)⟩
theorem pss_imp {e : List Stmt} {t t' : TS} (h : PSs X e t) (m : ∀ D σ H, t' D σ H → t D σ H) : PSs X e t' := ⟨fun pins s σ H D I q => h.run pins s σ H D I (m D σ H q)⟩
theorem tB_tE {ie : IE} {σ : L2.St} {H : Hp} {Q : VK} (h : tB p K W ie σ H Q) : tE p K W ie σ H Q := by
  obtain ⟨ρ, os, o, a, h⟩ := h
  exact ⟨ρ, os, o, a, h.mono fun d o' os' H' _ _ _ q v r => q v (.inl r)⟩
theorem pe_B {e : Expr} {ie : IE} (h : PE X e (tE p K W ie)) : PE X e (tB p K W ie) := pe_imp h fun _ _ _ => tB_tE

/-! ### names and constants -/
theorem ge_non {j pos} : PE X (.Constant .none j pos) (tE p K W .non) := pe_imp pe_non fun σ H Q ⟨ρ, os, o, a, h⟩ => h.ok a.obs _ (by unfold Rep; rfl)
theorem ge_bl {b j pos} : PE X (.Constant (.bool b) j pos) (tE p K W (.bl b)) := pe_imp pe_bl fun σ H Q ⟨ρ, os, o, a, h⟩ => h.ok a.obs _ (by unfold Rep; rfl)
theorem ge_int {i j pos} : PE X (.Constant (.int i) j pos) (tE p K W (.int i)) := pe_imp pe_int fun σ H Q ⟨ρ, os, o, a, h⟩ => h.ok a.obs _ (by unfold Rep; rfl)
theorem ge_str {x j pos} : PE X (.Constant (.str x) j pos) (tE p K W (.str x)) := pe_imp pe_str fun σ H Q ⟨ρ, os, o, a, h⟩ => h.ok a.obs _ (by unfold Rep; rfl)
theorem getV_some {ρ : Frm} {i : Nat} {d : D} (h : getV ρ i = some d) : ρ[i]? = some (.val d) := by
  unfold getV at h
  split at h
  · rename_i q; rw [q, Option.some.inj h]
  · cases h
theorem ge_var {i : Nat} {x : Str} {pos : Pos} (hN : X.N[i]? = some x) (hv : Vis X.env.scope x) (hd : (x == ("__debug__" : Str)) = false) (hcd : (x == ("__classdict__" : Str)) = false) : PE X (.Name x pos) (tE p K W (.var i)) := pe_imp (pe_var hN hv hd hcd) fun σ H Q ⟨ρ, os, o, a, h⟩ => by
  obtain ⟨d, e, h⟩ := Out.ofO (show Out p K W σ os H (.ofO (getV ρ i) o) _ from h)
  obtain ⟨v, e1, r⟩ := a.env.val i d (getV_some e)
  exact ⟨v, e1, h.ok a.obs v r⟩
theorem ge_bor {i : Nat} {x : Str} {pos : Pos} (hN : X.N[i]? = some x) (hv : Vis X.env.scope x) (hd : (x == ("__debug__" : Str)) = false) (hcd : (x == ("__classdict__" : Str)) = false) : PE X (.Name x pos) (tB p K W (.bor i)) := pe_imp (pe_var hN hv hd hcd) fun σ H Q ⟨ρ, os, o, a, h⟩ => by
  obtain ⟨d, e, h⟩ := Out.ofO (show Out p K W σ os H (.ofO (getB ρ i) o) _ from h)
  unfold getB at e
  split at e
  · rename_i d' q
    cases e
    obtain ⟨v, e1, r⟩ := a.env.val i d q
    exact ⟨v, e1, h.ok a.obs v (.inl r)⟩
  · rename_i d' q
    cases e
    obtain ⟨ds, b, xs, rfl, e2, n, e3, e4⟩ := a.env.own i d q
    exact ⟨.ref b, e2, h.ok a.obs _ (.inr ⟨ds, b, xs, rfl, rfl, n, e3, e4⟩)⟩
  · cases e
end
end Ev

set_option maxHeartbeats 1000000
/-! EvF: new values; operators by values. -/
namespace Ev
open PySem PySem.Spec PyProof.Rows L2

/-- a value just made: a list of its own, or a value -/
structure MkV (K : PySem.W.Frag) (os : List Addr) (H : Hp) (d : D) (v : V) (H' : Hp) : Prop where
  same : Same H H'
  rep : ((∀ ds, d ≠ .lst ds) ∧ Rep K os H' d v) ∨ ∃ ds a xs, d = .lst ds ∧ v = .ref a ∧ H a = none ∧ H' = upd H a (.lst xs) ∧ Reps K os H ds xs
section
variable {X : Cx} {p : Pm} {K : PySem.W.Frag} {W : WX} {os os1 : List Addr} {H H1 : Hp} {o o1 : Objs} {σ : L2.St} {ρ : Frm} {d : D} {v : V}
theorem Same.rfl' : Same H H := fun _ _ h => h
theorem MkV.old (n : ∀ ds, d ≠ .lst ds) (r : Rep K os H d v) : MkV K os H d v H := ⟨Same.rfl', .inl ⟨n, r⟩⟩
theorem MkV.lst {ds : List D} {a : Addr} {xs : List V} (h : H a = none) (r : Reps K os H ds xs) : MkV K os H (.lst ds) (.ref a) (upd H a (.lst xs)) := ⟨same_upd h, .inr ⟨ds, a, xs, rfl, rfl, h, rfl, r⟩⟩
theorem Reps.same (O : OOk K os H o) (s : Same H H1) {ds : List D} {xs : List V} (r : Reps K os H ds xs) : Reps K os H1 ds xs := Reps.post (T := []) (Post.same s) O ds r
theorem Rep.same (O : OOk K os H o) (s : Same H H1) (r : Rep K os H d v) : Rep K os H1 d v := Rep.post (T := []) (Post.same s) O d r
theorem MkV.tup (O : OOk K os H o) {ds : List D} {a : Addr} {xs : List V} (h : H a = none) (r : Reps K os H ds xs) : MkV K os H (.tup ds) (.ref a) (upd H a (.tup xs)) := by
  refine ⟨same_upd h, .inl ⟨fun _ e => (by cases e), ?_⟩⟩
  unfold Rep
  exact ⟨a, xs, rfl, .inl (.inl upd_same), r.same O (same_upd h), fun _ => upd_same⟩
theorem MkV.cur {ds : List D} {a : Addr} {xs : List V} (h : SqT K H a xs) (r : Reps K os H ds xs) (kt : KeyT H ds a xs) : MkV K os H (.tup ds) (.ref a) H := .old (fun _ e => nomatch e) (by unfold Rep; exact ⟨a, xs, rfl, h, r, kt⟩)
theorem Rep.mkInt (i : Int) : Rep K os H (.int i) (.int i) := by unfold Rep; rfl
theorem Rep.mkBl (i : Bool) : Rep K os H (.bl i) (.bl i) := by unfold Rep; rfl
theorem Rep.mkStr (i : Str) : Rep K os H (.str i) (.str i) := by unfold Rep; rfl
theorem Rep.mkNon : Rep K os H .non .non := by unfold Rep; rfl
theorem MkV.int (i : Int) : MkV K os H (.int i) (.int i) H := .old (fun _ e => nomatch e) (.mkInt i)
theorem MkV.bl (i : Bool) : MkV K os H (.bl i) (.bl i) H := .old (fun _ e => nomatch e) (.mkBl i)
theorem MkV.str (i : Str) : MkV K os H (.str i) (.str i) H := .old (fun _ e => nomatch e) (.mkStr i)
theorem MkV.post {T : Tbs} {H' : Hp} (m : MkV K os H d v H') : Post T os H os H' := .same m.same
/-- locked -/
theorem MkV.fin (O : OOk K os H o) {H' : Hp} (m : MkV K os H d v H') : (Rep K os H' d v) ∨ ∃ a xs, v = .ref a ∧ H' a = some (.lst xs) ∧ ∀ od, Same H (upd H' a (.frz od (.lst xs))) ∧ Rep K os (upd H' a (.frz od (.lst xs))) d v := by
  rcases m.rep with ⟨_, r⟩ | ⟨ds, a, xs, rfl, rfl, hn, rfl, r⟩
  · exact .inl r
  · refine .inr ⟨a, xs, rfl, upd_same, fun od => ?_⟩
    rw [upd_upd]
    refine ⟨same_upd hn, ?_⟩
    unfold Rep
    exact ⟨a, xs, rfl, ⟨od, upd_same⟩, r.same O (same_upd hn)⟩
end
section
variable (p : Pm) (K : PySem.W.Frag) (W : WX)
/-- an expression that makes its value -/
def tM (ie : IE) : TE := fun σ H Q => ∃ ρ os o, At p K os H σ ρ o ∧ Out p K W σ os H (p.evE ie ρ o) fun d _ os' H' => ∀ v H2, MkV K os' H' d v H2 → Q v H2
end
section
variable {X : Cx} {p : Pm} {K : PySem.W.Frag} {W : WX}
theorem pe_lk {e : Expr} {t : TE} (h : PE X e t) : PE X e (fun σ H Q => t σ H fun v H' => Q v H' ∨ ∃ a u, H' a = some u ∧ Mut (some u) ∧ ∀ od, Q v (upd H' a (.frz od u))) := by
  refine ⟨fun pins s σ H Q I hw => thn (h.run pins s σ H _ I hw) fun v s1 ⟨x, H1, I1, r, q⟩ => ?_⟩
  rcases q with q | ⟨a, u, e1, m, q⟩
  · exact ⟨x, H1, I1, r, q⟩
  · obtain ⟨od, I2⟩ := I1.lock e1 m
    exact ⟨x, _, I2, r, q od⟩
/-- what is made is locked -/
theorem pe_M {e : Expr} {ie : IE} (h : PE X e (tM p K W ie)) : PE X e (tE p K W ie) := pe_imp (pe_lk h) fun σ H Q ⟨ρ, os, o, a, h⟩ => by
  refine ⟨ρ, os, o, a, h.more fun d o' os' H' _ P O q v H2 m => ?_⟩
  rcases m.fin O with r | ⟨b, xs, rfl, e1, h2⟩
  · exact .inl (q os' H2 m.post (O.same m.same) v r)
  · refine .inr ⟨b, _, e1, True.intro, fun od => ?_⟩
    obtain ⟨s2, r2⟩ := h2 od
    exact q os' _ (.same s2) (O.same s2) _ r2
/-- a value that needs no making -/
theorem pe_Mv {e : Expr} {ie : IE} (h : PE X e (tE p K W ie)) (n : ∀ ρ o d o', p.evE ie ρ o = .ok d o' → ∀ ds, d ≠ .lst ds) : PE X e (tM p K W ie) := pe_imp h fun σ H Q ⟨ρ, os, o, a, h⟩ =>
  ⟨ρ, os, o, a, h.mono fun d o' os' H' e P O q v r => q v H' (.old (n ρ o d o' e) r)⟩

/-! ### one operand, two operands -/
variable {os : List Addr} {H : Hp} {o : Objs} {σ : L2.St} {ρ : Frm} {α : Type}
theorem tB_of {a : IE} {R : VK} (A : At p K os H σ ρ o) {f : D → Objs → Res α} {Q : α → Objs → List Addr → Hp → Prop} (h : Out p K W σ os H ((p.evE a ρ o).bind f) Q)
    (hR : ∀ d o' os' H' v, Post p.T os H os' H' → At p K os' H' σ ρ o' → RepB K os' H' d v → Out p K W σ os' H' (f d o') Q → R v H') : tB p K W a σ H R :=
  ⟨ρ, os, o, A, h.bind.mono fun d o' os' H' _ P O q v r => hR d o' os' H' v P (A.next P O) r q⟩
theorem tE_of {a : IE} {R : VK} (A : At p K os H σ ρ o) {f : D → Objs → Res α} {Q : α → Objs → List Addr → Hp → Prop} (h : Out p K W σ os H ((p.evE a ρ o).bind f) Q)
    (hR : ∀ d o' os' H' v, Post p.T os H os' H' → At p K os' H' σ ρ o' → Rep K os' H' d v → Out p K W σ os' H' (f d o') Q → R v H') : tE p K W a σ H R :=
  ⟨ρ, os, o, A, h.bind.mono fun d o' os' H' _ P O q v r => hR d o' os' H' v P (A.next P O) r q⟩
end

/-! ### two-place operators -/
section
variable {X : Cx} {p : Pm} {W : WX}
/-- list + list -/
theorem op_catR : OpR X (binaryOp .Add) (fun x y H Q => ∃ l b xs zs, x = .ref l ∧ y = .ref b ∧ Rd H l (.lst xs) ∧ Rd H b (.lst zs) ∧ xs.length + zs.length ≤ sizeLine ∧ ∀ p, H p = none → Q (.ref p) (upd H p (.lst (xs ++ zs)))) := by
  intro pins s σ H x y v u Q I rx ry h
  obtain ⟨l, b, xs, zs, rfl, rfl, hH, hB, hz, q⟩ := h
  cases rx
  cases ry
  obtain ⟨z, its, n, r, e⟩ := hH.ok I.hok
  obtain ⟨z2, its2, n2, r2, e2⟩ := hB.ok I.hok
  have hl := r.length
  have hl2 := r2.length
  refine PySem.P.add_list e e2 ?_ (by rw [List.size_toArray, List.size_toArray]; omega)
  have ea : its.toArray ++ its2.toArray = (its ++ its2).toArray := by simp
  rw [ea]
  exact ⟨.ref _, _, I.lnew (t' := s.toks) (r.append r2) (by rw [List.length_append]; omega), rfl, q _ I.fresh⟩
/-- list * int -/
theorem op_repR : OpR X (binaryOp .Mult) (fun x y H Q => ∃ l k xs, x = .ref l ∧ y = .int k ∧ Rd H l (.lst xs) ∧ -(2 ^ 63) ≤ k ∧ k < 2 ^ 63 ∧ xs.length * k.toNat ≤ sizeLine ∧
  ∀ p, H p = none → Q (.ref p) (upd H p (.lst (List.replicate k.toNat xs).flatten))) := by
  intro pins s σ H x y v u Q I rx ry h
  obtain ⟨l, k, xs, rfl, rfl, hH, h1, h2, hz, q⟩ := h
  cases rx
  obtain ⟨t, rfl⟩ := ry
  obtain ⟨z, its, n, r, e⟩ := hH.ok I.hok
  have hl := r.length
  have hlen : its.toArray.size * k.toNat ≤ sizeLine := by rw [List.size_toArray, ← hl]; exact hz
  have hcap : ¬ its.toArray.size * k.toNat > (2 ^ 63 - 1) / 8 := by
    have : (sizeLine : Nat) ≤ (2 ^ 63 - 1) / 8 := by decide
    omega
  have hfit : ¬ (!Builtin.List.listFitsIndex k) = true := by
    rw [fitsIndex_both h1 h2]
    exact Bool.false_ne_true
  have hlong : ¬ Builtin.List.listTooLong (its.toArray.size * k.toNat) = true := by
    rw [notLongL hlen]
    exact Bool.false_ne_true
  have hnew : List.foldl (fun x1 x2 => x1 ++ x2) #[] (List.replicate (if its.toArray.isEmpty = true then 0 else k.toNat) its.toArray) = (List.replicate k.toNat its).flatten.toArray := by
    rw [show ∀ m : Nat, List.foldl (fun x1 x2 => x1 ++ x2) #[] (List.replicate m its.toArray) = (List.replicate m its).flatten.toArray from fun m => by have := foldl_rep its m []; rw [List.nil_append] at this; exact this]
    cases its with
    | nil => simp
    | cons a r' => rw [if_neg (by simp)]
  refine wpAny_binaryOp_repeat_ref (T := "list") (U := "int") (by decide) ⟨_, e, rfl⟩ (fun s' => typeIs_int s' k t) noFill_list_mul F.fills_int_mul F.slot_int_rmul repeat_list F.slot_int_index.lookup
    (call_meets F.slot_int_rmul (typeIs_int s k t) F.entry_int_rmul (F.args_int_rmul_2 _ _) (int___rmul___int_list k t l its.toArray n)
      ⟨e, rfl, ⟨_, e, rfl⟩, call_meets F.slot_list_mul ⟨_, e, rfl⟩ F.entry_list_mul (F.args_list_mul_2 _ _) (AutoListH.list___mul___list_int_3 l its.toArray n k t hfit hcap hlong) ⟨e, ?_⟩⟩)
  rw [hnew]
  exact ⟨.ref _, _, I.lnew (t' := s.toks) (r.rep k.toNat) (by rw [PyProof.Rows.lm_len_rep_flat, Nat.mul_comm]; exact hz), rfl, q _ I.fresh⟩
/-- a tuple times one -/
theorem tuple_mul1 (l : Addr) (items : Array Value) (n : Nat) (dd : Option Addr) (sl : Array (Option Value)) (x : Int) (u : Tok) (c0 : (decide (x < -(2 ^ 63)) || decide (x ≥ 2 ^ 63)) = false) (c1 : (items.isEmpty || x == 1) = true) :
    Meets (Builtin.«tuple.__mul__» ⟨[.ref l, .int x u], []⟩) (fun _ R s => s.heap.get? l = some { cls := .type "tuple", dict := dd, data := .seq items n, slots := sl } ∧ R (.ok (.ret (Value.ref l))) s) :=
  .of_wp fun prog w A R s h => by
    obtain ⟨hp, g, d, tk, os⟩ := s
    obtain ⟨hl, h⟩ := h
    have f1 := AutoSeq1.idx_int
    wp_walk using wpAny_loadPart' hl
    repeat (first
      | (refine wpAny_ite_false (decide_eq_false (by rw [c0]; exact Bool.false_ne_true)) ?_; wp_walk using wpAny_loadPart' hl)
      | (refine wpAny_ite_true (decide_eq_true c1) ?_; wp_walk using wpAny_loadPart' hl))
    exact ⟨_, rfl, h⟩
theorem op_repT1 : OpR X (binaryOp .Mult) (fun x y H Q => ∃ l xs, x = .ref l ∧ y = .int 1 ∧ SqT X.K H l xs ∧ Q (.ref l) H) := by
  intro pins s σ H x y v u Q I rx ry h
  obtain ⟨l, xs, rfl, rfl, hT, q⟩ := h
  cases rx
  obtain ⟨t, rfl⟩ := ry
  obtain ⟨its, r, ⟨⟨cls, dd, data, sl⟩, ho, hc, n, hd⟩, hs⟩ := I.tuple hT
  simp only at hc hd
  subst hc hd
  refine wpAny_binaryOp_repeat_ref (T := "tuple") (U := "int") (by decide) ⟨_, ho, rfl⟩ (fun s' => typeIs_int s' 1 t) noFill_tuple_mul F.fills_int_mul F.slot_int_rmul repeat_tuple F.slot_int_index.lookup
    (call_meets F.slot_int_rmul (typeIs_int s 1 t) F.entry_int_rmul (F.args_int_rmul_2 _ _) (int_rmul_tuple 1 t l its.toArray n dd sl)
      ⟨ho, rfl, ⟨_, ho, rfl⟩, call_meets F.slot_tuple_mul ⟨_, ho, rfl⟩ F.entry_tuple_mul (F.args_tuple_mul_2 _ _) (tuple_mul1 l its.toArray n dd sl 1 t (by decide) (by simp)) ⟨ho, ?_⟩⟩)
  exact ⟨.ref l, H, I, rfl, q⟩

theorem szP {n : Nat} (h : sz n = true) : n ≤ sizeLine := of_decide_eq_true h
/-- what an operator makes -/
def rBin (K : PySem.W.Frag) (op : Operator) : R2 := fun vx vy H Q => ∃ os o x y d, OOk K os H o ∧ RepB K os H x vx ∧ RepB K os H y vy ∧ binD op x y = some d ∧ ∀ v H', MkV K os H d v H' → Q v H'
theorem op_bin {op : Operator} : OpR X (binaryOp op) (rBin X.K op) := by
  intro pins s σ H vx vy v u Q I rx ry ⟨os, o, x, y, d, O, hx, hy, e, q⟩
  unfold binD at e
  split at e
  · cases e
    rw [hx.int] at rx
    rw [hy.int] at ry
    exact op_add pins s σ H _ _ v u Q I rx ry ⟨_, _, rfl, rfl, q _ _ (.int _)⟩
  · split at e <;> cases e
    rename_i h
    rw [hx.str] at rx
    rw [hy.str] at ry
    exact op_add_str pins s σ H _ _ v u Q I rx ry ⟨_, _, rfl, rfl, szP h, q _ _ (.str _)⟩
  · split at e <;> cases e
    rename_i h
    obtain ⟨a, xs, rfl, h1, h2, h3⟩ := hx.tupK
    obtain ⟨b, ys, rfl, g1, g2, g3⟩ := hy.tupK
    have z := szP h
    rw [← h2.length, ← g2.length] at z
    refine op_catA pins s σ H _ _ v u Q I rx ry ⟨a, b, xs, ys, rfl, rfl, h1, g1, z, fun e => ?_, fun _ e => ?_, fun _ _ c hc => ?_⟩
    · have h2' := h2.append g2
      rw [e, List.nil_append] at h2'
      exact q _ _ (.cur g1 h2' fun w => g3 (by rw [List.all_append, Bool.and_eq_true] at w; exact w.2))
    · have h2' := h2.append g2
      rw [e, List.append_nil] at h2'
      exact q _ _ (.cur h1 h2' fun w => h3 (by rw [List.all_append, Bool.and_eq_true] at w; exact w.1))
    · exact q _ _ (.tup O hc (h2.append g2))
  · split at e <;> cases e
    rename_i h
    obtain ⟨a, xs, rfl, h1, h2⟩ := hx.lstR
    obtain ⟨b, ys, rfl, g1, g2⟩ := hy.lstR
    have z := szP h
    rw [← h2.length, ← g2.length] at z
    exact op_catR pins s σ H _ _ v u Q I rx ry ⟨a, b, xs, ys, rfl, rfl, h1, g1, z, fun c hc => q _ _ (.lst hc (h2.append g2))⟩
  · cases e
    rw [hx.int] at rx
    rw [hy.int] at ry
    exact op_sub pins s σ H _ _ v u Q I rx ry ⟨_, _, rfl, rfl, q _ _ (.int _)⟩
  · split at e <;> cases e
    rename_i h
    rw [hx.int] at rx
    rw [hy.int] at ry
    exact op_mulW pins s σ H _ _ v u Q I rx ry ⟨_, _, rfl, rfl, (by unfold mulOk at h; have h2 := of_decide_eq_true h; exact h2), q _ _ (.int _)⟩
  · split at e <;> cases e
    rename_i k h
    obtain ⟨a, xs, rfl, h1, h2, h3⟩ := hx.tupK
    rw [hy.int] at ry
    unfold tupOk at h
    simp only [Bool.and_eq_true, decide_eq_true_eq] at h
    have hl := h2.length
    by_cases hk : k = 1
    · subst hk
      refine op_repT1 pins s σ H _ _ v u Q I rx ry ⟨a, xs, rfl, rfl, h1, ?_⟩
      refine q _ _ (.cur h1 ?_ fun w => h3 (by simpa using w))
      have := h2.rep 1
      simpa using this
    · refine op_repT pins s σ H _ _ v u Q I rx ry ⟨a, _, xs, rfl, rfl, h1, fun e => ?_, by omega, by omega, by omega, fun c hc => q _ _ (.tup O hc (h2.rep _))⟩
      rw [e] at hl
      simp at hl
      omega
  · split at e <;> cases e
    rename_i k h
    obtain ⟨a, xs, rfl, h1, h2⟩ := hx.lstR
    rw [hy.int] at ry
    unfold repOk at h
    simp only [Bool.and_eq_true, decide_eq_true_eq] at h
    rw [← h2.length] at h
    exact op_repR pins s σ H _ _ v u Q I rx ry ⟨a, _, xs, rfl, rfl, h1, h.1, h.2.1, h.2.2, fun c hc => q _ _ (.lst hc (h2.rep _))⟩
  · split at e <;> cases e
    rename_i h
    rw [hx.int] at rx
    rw [hy.int] at ry
    unfold divOk at h
    simp only [Bool.and_eq_true, decide_eq_true_eq] at h
    exact op_fdivW pins s σ H _ _ v u Q I rx ry ⟨_, _, rfl, rfl, ⟨h.1, h.2⟩, q _ _ (.int _)⟩
  · split at e <;> cases e
    rename_i h
    rw [hx.int] at rx
    rw [hy.int] at ry
    exact op_mod pins s σ H _ _ v u Q I rx ry ⟨_, _, rfl, rfl, of_decide_eq_true h, q _ _ (.int _)⟩
  · split at e <;> cases e
    rename_i h
    rw [hx.int] at rx
    rw [hy.int] at ry
    unfold powOk at h
    simp only [Bool.and_eq_true, decide_eq_true_eq] at h
    exact op_pow pins s σ H _ _ v u Q I rx ry ⟨_, _, rfl, rfl, ⟨h.1, h.2.1, h.2.2⟩, q _ _ (.int _)⟩
  · cases e

/-! ### comparisons -/
def rCmp (K : PySem.W.Frag) (op : CmpOp) : R2 := fun vx vy H Q => ∃ os x y d, RepB K os H x vx ∧ RepB K os H y vy ∧ cmpD op x y = some d ∧ ∀ b, d = .bl b → Q (.bl b) H
theorem cmpD_bl {op : CmpOp} {x y d : D} (h : cmpD op x y = some d) : ∃ b, d = .bl b := by
  unfold cmpD at h
  split at h <;> (obtain ⟨b, _, e⟩ := Option.map_eq_some_iff.mp h; exact ⟨_, e.symm⟩)
theorem eqD_some {x y : D} {b : Bool} (h : eqD x y = some b) : ∃ e f, x.py = some e ∧ y.py = some f ∧ SeqAt.shaped e = true ∧ SeqAt.shaped f = true ∧ b = PyData.eqv e f := by
  unfold eqD at h
  split at h
  · rename_i e f h1 h2
    split at h <;> cases h
    rename_i hs
    rw [Bool.and_eq_true] at hs
    exact ⟨e, f, h1, h2, hs.1, hs.2, rfl⟩
  · cases h
theorem ltD_some {x y : D} {b : Bool} (h : ltD x y = some b) : ∃ i j, x = .int i ∧ y = .int j ∧ b = decide (i < j) := by
  unfold ltD at h
  split at h <;> cases h
  exact ⟨_, _, rfl, rfl, rfl⟩
theorem leD_some {x y : D} {b : Bool} (h : leD x y = some b) : ∃ i j, x = .int i ∧ y = .int j ∧ b = decide (i ≤ j) := by
  unfold leD at h
  split at h <;> cases h
  exact ⟨_, _, rfl, rfl, rfl⟩
theorem inD_some {K : PySem.W.Frag} {os : List Addr} {H : Hp} {x y : D} {b : Bool} {vx vy : V} (h : inD x y = some b) (hx : RepB K os H x vx) (hy : RepB K os H y vy) :
    ∃ q xs, vy = .ref q ∧ (SqL K H q xs ∨ SqT K H q xs) ∧ flatV vx = true ∧ xs.all flatV = true ∧ b = inV vx xs := by
  have go : ∀ (ds : List D) (xs : List V), (if flatD x && ds.all flatD then some (ds.any fun y => Ev.eqF y x) else none) = some b → Reps K os H ds xs → flatV vx = true ∧ xs.all flatV = true ∧ b = inV vx xs := fun ds xs e r => by
    split at e <;> cases e
    rename_i hf
    rw [Bool.and_eq_true] at hf
    have hx' : Rep K os H x vx := hx.of_ne fun ds e => by rw [e] at hf; cases hf.1
    exact ⟨hx'.flat hf.1, r.flats hf.2, (Reps.anyF hx' hf.1 r hf.2).symm⟩
  unfold inD at h
  split at h
  · obtain ⟨a, xs, rfl, h1, h2⟩ := hy.tup
    obtain ⟨e1, e2, e3⟩ := go _ xs h h2
    exact ⟨a, xs, rfl, .inr h1, e1, e2, e3⟩
  · obtain ⟨a, xs, rfl, h1, h2⟩ := hy.lst
    obtain ⟨e1, e2, e3⟩ := go _ xs h h2
    exact ⟨a, xs, rfl, .inl h1, e1, e2, e3⟩
  · obtain ⟨a, xs, rfl, h1, h2⟩ := hy.kt
    obtain ⟨e1, e2, e3⟩ := go _ xs h h2
    exact ⟨a, xs, rfl, .inr h1, e1, e2, e3⟩
  · cases h
theorem op_cmp {op : CmpOp} (hu : X.A.units + 64 < cLine) : OpR X (compareOp op) (rCmp X.K op) := by
  intro pins s σ H vx vy v u Q I rx ry ⟨os, x, y, d, hx, hy, e, q⟩
  have nonB : ∀ {z : D} {w : V}, RepB X.K os H z w → isNonD z = decide (w = .non) := fun {z w} h => by
    cases z with
    | non => rw [h.non]; rfl
    | lst ds => obtain ⟨a, xs, e, _⟩ := h.lst; rw [e]; rfl
    | tup ds => obtain ⟨a, xs, e, _⟩ := h.tup; rw [e]; rfl
    | kt ds => obtain ⟨a, xs, e, _⟩ := h.kt; rw [e]; rfl
    | int i => rw [h.int]; rfl
    | bl i => rw [h.bl]; rfl
    | str i => rw [h.str]; rfl
    | dct ks vs =>
      have h' := h.of_ne fun _ e => nomatch e
      unfold Rep at h'
      obtain ⟨_, _, a, _, e, _⟩ := h'
      rw [e]; rfl
    | obj i =>
      have h' := h.of_ne fun _ e => nomatch e
      unfold Rep at h'
      obtain ⟨a, _, e⟩ := h'
      rw [e]; rfl
  unfold cmpD at e
  split at e
  · obtain ⟨b, e1, rfl⟩ := Option.map_eq_some_iff.mp e
    obtain ⟨c, f, h1, h2, s1, s2, rfl⟩ := eqD_some e1
    exact op_eqD hu pins s σ H _ _ v u Q I rx ry ⟨c, f, hx.dp h1, hy.dp h2, s1, s2, q _ rfl⟩
  · obtain ⟨b, e1, rfl⟩ := Option.map_eq_some_iff.mp e
    obtain ⟨c, f, h1, h2, s1, s2, rfl⟩ := eqD_some e1
    exact op_neD hu pins s σ H _ _ v u Q I rx ry ⟨c, f, hx.dp h1, hy.dp h2, s1, s2, q _ rfl⟩
  · obtain ⟨b, e1, rfl⟩ := Option.map_eq_some_iff.mp e
    obtain ⟨i, j, rfl, rfl, rfl⟩ := ltD_some e1
    rw [hx.int] at rx
    rw [hy.int] at ry
    exact op_lt pins s σ H _ _ v u Q I rx ry ⟨i, j, rfl, rfl, q _ rfl⟩
  · obtain ⟨b, e1, rfl⟩ := Option.map_eq_some_iff.mp e
    obtain ⟨i, j, rfl, rfl, rfl⟩ := leD_some e1
    rw [hx.int] at rx
    rw [hy.int] at ry
    exact op_le pins s σ H _ _ v u Q I rx ry ⟨i, j, rfl, rfl, q _ rfl⟩
  · obtain ⟨b, e1, rfl⟩ := Option.map_eq_some_iff.mp e
    obtain ⟨i, j, rfl, rfl, rfl⟩ := ltD_some e1
    rw [hx.int] at rx
    rw [hy.int] at ry
    exact op_gt pins s σ H _ _ v u Q I rx ry ⟨_, _, rfl, rfl, q _ rfl⟩
  · obtain ⟨b, e1, rfl⟩ := Option.map_eq_some_iff.mp e
    obtain ⟨i, j, rfl, rfl, rfl⟩ := leD_some e1
    rw [hx.int] at rx
    rw [hy.int] at ry
    exact op_ge pins s σ H _ _ v u Q I rx ry ⟨_, _, rfl, rfl, q _ rfl⟩
  · obtain ⟨b, e1, rfl⟩ := Option.map_eq_some_iff.mp e
    unfold isD at e1
    split at e1
    · cases e1
      rw [hy.non] at ry
      have := q _ rfl
      rw [nonB hx] at this
      exact op_isN pins s σ H _ _ v u Q I rx ry ⟨rfl, this⟩
    · cases e1
      rw [hx.bl] at rx
      rw [hy.bl] at ry
      exact L2.op_is_bl pins s σ H _ _ v u Q I rx ry ⟨_, _, rfl, rfl, q _ rfl⟩
    · cases e1
  · obtain ⟨b, e1, rfl⟩ := Option.map_eq_some_iff.mp e
    unfold isD at e1
    split at e1
    · cases e1
      rw [hy.non] at ry
      have := q _ rfl
      rw [nonB hx] at this
      exact op_notN pins s σ H _ _ v u Q I rx ry ⟨rfl, this⟩
    · cases e1
      rw [hx.bl] at rx
      rw [hy.bl] at ry
      exact L2.op_isnot_bl pins s σ H _ _ v u Q I rx ry ⟨_, _, rfl, rfl, q _ rfl⟩
    · cases e1
  · obtain ⟨b, e1, rfl⟩ := Option.map_eq_some_iff.mp e
    obtain ⟨a, xs, rfl, h1, h2, h3, rfl⟩ := inD_some e1 hx hy
    exact op_in_seq pins s σ H _ _ v u Q I rx ry ⟨a, xs, rfl, h1, h2, h3, q _ rfl⟩
  · obtain ⟨b, e1, rfl⟩ := Option.map_eq_some_iff.mp e
    obtain ⟨a, xs, rfl, h1, h2, h3, rfl⟩ := inD_some e1 hx hy
    exact op_notIn_seq pins s σ H _ _ v u Q I rx ry ⟨a, xs, rfl, h1, h2, h3, q _ rfl⟩
end
end Ev

set_option maxHeartbeats 1000000
/-! EvG: the rules of expressions. -/
namespace Ev
open PySem PySem.Spec PyProof.Rows L2

theorem Res.bind_assoc {α β γ : Type} (r : Res α) (f : α → Objs → Res β) (g : β → Objs → Res γ) : (r.bind f).bind g = r.bind fun a o => (f a o).bind g := by
  cases r <;> rfl
section
variable {X : Cx} {p : Pm} {K : PySem.W.Frag} {W : WX} {os : List Addr} {H : Hp} {o : Objs} {σ : L2.St} {ρ : Frm} {α : Type} {ea eb ec : Expr} {a b c : IE} {pos : Pos}
theorem Rep.int {i : Int} {v : V} (h : Rep K os H (.int i) v) : v = .int i := by unfold Rep at h; exact h
theorem Rep.bl {i : Bool} {v : V} (h : Rep K os H (.bl i) v) : v = .bl i := by unfold Rep at h; exact h
theorem Rep.tup {ds : List D} {v : V} (h : Rep K os H (.tup ds) v) : ∃ a xs, v = .ref a ∧ SqT K H a xs ∧ Reps K os H ds xs := RepB.tup (.inl h)
theorem Rep.lst {ds : List D} {v : V} (h : Rep K os H (.lst ds) v) : ∃ a xs, v = .ref a ∧ SqF K H a xs ∧ Reps K os H ds xs := by unfold Rep at h; exact h
/-- a test, by its value -/
def tst (Q : Bool → Hp → Prop) : VK := fun v H => ∃ k, v = .bl k ∧ Q k H
theorem tT_tE {ie : IE} {Q : Bool → Hp → Prop} (h : tT p K W ie σ H Q) : tE p K W ie σ H (tst Q) := by
  obtain ⟨ρ, os, o, A, h⟩ := h
  refine ⟨ρ, os, o, A, h.mono fun d o' os' H' _ P O q v r => ?_⟩
  obtain ⟨k, rfl, q⟩ := q
  exact ⟨k, r.bl, q⟩
theorem pt_of {e : Expr} {ie : IE} {t : TE} (h : PT X e (tTest t)) (m : ∀ σ H Q, tE p K W ie σ H Q → t σ H Q) : PT X e (tT p K W ie) := pt_imp h fun σ H Q q => m _ _ _ (tT_tE q)
theorem pt_plain {e : Expr} {ie : IE} (h : PE X e (tE p K W ie)) (he : ∀ whole, isTrue e X.env whole = (do let v ← whole; standAt e.pos; holding [v] (truthy v))) : PT X e (tT p K W ie) :=
  pt_imp (pt_val h he) fun σ H Q q => tT_tE q
/-! #### two-place -/
theorem ge_bin {op : Operator} (ha : PE X ea (tB p X.K W a)) (hb : PE X eb (tB p X.K W b)) : PE X (.BinOp ea op eb pos) (tM p X.K W (.bin op a b)) :=
  pe_imp (pe_op op_bin ha hb) fun σ H Q ⟨ρ, os, o, A, h⟩ => tB_of A h fun x o1 os1 H1 vx P1 A1 r1 h1 => tB_of A1 h1 fun y o2 os2 H2 vy P2 A2 r2 h2 => by
    obtain ⟨d, e, h3⟩ := h2.ofO
    exact ⟨os2, o2, x, y, d, A2.obs, r1.post P2 A1.obs, r2, e, h3.ok A2.obs⟩
theorem im_cmp {op : CmpOp} {Q : VK} (h : tE p K W (.cmp op a b) σ H Q) : tOp (rCmp K op) (tB p K W a) (tB p K W b) σ H Q := by
  obtain ⟨ρ, os, o, A, h⟩ := h
  refine tB_of A h fun x o1 os1 H1 vx P1 A1 r1 h1 => tB_of A1 h1 fun y o2 os2 H2 vy P2 A2 r2 h2 => ?_
  obtain ⟨d, e, h3⟩ := h2.ofO
  refine ⟨os2, x, y, d, r1.post P2 A1.obs, r2, e, fun k ek => ?_⟩
  subst ek
  exact h3.ok A2.obs _ (.mkBl k)
theorem ge_cmp {op : CmpOp} (hu : X.A.units + 64 < cLine) (ha : PE X ea (tB p X.K W a)) (hb : PE X eb (tB p X.K W b)) (hm : behindInMarks op eb = false) : PE X (.Compare ea [op] [eb] pos) (tE p X.K W (.cmp op a b)) :=
  pe_imp (pe_cmpR (op_cmp hu) ha hb hm) fun σ H Q => im_cmp
theorem gt_cmp {op : CmpOp} (hu : X.A.units + 64 < cLine) (ha : PE X ea (tB p X.K W a)) (hb : PE X eb (tB p X.K W b)) (hm : behindInMarks op eb = false) : PT X (.Compare ea [op] [eb] pos) (tT p X.K W (.cmp op a b)) :=
  pt_of (pt_cmpR (op_cmp hu) ha hb hm) fun σ H Q => im_cmp
theorem im_chain {op op' : CmpOp} {Q : VK} (h : tE p K W (.chain op op' a b c) σ H Q) : tChain (rCmp K op) (rCmp K op') (tE p K W a) (tE p K W b) (tE p K W c) σ H Q := by
  obtain ⟨ρ, os, o, A, h⟩ := h
  refine tE_of A h fun x o1 os1 H1 vx P1 A1 r1 h1 => tE_of A1 h1 fun y o2 os2 H2 vy P2 A2 r2 h2 => ?_
  cases e : cmpD op x y with
  | none => rw [e] at h2; exact h2.elim
  | some d =>
    obtain ⟨k, rfl⟩ := cmpD_bl e
    rw [e] at h2
    refine ⟨os2, x, y, _, .inl (Rep.post P2 A1.obs x r1), .inl r2, e, fun k' ek => ?_⟩
    cases ek
    refine ⟨k, rfl, ?_⟩
    cases k with
    | false => exact h2.ok A2.obs _ (.mkBl false)
    | true =>
      refine tE_of A2 h2 fun z o3 os3 H3 vz P3 A3 r3 h3 => ?_
      obtain ⟨d, e', h4⟩ := h3.ofO
      refine ⟨os3, y, z, d, .inl (Rep.post P3 A2.obs y r2), .inl r3, e', fun k ek => ?_⟩
      subst ek
      exact h4.ok A3.obs _ (.mkBl k)
theorem ge_chain {op op' : CmpOp} (hu : X.A.units + 64 < cLine) (ha : PE X ea (tE p X.K W a)) (hb : PE X eb (tE p X.K W b)) (hc : PE X ec (tE p X.K W c)) (hm : lastMarks [op, op'] [eb, ec] = false) :
    PE X (.Compare ea [op, op'] [eb, ec] pos) (tE p X.K W (.chain op op' a b c)) := pe_imp (pe_chain (op_cmp hu) (op_cmp hu) ha hb hc hm) fun σ H Q => im_chain
theorem gt_chain {op op' : CmpOp} (hu : X.A.units + 64 < cLine) (ha : PE X ea (tE p X.K W a)) (hb : PE X eb (tE p X.K W b)) (hc : PE X ec (tE p X.K W c)) (hm : lastMarks [op, op'] [eb, ec] = false) :
    PT X (.Compare ea [op, op'] [eb, ec] pos) (tT p X.K W (.chain op op' a b c)) := pt_of (pt_chain (op_cmp hu) (op_cmp hu) ha hb hc hm) fun σ H Q => im_chain
/-! #### and, or, not, if -/
theorem ge_neg (ha : PE X ea (tE p X.K W a)) : PE X (.UnaryOp .USub ea pos) (tE p X.K W (.neg a)) := pe_imp (pe_un un_neg ha) fun σ H Q ⟨ρ, os, o, A, h⟩ => tE_of A h fun x o1 os1 H1 vx P1 A1 r1 h1 => by
  obtain ⟨d, e, h2⟩ := h1.ofO
  unfold negD at e
  split at e <;> cases e
  exact ⟨_, r1.int, h2.ok A1.obs _ (.mkInt _)⟩
theorem ge_not (ha : PE X ea (tE p X.K W a)) : PE X (.UnaryOp .Not ea pos) (tE p X.K W (.not a)) := pe_imp (pe_not ha) fun σ H Q ⟨ρ, os, o, A, h⟩ => tE_of A h fun x o1 os1 H1 vx P1 A1 r1 h1 => by
  cases x with
  | bl k => exact ⟨k, r1.bl, h1.ok A1.obs _ (.mkBl _)⟩
  | _ => exact h1.elim
theorem tT_of {a : IE} {R : Bool → Hp → Prop} (A : At p K os H σ ρ o) {f : D → Objs → Res α} {Q : α → Objs → List Addr → Hp → Prop} (h : Out p K W σ os H ((p.evE a ρ o).bind f) Q) (hf : ∀ d o, (∀ k, d ≠ .bl k) → f d o = .stuck)
    (hR : ∀ k o' os' H', Post p.T os H os' H' → At p K os' H' σ ρ o' → Out p K W σ os' H' (f (.bl k) o') Q → R k H') : tT p K W a σ H R :=
  ⟨ρ, os, o, A, h.bind.mono fun d o' os' H' _ P O q => by
    cases d with
    | bl k => exact ⟨k, rfl, hR k o' os' H' P (A.next P O) q⟩
    | _ =>
      rw [hf _ _ (fun k e => by cases e)] at q
      exact q.elim⟩
theorem ge_and {vs : List Expr} (ha : PE X ea (tE p X.K W a)) (hb : PE X (.BoolOp .And (eb :: vs) pos) (tE p X.K W b)) : PE X (.BoolOp .And (ea :: eb :: vs) pos) (tE p X.K W (.and a b)) :=
  pe_imp (pe_and ha hb) fun σ H Q ⟨ρ, os, o, A, h⟩ => tE_of A h fun x o1 os1 H1 vx P1 A1 r1 h1 => by
    cases x with
    | bl k =>
      refine ⟨k, r1.bl, ?_⟩
      cases k with
      | false => exact h1.ok A1.obs _ (.mkBl _)
      | true => exact ⟨ρ, os1, o1, A1, h1⟩
    | _ => exact h1.elim
theorem ge_or {vs : List Expr} (ha : PE X ea (tE p X.K W a)) (hb : PE X (.BoolOp .Or (eb :: vs) pos) (tE p X.K W b)) : PE X (.BoolOp .Or (ea :: eb :: vs) pos) (tE p X.K W (.or a b)) :=
  pe_imp (pe_or ha hb) fun σ H Q ⟨ρ, os, o, A, h⟩ => tE_of A h fun x o1 os1 H1 vx P1 A1 r1 h1 => by
    cases x with
    | bl k =>
      refine ⟨k, r1.bl, ?_⟩
      cases k with
      | true => exact h1.ok A1.obs _ (.mkBl _)
      | false => exact ⟨ρ, os1, o1, A1, h1⟩
    | _ => exact h1.elim
theorem gt_not (ha : PT X ea (tT p X.K W a)) : PT X (.UnaryOp .Not ea pos) (tT p X.K W (.not a)) := pt_imp (pt_not ha) fun σ H Q ⟨ρ, os, o, A, h⟩ =>
  tT_of A h (fun d o n => by cases d <;> first | rfl | exact absurd rfl (n _)) fun k o1 os1 H1 P1 A1 h1 => by
    obtain ⟨k', e, q⟩ := h1.ok A1.obs
    cases e
    exact q
theorem gw_and {vs : List Expr} (ha : PT X ea (tT p X.K W a)) (hb : PW X (.BoolOp .And (eb :: vs) pos) (tT p X.K W b)) : PW X (.BoolOp .And (ea :: eb :: vs) pos) (tT p X.K W (.and a b)) :=
  pw_imp (pw_and ha hb) fun σ H Q ⟨ρ, os, o, A, h⟩ => tT_of A h (fun d o n => by cases d <;> first | rfl | exact absurd rfl (n _)) fun k o1 os1 H1 P1 A1 h1 => by
    cases k with
    | false =>
      obtain ⟨k', e, q⟩ := h1.ok A1.obs
      cases e
      exact q
    | true => exact ⟨ρ, os1, o1, A1, h1⟩
theorem gw_or {vs : List Expr} (ha : PT X ea (tT p X.K W a)) (hb : PW X (.BoolOp .Or (eb :: vs) pos) (tT p X.K W b)) : PW X (.BoolOp .Or (ea :: eb :: vs) pos) (tT p X.K W (.or a b)) :=
  pw_imp (pw_or ha hb) fun σ H Q ⟨ρ, os, o, A, h⟩ => tT_of A h (fun d o n => by cases d <;> first | rfl | exact absurd rfl (n _)) fun k o1 os1 H1 P1 A1 h1 => by
    cases k with
    | true =>
      obtain ⟨k', e, q⟩ := h1.ok A1.obs
      cases e
      exact q
    | false => exact ⟨ρ, os1, o1, A1, h1⟩
theorem ge_ite (ha : PT X ea (tT p X.K W a)) (hb : PE X eb (tE p X.K W b)) (hc : PE X ec (tE p X.K W c)) : PE X (.IfExp ea eb ec pos) (tE p X.K W (.ite a b c)) :=
  pe_imp (pe_ifExp ha hb hc) fun σ H Q ⟨ρ, os, o, A, h⟩ => tT_of A h (fun d o n => by cases d <;> first | rfl | exact absurd rfl (n _)) fun k o1 os1 H1 P1 A1 h1 => by
    cases k with
    | true => exact ⟨ρ, os1, o1, A1, h1⟩
    | false => exact ⟨ρ, os1, o1, A1, h1⟩
/-- .. as a test -/
theorem pt_ifExp {tA tB tC : TT} (hc : PT X ec tC) (ha : PT X ea tA) (hb : PT X eb tB) : PT X (.IfExp ec ea eb pos) (fun σ H Q => tC σ H fun c H1 => if c = true then tA σ H1 Q else tB σ H1 Q) := by
  refine ⟨fun pins s σ H Q I h => ?_⟩
  rw [PySem.arm_isTrue_IfExp]
  refine wpAny_bind (thn (hc.run pins s σ H _ I h) fun d s1 ⟨H1, I1, q1⟩ => ?_)
  cases d with
  | true => exact ha.run pins s1 σ H1 Q I1 q1
  | false => exact hb.run pins s1 σ H1 Q I1 q1
theorem gt_ite (ha : PT X ea (tT p X.K W a)) (hb : PT X eb (tT p X.K W b)) (hc : PT X ec (tT p X.K W c)) : PT X (.IfExp ea eb ec pos) (tT p X.K W (.ite a b c)) :=
  pt_imp (pt_ifExp ha hb hc) fun σ H Q ⟨ρ, os, o, A, h⟩ => tT_of A h (fun d o n => by cases d <;> first | rfl | exact absurd rfl (n _)) fun k o1 os1 H1 P1 A1 h1 => by
    cases k with
    | true => exact ⟨ρ, os1, o1, A1, h1⟩
    | false => exact ⟨ρ, os1, o1, A1, h1⟩
/-! #### lists of expressions -/
theorem starEach_ne {e : Expr} {es : List Expr} (env : Env) (h : ∀ x y, e ≠ .Starred x y) : starEach (e :: es) env = (false, eval e env) :: starEach es env := by
  cases e <;> first
    | exact absurd rfl (h _ _)
    | rfl
theorem backTo_ns {pos : Pos} {env : Env} : ∀ {es : List Expr}, (∀ e ∈ es, ∀ x y, e ≠ .Starred x y) → (backTo pos (starEach es env)).any (·.1) = false
  | [], _ => rfl
  | e :: es, h => by
    rw [starEach_ne env (h e List.mem_cons_self)]
    exact backTo_ns (es := es) fun e he => h e (List.mem_cons_of_mem _ he)
theorem ga_nil : PA X [] (tVs p X.K W .nil) := pa_imp pa_nil fun σ H Q ⟨ρ, os, o, A, h⟩ => h.ok A.obs _ .nil
theorem gb_nil : PA X [] (tBs p X.K W .nil) := pa_imp pa_nil fun σ H Q ⟨ρ, os, o, A, h⟩ => h.ok A.obs _ (by unfold RepBs; rfl)
theorem ga_cons {es : List Expr} {as : IEs} (ha : PE X ea (tE p X.K W a)) (hr : PA X es (tVs p X.K W as)) (hs : ∀ x y, ea ≠ .Starred x y) : PA X (ea :: es) (tVs p X.K W (.cons a as)) :=
  pa_imp (pa_cons ha hr (starEach_ne _ hs)) fun σ H Q ⟨ρ, os, o, A, h⟩ => tE_of A h fun x o1 os1 H1 vx P1 A1 r1 h1 => ⟨ρ, os1, o1, A1, h1.bind.mono fun ds o2 os2 H2 _ P2 O2 q vs r => q.ok O2 _ (.cons (Rep.post P2 A1.obs x r1) r)⟩
theorem gb_cons {es : List Expr} {as : IEs} (ha : PE X ea (tB p X.K W a)) (hr : PA X es (tBs p X.K W as)) (hs : ∀ x y, ea ≠ .Starred x y) : PA X (ea :: es) (tBs p X.K W (.cons a as)) :=
  pa_imp (pa_cons ha hr (starEach_ne _ hs)) fun σ H Q ⟨ρ, os, o, A, h⟩ => tB_of A h fun x o1 os1 H1 vx P1 A1 r1 h1 => ⟨ρ, os1, o1, A1, h1.bind.mono fun ds o2 os2 H2 _ P2 O2 q vs r => q.ok O2 _ (by unfold RepBs; exact ⟨vx, vs, rfl, r1.post P2 A1.obs, r⟩)⟩
theorem tVs_of {as : IEs} {R : List V → Hp → Prop} (A : At p K os H σ ρ o) {f : List D → Objs → Res α} {Q : α → Objs → List Addr → Hp → Prop} (h : Out p K W σ os H ((p.evEs as ρ o).bind f) Q)
    (hR : ∀ ds o' os' H' vs, Post p.T os H os' H' → At p K os' H' σ ρ o' → Reps K os' H' ds vs → Out p K W σ os' H' (f ds o') Q → R vs H') : tVs p K W as σ H R :=
  ⟨ρ, os, o, A, h.bind.mono fun ds o' os' H' _ P O q vs r => hR ds o' os' H' vs P (A.next P O) r q⟩
theorem tBs_of {as : IEs} {R : List V → Hp → Prop} (A : At p K os H σ ρ o) {f : List D → Objs → Res α} {Q : α → Objs → List Addr → Hp → Prop} (h : Out p K W σ os H ((p.evEs as ρ o).bind f) Q)
    (hR : ∀ ds o' os' H' vs, Post p.T os H os' H' → At p K os' H' σ ρ o' → RepBs K os' H' ds vs → Out p K W σ os' H' (f ds o') Q → R vs H') : tBs p K W as σ H R :=
  ⟨ρ, os, o, A, h.bind.mono fun ds o' os' H' _ P O q vs r => hR ds o' os' H' vs P (A.next P O) r q⟩
theorem gm_tup {es : List Expr} {as : IEs} {k} (h : PA X es (tVs p X.K W as)) : PE X (.Tuple es k pos) (tM p X.K W (.tup as)) := pe_imp (pe_tup h) fun σ H Q ⟨ρ, os, o, A, h⟩ => tVs_of A h fun ds o1 os1 H1 vs P1 A1 r h1 => by
  split at h1
  · rename_i hz
    have z := szP hz
    rw [← r.length] at z
    exact ⟨z, fun q hq => h1.ok A1.obs _ _ (.tup A1.obs hq r)⟩
  · exact h1.elim
theorem gm_lst {es : List Expr} {as : IEs} (h : PA X es (tVs p X.K W as)) : PE X (.List es pos) (tM p X.K W (.lst as)) := pe_imp (pe_lst h) fun σ H Q ⟨ρ, os, o, A, h⟩ => tVs_of A h fun ds o1 os1 H1 vs P1 A1 r h1 => by
  split at h1
  · rename_i hz
    have z := szP hz
    rw [← r.length] at z
    exact ⟨z, fun q hq => h1.ok A1.obs _ _ (.lst hq r)⟩
  · exact h1.elim
theorem ge_dnew : PE X (.Dict [] [] pos) (tE p X.K W .dnew) := pe_imp (pe_lk pe_dnewK) fun σ H Q ⟨ρ, os, o, A, h⟩ => by
  intro d hd
  refine .inr ⟨d, _, upd_same, True.intro, fun od => ?_⟩
  rw [upd_upd]
  refine h os _ (.same (same_upd hd)) (A.obs.same (same_upd hd)) _ ?_
  unfold Rep
  exact ⟨rfl, rfl, d, od, rfl, upd_same⟩
end
end Ev

set_option maxHeartbeats 1000000
/-! EvH: subscripts, slices, built-in functions, isinstance, globals. -/
namespace Ev
open PySem PySem.Spec PyProof.Rows L2
section
variable {X : Cx} {p : Pm} {K : PySem.W.Frag} {W : WX} {os : List Addr} {H : Hp} {o : Objs} {σ : L2.St} {ρ : Frm} {α : Type} {ea eb ec : Expr} {a b c : IE} {pos : Pos}
/-! #### a[i] -/
/-- what a subscript is -/
def rIdx (K : PySem.W.Frag) : R2 := fun vx vy H Q => ∃ q xs i v, vx = .ref q ∧ vy = .int i ∧ (SqL K H q xs ∨ SqT K H q xs) ∧ atI xs i = some v ∧ Q v H
theorem ix_both : IxR X (rIdx X.K) := by
  intro value slice pins s σ H x y v u Q I rx ry h hs
  obtain ⟨q, xs, i, w, e1, e2, h1 | h1, h2, h3⟩ := h
  · exact ix_list value slice pins s σ H x y v u Q I rx ry ⟨q, xs, i, w, e1, e2, h1, h2, h3⟩ hs
  · exact ix_tup value slice pins s σ H x y v u Q I rx ry ⟨q, xs, i, w, e1, e2, h1, h2, h3⟩ hs
/-! shared dicts -/
section
variable {κ : Type} [DecidableEq κ] {os : List Addr} {H : Hp}
theorem kv_get {k : κ} {d : D} : ∀ {kvs : List (κ × D)} {kvs' : List (κ × V)}, kvs'.map (·.1) = kvs.map (·.1) → Reps K os H (kvs.map (·.2)) (kvs'.map (·.2)) → getKV kvs k = some d → ∃ v, valV kvs' k = some v ∧ Rep K os H d v
  | [], _, _, _, e => by cases e
  | p :: r, [], hk, _, _ => by cases hk
  | p :: r, q :: r', hk, hr, e => by
    rw [List.map_cons, List.map_cons] at hk
    obtain ⟨h1, h2⟩ := List.cons.inj hk
    obtain ⟨x, r2, e2, hx, hr2⟩ := Reps.inv (show Reps K os H (p.2 :: r.map (·.2)) _ from hr)
    obtain ⟨e3, e4⟩ := List.cons.inj (show q.2 :: r'.map (·.2) = x :: r2 from e2)
    by_cases hp : p.1 = k
    · have g : getKV (p :: r) k = some p.2 := by simp [getKV, List.find?_cons, hp]
      rw [g] at e
      cases e
      exact ⟨q.2, valV_pos (h1.trans hp), by rw [e3]; exact hx⟩
    · have g : getKV (p :: r) k = getKV r k := by simp [getKV, List.find?_cons, hp]
      rw [g] at e
      rw [valV_neg (fun z => hp (h1.symm.trans z))]
      exact kv_get h2 (by rw [e4]; exact hr2) e
theorem kv_any {k : κ} : ∀ {kvs : List (κ × D)} {kvs' : List (κ × V)}, kvs'.map (·.1) = kvs.map (·.1) → (kvs'.any fun kv => decide (kv.1 = k)) = kvs.any fun kv => decide (kv.1 = k)
  | [], [], _ => rfl
  | [], _ :: _, h => by cases h
  | _ :: _, [], h => by cases h
  | p :: r, q :: r', h => by
    obtain ⟨h1, h2⟩ := List.cons.inj (show q.1 :: r'.map (·.1) = p.1 :: r.map (·.1) from h)
    rw [List.any_cons, List.any_cons, kv_any h2, h1]
theorem kv_repl {k : κ} {d : D} {v : V} (hv : Rep K os H d v) : ∀ {kvs : List (κ × D)} {kvs' : List (κ × V)}, kvs'.map (·.1) = kvs.map (·.1) → Reps K os H (kvs.map (·.2)) (kvs'.map (·.2)) →
    (kvs'.map fun kv => if kv.1 = k then (kv.1, v) else kv).map (·.1) = (kvs.map fun kv => if kv.1 = k then (kv.1, d) else kv).map (·.1) ∧ Reps K os H ((kvs.map fun kv => if kv.1 = k then (kv.1, d) else kv).map (·.2)) ((kvs'.map fun kv => if kv.1 = k then (kv.1, v) else kv).map (·.2))
  | [], [], _, _ => ⟨rfl, .nil⟩
  | [], _ :: _, h, _ => by cases h
  | _ :: _, [], h, _ => by cases h
  | p :: r, q :: r', h, hr => by
    obtain ⟨h1, h2⟩ := List.cons.inj (show q.1 :: r'.map (·.1) = p.1 :: r.map (·.1) from h)
    obtain ⟨x, r2, e2, hx, hr2⟩ := Reps.inv (show Reps K os H (p.2 :: r.map (·.2)) _ from hr)
    obtain ⟨e3, e4⟩ := List.cons.inj (show q.2 :: r'.map (·.2) = x :: r2 from e2)
    obtain ⟨i1, i2⟩ := kv_repl (k := k) hv h2 (by rw [e4]; exact hr2)
    by_cases hp : p.1 = k
    · have hq : q.1 = k := h1.trans hp
      simp only [List.map_cons, if_pos hp, if_pos hq]
      exact ⟨by rw [i1, h1], .cons hv i2⟩
    · have hq : ¬ q.1 = k := fun z => hp (h1.symm.trans z)
      simp only [List.map_cons, if_neg hp, if_neg hq]
      exact ⟨by rw [i1, h1], .cons (by rw [e3]; exact hx) i2⟩
theorem kv_put {k : κ} {d : D} {v : V} (hv : Rep K os H d v) {kvs : List (κ × D)} {kvs' : List (κ × V)} (hk : kvs'.map (·.1) = kvs.map (·.1)) (hr : Reps K os H (kvs.map (·.2)) (kvs'.map (·.2))) :
    (putK kvs' k v).map (·.1) = (putKV kvs k d).map (·.1) ∧ Reps K os H ((putKV kvs k d).map (·.2)) ((putK kvs' k v).map (·.2)) := by
  unfold putK putKV
  rw [kv_any hk]
  split
  · exact kv_repl hv hk hr
  · rw [List.map_append, List.map_append, List.map_append, List.map_append]
    exact ⟨by rw [hk]; rfl, hr.append (.cons hv .nil)⟩
end
theorem keyK_some {y : D} {k : L2.Key} {v : V} {os : List Addr} {H : Hp} (h : keyK y = some k) (r : Rep K os H y v) : v = kV k := by
  cases y <;> first
    | (cases h; done)
    | (cases h; unfold Rep at r; exact r)
theorem keysI_some : ∀ {ds : List D} {ks : List L2.Key} {xs : List V} {os : List Addr} {H : Hp}, keysI ds = some ks → Reps K os H ds xs → xs = ks.map kV ∧ ds.all intD = true
  | [], ks, xs, os, H, h, r => by
    cases h
    exact ⟨r.inv0, rfl⟩
  | d :: ds, ks, xs, os, H, h, r => by
    obtain ⟨x, r', rfl, h1, h2⟩ := r.inv
    cases d <;> first
      | (cases h; done)
      | skip
    rename_i i
    obtain ⟨ks', e, rfl⟩ := Option.map_eq_some_iff.mp (show (keysI ds).map (Sum.inl i :: ·) = some ks from h)
    obtain ⟨e1, e2⟩ := keysI_some e h2
    have ex : x = .int i := by unfold Rep at h1; exact h1
    refine ⟨by rw [ex, e1]; rfl, ?_⟩
    rw [List.all_cons, e2]
    rfl
theorem keyT_some {y : D} {ks : List L2.Key} {v : V} {os : List Addr} {H : Hp} (h : keyT y = some ks) (r : Rep K os H y v) : ∃ b, v = .ref b ∧ H b = some (.tup (ks.map kV)) := by
  cases y <;> first
    | (cases h; done)
    | skip
  rename_i ds
  obtain ⟨a, xs, rfl, h1, h2, h3⟩ := RepB.tupK (.inl r)
  obtain ⟨e1, e2⟩ := keysI_some (show keysI ds = some ks from h) h2
  exact ⟨a, rfl, by rw [← e1]; exact h3 e2⟩
/-- d[key], d a shared dict -/
theorem getO_dget {so : SObj} {y d : D} {q : Addr} {vy : V} {os : List Addr} {H : Hp} (ho : ObjAt K os H q so) (hn : ∀ ds, so ≠ .lst ds) (hy : Rep K os H y vy) (h : getO so y = some d) : ∃ v, DGet H q vy (some v) ∧ Rep K os H d v := by
  cases so with
  | lst ds => exact absurd rfl (hn ds)
  | dK kvs =>
    obtain ⟨kvs', e1, e2, e3⟩ := ho
    have h : (match keyK y with | some k => getKV kvs k | none => none) = some d := h
    cases ek : keyK y with
    | none => rw [ek] at h; cases h
    | some k =>
      rw [ek] at h
      obtain ⟨v, e4, r⟩ := kv_get e2 e3 h
      exact ⟨v, .inl ⟨kvs', k, .inl e1, keyK_some ek hy, e4.symm⟩, r⟩
  | dT kvs =>
    obtain ⟨kvs', e1, e2, e3⟩ := ho
    have h : (match keyT y with | some k => getKV kvs k | none => none) = some d := h
    cases ek : keyT y with
    | none => rw [ek] at h; cases h
    | some k =>
      rw [ek] at h
      obtain ⟨v, e4, r⟩ := kv_get e2 e3 h
      obtain ⟨b, e5, e6⟩ := keyT_some ek hy
      exact ⟨v, .inr ⟨kvs', k, b, .inl e1, e5, e6, e4.symm⟩, r⟩
theorem ix_dict (hu : X.A.units + 64 < cLine) : IxR X (fun x y H Q => ∃ a v, x = .ref a ∧ DGet H a y (some v) ∧ Q v H) := by
  intro value slice pins s σ H x y v u Q I rx ry h hs
  obtain ⟨a, w, rfl, g, q⟩ := h
  cases rx
  refine tail_any (dict_typeIs I g) PySem.F.slot_dict_getitem.lookup ?_ hs
  exact d_getItem (by have : X.A.units + 64 < cLine := hu; omega) I g ry fun w' s' I' r' => ⟨w, H, I', r', q⟩
theorem plainIx {e : Expr} (h : ∀ a b c d, e ≠ .Slice a b c d) : PlainIx e := by
  intro o i
  cases e <;> first
    | exact absurd rfl (h _ _ _ _)
    | rfl
theorem idxD_some {x y d : D} (h : idxD x y = some d) : ∃ i ds, y = .int i ∧ atI ds i = some d ∧ (x = .tup ds ∨ x = .lst ds ∨ x = .kt ds) := by
  unfold idxD at h
  split at h
  · exact ⟨_, _, rfl, h, .inl rfl⟩
  · exact ⟨_, _, rfl, h, .inr (.inl rfl)⟩
  · exact ⟨_, _, rfl, h, .inr (.inr rfl)⟩
  · cases h
theorem ge_idx (hu : X.A.units + 64 < cLine) (ha : PE X ea (tB p X.K W a)) (hb : PE X eb (tE p X.K W b)) (hs : ∀ a b c d, eb ≠ .Slice a b c d) : PE X (.Subscript ea eb pos) (tE p X.K W (.idx a b)) :=
  pe_imp (pe_ix (ix_both.or (ix_dict hu)) ha hb (plainIx hs)) fun σ H Q ⟨ρ, os, o, A, h⟩ => tB_of A h fun x o1 os1 H1 vx P1 A1 r1 h1 => tE_of A1 h1 fun y o2 os2 H2 vy P2 A2 r2 h2 => by
    have key : ∀ {z : D} {q : Addr} {xs : List V} {ds : List D} {Q' : D → Objs → List Addr → Hp → Prop}, vx = .ref q → (SqL X.K H2 q xs ∨ SqT X.K H2 q xs) → Reps X.K os2 H2 ds xs → Out p X.K W σ os2 H2 (.ofO (idxD z y) o2) Q' → (∀ es, z = .tup es ∨ z = .lst es ∨ z = .kt es → es = ds) → (∀ d v, Rep X.K os2 H2 d v → Q' d o2 os2 H2 → Q v H2) → rIdx X.K vx vy H2 Q := fun {z q xs ds Q'} e1 e2 e3 e4 e5 e6 => by
      obtain ⟨d, e, h3⟩ := e4.ofO
      obtain ⟨i, es, rfl, e7, e8⟩ := idxD_some e
      have e9 := e5 es e8
      subst e9
      obtain ⟨v, e10, r3⟩ := e3.at e7
      exact ⟨q, xs, i, v, e1, r2.int, e2, e10, e6 d v r3 (h3.ok A2.obs)⟩
    have r1' := r1.post P2 A1.obs
    split at h2
    · rename_i k
      split at h2
      · rename_i so ek
        obtain ⟨q, e1, ho⟩ := A2.obs.at_ _ _ ek
        have rr := r1'.of_ne (fun _ e => nomatch e)
        unfold Rep at rr
        obtain ⟨q', e4, rfl⟩ := rr
        rw [e1] at e4
        cases e4
        by_cases hl : ∃ ds, so = .lst ds
        · obtain ⟨ds, rfl⟩ := hl
          obtain ⟨xs, e2, e3⟩ := ho
          exact .inl (key rfl (.inl (.of e2)) e3 (z := .lst ds) h2 (fun es e => by rcases e with e | e | e <;> cases e; rfl) fun d v r q => q v r)
        · obtain ⟨d, e, h3⟩ := h2.ofO
          obtain ⟨v, g, r⟩ := getO_dget ho (fun ds z => hl ⟨ds, z⟩) r2 e
          exact .inr ⟨q, v, rfl, g, h3.ok A2.obs v r⟩
      · exact h2.elim
    · cases x with
      | tup ds =>
        obtain ⟨q, xs, e1, e2, e3⟩ := r1'.tup
        exact .inl (key e1 (.inr e2) e3 h2 (fun es e => by rcases e with e | e | e <;> cases e; rfl) fun d v r q => q v r)
      | lst ds =>
        obtain ⟨q, xs, e1, e2, e3⟩ := r1'.lst
        exact .inl (key e1 (.inl e2) e3 h2 (fun es e => by rcases e with e | e | e <;> cases e; rfl) fun d v r q => q v r)
      | kt ds =>
        obtain ⟨q, xs, e1, e2, e3⟩ := r1'.kt
        exact .inl (key e1 (.inr e2) e3 h2 (fun es e => by rcases e with e | e | e <;> cases e; rfl) fun d v r q => q v r)
      | _ => exact h2.elim
/-! #### a[lo:hi] -/
def tO (p : Pm) (K : PySem.W.Frag) (W : WX) (ie : IEo) : TO := fun σ H Q => ∃ ρ os o, At p K os H σ ρ o ∧ Out p K W σ os H (p.evEo ie ρ o) fun l _ os' H' => Q l H'
theorem po_imp {e : Option Expr} {t t' : TO} (h : PO X e t) (m : ∀ σ H Q, t' σ H Q → t σ H Q) : PO X e t' := ⟨fun pins s σ H Q I q => h.run pins s σ H Q I (m σ H Q q)⟩
theorem go_none : PO X none (tO p X.K W .none) := po_imp po_none fun σ H Q ⟨ρ, os, o, A, h⟩ => h.ok A.obs
theorem go_some (h : PE X ea (tE p X.K W a)) : PO X (some ea) (tO p X.K W (.some a)) := po_imp (po_some h) fun σ H Q ⟨ρ, os, o, A, h⟩ => tE_of A h fun x o1 os1 H1 vx P1 A1 r1 h1 => by
  cases x with
  | int i => exact ⟨i, r1.int, h1.ok A1.obs⟩
  | _ => exact h1.elim
def rSlc (K : PySem.W.Frag) : V → Option Int → Option Int → Hp → VK → Prop := fun vx lo hi H Q => rSlL K vx lo hi H Q ∨ rSlA K vx lo hi H Q
theorem gm_slc {el eh : Option Expr} {l h : IEo} {p2 : Pos} (ha : PE X ea (tB p X.K W a)) (hl : PO X el (tO p X.K W l)) (hh : PO X eh (tO p X.K W h)) : PE X (.Subscript ea (.Slice el eh none p2) pos) (tM p X.K W (.slc a l h)) :=
  pe_imp (pe_slice (sl_list.or sl_tupA) ha hl hh) fun σ H Q ⟨ρ, os, o, A, h⟩ => tB_of A h fun x o1 os1 H1 vx P1 A1 r1 h1 =>
    ⟨ρ, os1, o1, A1, h1.bind.mono fun l o2 os2 H2 _ P2 O2 h2 => ⟨ρ, os2, o2, A1.next P2 O2, h2.bind.mono fun u o3 os3 H3 _ P3 O3 h3 => by
      obtain ⟨d, e, h4⟩ := h3.ofO
      have r3 := (r1.post P2 A1.obs).post P3 O2
      unfold slcD at e
      split at e
      · cases e
        obtain ⟨q, xs, e1, e2, e3, e6⟩ := r3.tupK
        refine .inr ⟨q, xs, e1, e2, fun hw => ?_, fun _ z hz => h4.ok O3 _ _ (.tup O3 hz (e3.cut _ _))⟩
        refine h4.ok O3 _ _ ?_
        refine .cur e2 ?_ fun w => e6 (by
          have hl := e3.length
          unfold cutD at w
          rw [← hl, hw.1, hw.2, List.drop_zero, Nat.sub_zero, hl, List.take_length] at w
          exact w)
        have e4 := e3.cut l u
        have e5 : cutV xs l u = xs := by
          unfold cutV
          rw [hw.1, hw.2]
          simp
        rw [e5] at e4
        exact e4
      · cases e
        obtain ⟨q, xs, e1, e2, e3⟩ := r3.lst
        exact .inl ⟨q, xs, e1, e2, fun z hz => h4.ok O3 _ _ (.lst hz (e3.cut _ _))⟩
      · cases e⟩⟩
/-! #### built-in functions -/
theorem RepBs.inv {d : D} {ds : List D} {xs : List V} (h : RepBs K os H (d :: ds) xs) : ∃ x r, xs = x :: r ∧ RepB K os H d x ∧ RepBs K os H ds r := by unfold RepBs at h; exact h
theorem RepBs.inv0 {xs : List V} (h : RepBs K os H [] xs) : xs = [] := by unfold RepBs at h; exact h
theorem RepBs.one {d : D} {xs : List V} (h : RepBs K os H [d] xs) : ∃ x, xs = [x] ∧ RepB K os H d x := by
  obtain ⟨x, r, rfl, h1, h2⟩ := h.inv
  exact ⟨x, by rw [h2.inv0], h1⟩
theorem RepBs.two {d e : D} {xs : List V} (h : RepBs K os H [d, e] xs) : ∃ x y, xs = [x, y] ∧ RepB K os H d x ∧ RepB K os H e y := by
  obtain ⟨x, r, rfl, h1, h2⟩ := h.inv
  obtain ⟨y, rfl, h3⟩ := h2.one
  exact ⟨x, y, rfl, h1, h3⟩
def rBif (K : PySem.W.Frag) (f : Bif) : List V → Hp → VK → Prop := fun vs H Q => ∃ os o ds d, OOk K os H o ∧ RepBs K os H ds vs ∧ bifD f ds = some d ∧ ∀ v H', MkV K os H d v H' → Q v H'
/-- the function's value -/
def bifV : Bif → Value
  | .len => .builtin "len"
  | .all => .builtin "all"
  | .any => .builtin "any"
  | .sum => .builtin "sum"
  | .tuple => .type "tuple"
  | .list => .type "list"
  | .abs => .builtin "abs"
  | .max2 => .builtin "max"
  | .min2 => .builtin "min"
  | .int => .type "int"
  | .bool => .type "bool"
  | .max1 => .builtin "max"
  | .min1 => .builtin "min"
  | .sorted => .builtin "sorted"
theorem cr_sumT (hc : X.calm = true) : CallR X (.builtin "sum") (fun vs H Q => ∃ (a : Addr) (ns : List Int), vs = [V.ref a] ∧ SqT X.K H a (ns.map V.int) ∧ Q (.int ns.sum) H) := by
  intro pins s σ H vs us Q I r h
  obtain ⟨a, ns, rfl, hs, q⟩ := h
  obtain ⟨its, rv, hl, _⟩ := I.tuple hs
  rw [Vals.ref1 r]
  obtain ⟨xs, hx⟩ := rv.ints.allInts.items
  have hn : numsOf its.toArray.toList = ns := by rw [show its.toArray.toList = its from rfl, rv.ints.numsOf]
  have hl' : s.heap.IsTuple a its.toArray := hl
  rw [hx] at hl' hn
  rw [nums_intItems] at hn
  refine PySem.W.ktm_sumG (I.ok.hd hc) hl' fun h' tk t' hk => ?_
  rw [preSum_eq, List.take_of_length_le (by simp), hn]
  exact ⟨.int _, H, I.kept hk, ⟨_, rfl⟩, q⟩
theorem repsI {os : List Addr} {H : Hp} : ∀ ns : List Int, Reps K os H (ns.map D.int) (ns.map V.int)
  | [] => .nil
  | n :: ns => .cons (.mkInt n) (repsI ns)
theorem maxOf_max (x : Int) (xs : List Int) : (x :: xs).max? = some (PySem.W.maxOf x xs) := by
  rw [List.max?_cons']
  congr 1
  have e : (max : Int → Int → Int) = fun a y => if PySem.W.DatumOrd.lt a y = true then y else a := by
    funext a y
    show max a y = if decide (a < y) = true then y else a
    by_cases z : a < y
    · rw [decide_eq_true z, if_pos rfl]
      omega
    · rw [decide_eq_false z, if_neg Bool.false_ne_true]
      omega
  rw [e]
  rfl
theorem cr_maxT (hc : X.calm = true) (hu : X.A.units + 64 < cLine) : CallR X (.builtin "max") (fun vs H Q => ∃ (a : Addr) (ns : List Int) (m : Int), vs = [V.ref a] ∧ SqT X.K H a (ns.map V.int) ∧ ns.max? = some m ∧ Q (.int m) H) := by
  intro pins s σ H vs us Q I r h
  obtain ⟨a, ns, m, rfl, hs, hm, q⟩ := h
  obtain ⟨its, rv, hl, _⟩ := I.tuple hs
  rw [Vals.ref1 r]
  cases ns with
  | nil => cases hm
  | cons x xs =>
    rw [maxOf_max] at hm
    cases hm
    have hl' : s.heap.IsTuple a its.toArray := hl
    refine PySem.W.max_tuple_datum (α := Int) (x := x) (xs := xs) (I.ok.hd hc) hl' (PySem.W.HoldAll.of_ints rv.ints) (by show X.A.units + 1 + 0 < cLine; omega) fun i v h' tk hi hv hk => ?_
    obtain ⟨as, hv⟩ := hv
    cases hv
    exact ⟨.int _, H, I.kept hk, ⟨_, rfl⟩, q⟩
theorem cr_bif {f : Bif} (hu : X.A.units + 64 < cLine) (hc : X.calm = true ∨ bifHot f = true) : CallR X (bifV f) (rBif X.K f) := by
  intro pins s σ H vs us Q I r ⟨os, o, ds, d, O, h, e, q⟩
  have cm : bifHot f = false → X.calm = true := fun z => by
    rcases hc with h | h
    · exact h
    · rw [z] at h; cases h
  unfold bifD at e
  split at e
  · cases e
    obtain ⟨x, rfl, h1⟩ := h.one
    obtain ⟨a, xs, rfl, h2, h3⟩ := h1.tup
    refine call_len_seq pins s σ H _ us Q I r ⟨a, xs, rfl, .inr h2, ?_⟩
    rw [h3.length]
    exact q _ _ (.int _)
  · cases e
    obtain ⟨x, rfl, h1⟩ := h.one
    obtain ⟨a, xs, rfl, h2, h3⟩ := h1.lst
    refine call_len_seq pins s σ H _ us Q I r ⟨a, xs, rfl, .inl h2, ?_⟩
    rw [h3.length]
    exact q _ _ (.int _)
  · cases e
    obtain ⟨x, rfl, h1⟩ := h.one
    obtain ⟨a, xs, rfl, h2, h3⟩ := h1.kt
    refine call_len_seq pins s σ H _ us Q I r ⟨a, xs, rfl, .inr h2, ?_⟩
    rw [h3.length]
    exact q _ _ (.int _)
  · split at e <;> cases e
    rename_i hz
    obtain ⟨x, rfl, h1⟩ := h.one
    rw [h1.str] at r
    exact call_len_str pins s σ H _ us Q I r ⟨_, rfl, szP hz, q _ _ (.int _)⟩
  · obtain ⟨bs, e1, rfl⟩ := Option.map_eq_some_iff.mp e
    obtain ⟨x, rfl, h1⟩ := h.one
    obtain ⟨a, xs, rfl, h2, h3⟩ := h1.lst
    rw [h3.bls e1] at h2
    exact cr_all (cm rfl) pins s σ H _ us Q I r ⟨a, bs, rfl, h2, q _ _ (.bl _)⟩
  · obtain ⟨bs, e1, rfl⟩ := Option.map_eq_some_iff.mp e
    obtain ⟨x, rfl, h1⟩ := h.one
    obtain ⟨a, xs, rfl, h2, h3⟩ := h1.lst
    rw [h3.bls e1] at h2
    exact cr_any (cm rfl) pins s σ H _ us Q I r ⟨a, bs, rfl, h2, q _ _ (.bl _)⟩
  · obtain ⟨ns, e1, rfl⟩ := Option.map_eq_some_iff.mp e
    obtain ⟨x, rfl, h1⟩ := h.one
    obtain ⟨a, xs, rfl, h2, h3⟩ := h1.lst
    rw [h3.ints e1] at h2
    exact cr_sum (cm rfl) pins s σ H _ us Q I r ⟨a, ns, rfl, h2, q _ _ (.int _)⟩
  · obtain ⟨ns, e1, rfl⟩ := Option.map_eq_some_iff.mp e
    obtain ⟨x, rfl, h1⟩ := h.one
    obtain ⟨a, xs, rfl, h2, h3⟩ := h1.tup
    rw [h3.ints e1] at h2
    exact cr_sumT (cm rfl) pins s σ H _ us Q I r ⟨a, ns, rfl, h2, q _ _ (.int _)⟩
  · cases e
    obtain ⟨x, rfl, h1⟩ := h.one
    obtain ⟨a, xs, rfl, h2, h3, h4⟩ := h1.tupK
    exact call_tuple_of pins s σ H _ us Q I r ⟨a, xs, rfl, .inr ⟨h2, q _ _ (.cur h2 h3 h4)⟩⟩
  · cases e
    obtain ⟨x, rfl, h1⟩ := h.one
    obtain ⟨a, xs, rfl, h2, h3⟩ := h1.lst
    exact call_tuple_of pins s σ H _ us Q I r ⟨a, xs, rfl, .inl ⟨h2, fun l hl => q _ _ (.tup O hl h3)⟩⟩
  · cases e
    obtain ⟨x, rfl, h1⟩ := h.one
    obtain ⟨a, xs, rfl, h2, h3⟩ := h1.tup
    exact call_list_of pins s σ H _ us Q I r ⟨a, xs, rfl, .inr h2, fun l hl => q _ _ (.lst hl h3)⟩
  · cases e
    obtain ⟨x, rfl, h1⟩ := h.one
    obtain ⟨a, xs, rfl, h2, h3⟩ := h1.lst
    exact call_list_of pins s σ H _ us Q I r ⟨a, xs, rfl, .inl h2, fun l hl => q _ _ (.lst hl h3)⟩
  · cases e
    obtain ⟨x, rfl, h1⟩ := h.one
    rw [h1.int] at r
    exact call_abs pins s σ H _ us Q I r ⟨_, rfl, q _ _ (.int _)⟩
  · cases e
    obtain ⟨x, y, rfl, h1, h2⟩ := h.two
    rw [h1.int, h2.int] at r
    exact call_max2 (cm rfl) pins s σ H _ us Q I r ⟨_, _, rfl, q _ _ (.int _)⟩
  · cases e
    obtain ⟨x, y, rfl, h1, h2⟩ := h.two
    rw [h1.int, h2.int] at r
    exact call_min2 (cm rfl) pins s σ H _ us Q I r ⟨_, _, rfl, q _ _ (.int _)⟩
  · cases e
    obtain ⟨x, rfl, h1⟩ := h.one
    rw [h1.int] at r
    exact call_int1 pins s σ H _ us Q I r (.inl ⟨_, rfl, q _ _ (.int _)⟩)
  · cases e
    obtain ⟨x, rfl, h1⟩ := h.one
    rw [h1.bl] at r
    exact call_int1 pins s σ H _ us Q I r (.inr ⟨_, rfl, q _ _ (.int _)⟩)
  · cases e
    obtain ⟨x, rfl, h1⟩ := h.one
    rw [h1.int] at r
    exact call_bool1 pins s σ H _ us Q I r (.inl ⟨_, rfl, q _ _ (.bl _)⟩)
  · cases e
    obtain ⟨x, rfl, h1⟩ := h.one
    rw [h1.bl] at r
    exact call_bool1 pins s σ H _ us Q I r (.inr ⟨_, rfl, q _ _ (.bl _)⟩)
  · obtain ⟨ns, e1, e2⟩ := Option.bind_eq_some_iff.mp e
    obtain ⟨m, e3, rfl⟩ := Option.map_eq_some_iff.mp e2
    obtain ⟨x, rfl, h1⟩ := h.one
    obtain ⟨a, xs, rfl, h2, h3⟩ := h1.lst
    rw [h3.ints e1] at h2
    have hne : 0 < ns.length := List.length_pos_iff.mpr fun z => by rw [z] at e3; cases e3
    refine cr_max (cm rfl) pins s σ H _ us Q I r ⟨a, ns, rfl, h2, hne, fun m' g1 g2 => ?_⟩
    have e4 := List.max?_eq_some_iff.mpr ⟨g1, g2⟩
    rw [e3] at e4
    cases e4
    exact q _ _ (.int _)
  · obtain ⟨ns, e1, e2⟩ := Option.bind_eq_some_iff.mp e
    obtain ⟨m, e3, rfl⟩ := Option.map_eq_some_iff.mp e2
    obtain ⟨x, rfl, h1⟩ := h.one
    obtain ⟨a, xs, rfl, h2, h3⟩ := h1.tup
    rw [h3.ints e1] at h2
    exact cr_maxT (cm rfl) hu pins s σ H _ us Q I r ⟨a, ns, m, rfl, h2, e3, q _ _ (.int _)⟩
  · obtain ⟨ns, e1, e2⟩ := Option.bind_eq_some_iff.mp e
    obtain ⟨m, e3, rfl⟩ := Option.map_eq_some_iff.mp e2
    obtain ⟨x, rfl, h1⟩ := h.one
    obtain ⟨a, xs, rfl, h2, h3⟩ := h1.lst
    rw [h3.ints e1] at h2
    have hne : 0 < ns.length := List.length_pos_iff.mpr fun z => by rw [z] at e3; cases e3
    refine cr_min (cm rfl) pins s σ H _ us Q I r ⟨a, ns, rfl, h2, hne, fun m' g1 g2 => ?_⟩
    have e4 := List.min?_eq_some_iff.mpr ⟨g1, g2⟩
    rw [e3] at e4
    cases e4
    exact q _ _ (.int _)
  · obtain ⟨ns, e1, rfl⟩ := Option.map_eq_some_iff.mp e
    obtain ⟨x, rfl, h1⟩ := h.one
    obtain ⟨a, xs, rfl, h2, h3⟩ := h1.lst
    rw [h3.ints e1] at h2
    refine cr_sortedI pins s σ H _ us Q I r ⟨a, ns, rfl, h2, fun ns' p g1 g2 g3 => ?_⟩
    have e4 : ns' = ns.mergeSort fun a b => decide (a ≤ b) := by
      refine List.Perm.eq_of_pairwise (le := fun a b : Int => a ≤ b) (fun a b _ _ => Int.le_antisymm) g2 ?_ (g1.trans (List.mergeSort_perm _ _).symm)
      exact (List.pairwise_mergeSort (le := fun a b : Int => decide (a ≤ b)) (fun a b c h1 h2 => decide_eq_true (Int.le_trans (of_decide_eq_true h1) (of_decide_eq_true h2))) (fun a b => by
        rcases Int.le_total a b with z | z
        · rw [decide_eq_true z]; rfl
        · rw [decide_eq_true z, Bool.or_true]) ns).imp fun z => of_decide_eq_true z
    subst e4
    exact q _ _ (.lst g3 (repsI _))
  · cases e
/-- the function's name -/
def bifN : Bif → Str
  | .len => "len"
  | .all => "all"
  | .any => "any"
  | .sum => "sum"
  | .tuple => "tuple"
  | .list => "list"
  | .abs => "abs"
  | .max2 => "max"
  | .min2 => "min"
  | .int => "int"
  | .bool => "bool"
  | .max1 => "max"
  | .min1 => "min"
  | .sorted => "sorted"
theorem bif_boot (f : Bif) : bootBuiltins (bifN f) = some (bifV f) := by cases f <;> rfl
theorem bif_n (f : Bif) : bifN f ≠ "__name__" := by cases f <;> decide
theorem bif_d (f : Bif) : (bifN f == ("__debug__" : Str)) = false := by cases f <;> decide
theorem bif_c (f : Bif) : (∃ id, bifV f = .builtin id) ∨ ∃ T, bifV f = .type T := by cases f <;> first | exact .inl ⟨_, rfl⟩ | exact .inr ⟨_, rfl⟩
theorem gm_bif {f : Bif} {es : List Expr} {as : IEs} {pn : Pos} (hu : X.A.units + 64 < cLine) (hc : X.calm = true ∨ bifHot f = true) (hg : Gl X (bifN f)) (hm : X.mg (bifN f) = none) (h : PA X (ea :: es) (tBs p X.K W as)) (hs : ∀ e ∈ ea :: es, ∀ x y, e ≠ .Starred x y) :
    PE X (.Call (.Name (bifN f) pn) (ea :: es) [] pos) (tM p X.K W (.bif f as)) := by
  have m : ∀ σ H Q, tM p X.K W (.bif f as) σ H Q → tCB (rBif X.K f) (tBs p X.K W as) σ H Q := fun σ H Q ⟨ρ, os, o, A, h⟩ => tBs_of A h fun ds o1 os1 H1 vs P1 A1 r h1 => by
    obtain ⟨d, e, h2⟩ := h1.ofO
    exact ⟨os1, o1, ds, d, A1.obs, r, e, h2.ok A1.obs⟩
  have he := starEach_ne (es := es) X.env (hs ea List.mem_cons_self)
  have hp : (backTo pos (starEach es X.env)).any (·.1) = false := backTo_ns fun e he => hs e (List.mem_cons_of_mem _ he)
  rcases bif_c f with ⟨id, e⟩ | ⟨T, e⟩
  · have q := pe_callB (X := X) (pos := pos) (p := pn) (id := id) (by rw [← e]; exact cr_bif hu hc) hg hm (by rw [← e]; exact bif_boot f) h (bif_n f) (bif_d f) he hp
    exact pe_imp q m
  · have q := pe_callTy (X := X) (pos := pos) (p := pn) (T := T) (by rw [← e]; exact cr_bif hu hc) hg hm (by rw [← e]; exact bif_boot f) h (bif_n f) (bif_d f) he hp
    exact pe_imp q m
end
end Ev

set_option maxHeartbeats 2000000
/-! EvI: what loops and comprehensions walk. -/
namespace Ev
open PySem PySem.Spec PyProof.Rows L2

section
variable {X : Cx} {p : Pm} {K : PySem.W.Frag} {W : WX} {os : List Addr} {H : Hp} {o : Objs} {σ : L2.St} {ρ : Frm} {α : Type} {ea eb ec tg : Expr} {a b c : IE} {pos : Pos}
/-! ### a list or a tuple -/
theorem pi_seq {l : Expr} {tl : TE} (hl : PE X l tl) : PI X tg l (fun σ H R => tl σ H fun x H1 => ∃ a xs, x = .ref a ∧ ((SqL X.K H1 a xs ∧ R (Itl X.K a) H1) ∨ (SqT X.K H1 a xs ∧ R (Itt X.K a) H1))) := by
  constructor
  intro pins s σ H R I h
  refine thn (hl.run pins s σ H _ I h) ?_
  rintro v s1 ⟨x, H1, I1, r1, b, xs, rfl, q⟩
  cases r1
  rcases q with ⟨hq, q⟩ | ⟨hq, q⟩
  · obtain ⟨ws, _, pl, _⟩ := I1.list hq
    exact wpAny_pyIter_list pl.isList (pi_one (tk := s1.toks) I1 _ (turn_list b _) ⟨_, Heap.get?_push_size _ rfl, rfl, rfl⟩ q)
  · obtain ⟨ws, _, pl, _⟩ := I1.tuple hq
    exact wpAny_pyIter_tuple (items := ws.toArray) pl (pi_one (tk := s1.toks) I1 _ (turn_tuple b _) ⟨_, Heap.get?_push_size _ rfl, rfl, rfl⟩ q)

/-! ### zip of two tuples -/
def Itp (K : PySem.W.Frag) (a b : Addr) : It where
  go i H := ∃ (xs ys : List V) (x y : V), SqT K H a xs ∧ SqT K H b ys ∧ xs[i]? = some x ∧ ys[i]? = some y
  yld i H v H' := ∃ T x y, v = .ref T ∧ H T = none ∧ H' = upd H T (.tup [x, y]) ∧ (∀ xs, SqT K H a xs → xs[i]? = some x) ∧ ∀ ys, SqT K H b ys → ys[i]? = some y
  stop i H := ∃ xs ys : List V, SqT K H a xs ∧ SqT K H b ys ∧ (xs.length ≤ i ∨ ys.length ≤ i)
theorem mem5 {c z1 z2 z3 z4 z5 : Addr} (h : c ∈ [z1, z2, z3, z4, z5]) : c = z1 ∨ c = z2 ∨ c = z3 ∨ c = z4 ∨ c = z5 := by simpa using h
theorem nmem5 {c z1 z2 z3 z4 z5 : Addr} (h : c ∉ [z1, z2, z3, z4, z5]) : c ≠ z1 ∧ c ≠ z2 ∧ c ≠ z3 ∧ c ≠ z4 ∧ c ≠ z5 := by simpa using h
/-- the zip's cells at turn i -/
structure ZpAt (z TI TO i1 i2 a b : Addr) (i : Nat) (h : Heap) : Prop where
  hz : IsZip h z TI TO .none
  hI : IsPair h TI (.ref i1) (.ref i2)
  hO : ∃ x y, IsPair h TO x y
  h1 : h.IsTupleIter i1 a i
  h2 : h.IsTupleIter i2 b i
theorem ZpAt.get {z TI TO i1 i2 a b : Addr} {i : Nat} {h : Heap} (st : ZpAt z TI TO i1 i2 a b i h) {c : Addr} (hc : c ∈ [z, TI, TO, i1, i2]) : ∃ o, h.get? c = some o ∧ ∀ v, o.data ≠ .cell v := by
  obtain ⟨x, y, hO⟩ := st.hO
  obtain ⟨o1, e1, _, d1⟩ := st.h1
  obtain ⟨o2, e2, _, d2⟩ := st.h2
  rcases mem5 hc with q | q | q | q | q <;> subst q
  · exact ⟨_, st.hz, fun v e => by cases e⟩
  · exact ⟨_, st.hI, fun v e => by cases e⟩
  · exact ⟨_, hO, fun v e => by cases e⟩
  · exact ⟨o1, e1, fun v e => by rw [d1] at e; cases e⟩
  · exact ⟨o2, e2, fun v e => by rw [d2] at e; cases e⟩
theorem turn_zipT {P : Program} {w : World} {K : PySem.W.Frag} {elts : List Expr} {kk : Nat} {tpos : Pos} {a b z TI TO i1 i2 : Addr} (D : ZipApart z TI TO i1 i2 a b) :
    Turn P w K (.Tuple elts kk tpos) (Itp K a b) [z, TI, TO, i1, i2] z (ZpAt z TI TO i1 i2 a b) where
  mem := List.mem_cons_self
  obj := fun i h st c hc => st.get hc
  keep := fun i h h' st k => by
    obtain ⟨x, y, hO⟩ := st.hO
    exact ⟨k z (by simp) _ st.hz, k TI (by simp) _ st.hI, ⟨x, y, k TO (by simp) _ hO⟩, st.h1.at fun o q => k i1 (by simp) o q, st.h2.at fun o q => k i2 (by simp) o q⟩
  item := by
    intro X eP eW eK hc i pins s σ H E I hf st hg
    subst eP eW eK
    obtain ⟨x0, y0, hO⟩ := st.hO
    obtain ⟨xs, ys, x, y, hqx, hqy, hx, hy⟩ := hg
    obtain ⟨ws, rv, pl, _⟩ := I.tuple hqx
    obtain ⟨ws2, rv2, pl2, _⟩ := I.tuple hqy
    obtain ⟨u, hu, ru⟩ := rv.get hx
    obtain ⟨u2, hu2, ru2⟩ := rv2.get hy
    have old : ∀ c ∈ [z, TI, TO, i1, i2], c < s.heap.objs.size := fun c hc => by
      obtain ⟨ob, e, _⟩ := st.get hc
      exact Heap.lt_size e
    have hzl := old z (by simp)
    refine RZ.pyNext_zipT_item D st.hz st.hI hO st.h1 st.h2 (xs := ws.toArray) (ys := ws2.toArray) pl pl2 (x := u) (y := u2) (by simpa using hu) (by simpa using hu2) fun h' z' TO' h1' h2' hT hsz hk => ?_
    refine ⟨_, rfl, ?_⟩
    refine wpAny_letOwnedTupleGo_zip (s := ⟨h', s.gens, s.drawn, s.toks, s.os⟩) z' fun h'' z'' sb => ?_
    have hT2 : IsPair h'' s.heap.objs.size u u2 := (sb.2 _ (Nat.ne_of_gt hzl)).trans hT
    have new : ObjOk X.prog X.w (upd H s.heap.objs.size (.tup [x, y])) h'' s.heap.objs.size (.tup [x, y]) := by
      refine ⟨?_, [u, u2], .cons ru (.cons ru2 .nil), ⟨_, hT2, rfl, _, rfl⟩⟩
      show 2 ≤ sizeLine
      decide
    have kp : ∀ c ob, c ∉ [z, TI, TO, i1, i2] → s.heap.get? c = some ob → h''.get? c = some ob := fun c ob hb q => by
      obtain ⟨n1, n2, n3, n4, n5⟩ := nmem5 hb
      exact (sb.2 c n1).trans (hk c ob n1 n3 n4 n5 q)
    have I1 := I.turnedNew (t' := s.toks) kp hf (Nat.le_refl _) new
    refine ⟨.ref s.heap.objs.size, _, I1, rfl, ⟨_, x, y, rfl, I.hok.fresh (Nat.le_refl _), rfl, fun l hl => ?_, fun l hl => ?_⟩, ⟨z'', ?_, ⟨u, u2, ?_⟩, ?_, ?_⟩, fun c hcm => ?_⟩
    · rw [I.tuple_inj hl hqx]; exact hx
    · rw [I.tuple_inj hl hqy]; exact hy
    · exact (sb.2 _ D.TIz).trans (hk _ _ D.TIz D.TITO D.TIi1 D.TIi2 st.hI)
    · exact (sb.2 _ D.TOz).trans TO'
    · exact h1'.at fun o q => (sb.2 _ D.i1z).trans q
    · exact h2'.at fun o q => (sb.2 _ D.i2z).trans q
    · rw [upd_ne (Nat.ne_of_lt (old c hcm))]
      exact (hf c hcm).1
  done := by
    intro X eP eW eK hc i pins s σ H E I hf st hg
    subst eP eW eK
    obtain ⟨x0, y0, hO⟩ := st.hO
    obtain ⟨xs, ys, hqx, hqy, hend⟩ := hg
    obtain ⟨ws, rv, pl, _⟩ := I.tuple hqx
    obtain ⟨ws2, rv2, pl2, _⟩ := I.tuple hqy
    have l1 := rv.length
    have l2 := rv2.length
    have he : ws.toArray[i]? = none ∨ ws2.toArray[i]? = none := hend.imp (fun q => by simp; omega) fun q => by simp; omega
    refine RZ.pyNext_zipT_end (I.ok.hd hc) D st.hz st.hI hO st.h1 st.h2 (xs := ws.toArray) (ys := ws2.toArray) pl pl2 he fun h' hk => ⟨rfl, ?_⟩
    refine I.turnedL (t' := s.toks) (ch := [z, TI, TO, i1, i2]) (fun c ob hb q => ?_) hf
    obtain ⟨n1, n2, n3, n4, n5⟩ := nmem5 hb
    exact hk c ob n1 n3 n4 n5 q
  self := fun A i s Q E st h => wpAny_pyIter_zip st.hz h
/-! ### enumerate of a tuple -/
theorem meets_enT {v : Value} {ob : Obj} {R0 : Heap → Prop} (B : PySem.Begins v ob R0) :
    Meets (Builtin.«enumerate.__new__» ⟨[.type "enumerate", v], []⟩) (fun _ R s => R0 s.heap ∧
      R (.ok (.ret (.ref (s.heap.push ob).objs.size))) { s with heap := (s.heap.push ob).push ⟨.type "enumerate", none, .fields #[.none, .bool false, .ref s.heap.objs.size, rawInt 0, .none, .none], #[]⟩ }) :=
  .of_wp fun prog w A R s h => by
    obtain ⟨hp, g, d, tk, os⟩ := s
    obtain ⟨h1, h⟩ := h
    have ks := sub_enumerate
    have it1 : ∀ {A' : Around} {E Q : Value → Shared → Prop}, Q (.ref hp.objs.size) ⟨hp.push ob, g, d, tk, os⟩ → wpAny (model prog w) A' (pyIter v) Q E ⟨hp, g, d, tk, os⟩ := fun z => B.iter prog w _ _ ⟨hp, g, d, tk, os⟩ _ h1 z
    wp_walk using it1
    refine wpAny_stack_any fun st => wpAny_pure ?_
    split
    · rename_i c _ _ _ _ _
      cases (c == Value.type "enumerate") <;>
      · wp_walk using it1
        exact ⟨_, rfl, h⟩
    · wp_walk using it1
      exact ⟨_, rfl, h⟩
/-- the tuple's items, counted -/
def Iet (K : PySem.W.Frag) (a : Addr) : It where
  go i H := ∃ (xs : List V) (x : V), SqT K H a xs ∧ xs[i]? = some x
  yld i H v H' := ∃ T x, v = .ref T ∧ H T = none ∧ H' = upd H T (.tup [.int (i : Nat), x]) ∧ ∀ xs, SqT K H a xs → xs[i]? = some x
  stop i H := ∃ xs : List V, SqT K H a xs ∧ xs.length ≤ i
structure EnAt (e it a : Addr) (i : Nat) (h : Heap) : Prop where
  he : ∃ old, IsEnum h e it ((i : Nat) : Int) old
  hi : h.IsTupleIter it a i
  n1 : e ≠ it
  n2 : e ≠ a
  n3 : a ≠ it
theorem EnAt.get {e it a : Addr} {i : Nat} {h : Heap} (st : EnAt e it a i h) {c : Addr} (hc : c ∈ [e, it]) : ∃ o, h.get? c = some o ∧ ∀ v, o.data ≠ .cell v := by
  obtain ⟨old, he⟩ := st.he
  obtain ⟨o1, e1, _, d1⟩ := st.hi
  rcases List.mem_cons.mp hc with q | q
  · subst q
    exact ⟨_, he, fun v z => nomatch z⟩
  · obtain rfl := List.mem_singleton.mp q
    exact ⟨o1, e1, fun v z => by rw [d1] at z; cases z⟩
theorem turn_enumT {P : Program} {w : World} {K : PySem.W.Frag} {elts : List Expr} {kk : Nat} {tpos : Pos} (a e it : Addr) : Turn P w K (.Tuple elts kk tpos) (Iet K a) [e, it] e (EnAt e it a) where
  mem := List.mem_cons_self
  obj := fun i h st c hc => st.get hc
  keep := fun i h h' st k => by
    obtain ⟨old, he⟩ := st.he
    exact ⟨⟨old, k e (by simp) _ he⟩, st.hi.at fun o q => k it (by simp) o q, st.n1, st.n2, st.n3⟩
  item := by
    intro X eP eW eK hc i pins s σ H E I hf st hg
    subst eP eW eK
    obtain ⟨old, he⟩ := st.he
    obtain ⟨xs, x, hq, hx⟩ := hg
    obtain ⟨ws, rv, pl, _⟩ := I.tuple hq
    obtain ⟨u, hu, ru⟩ := rv.get hx
    have lt : ∀ c ∈ [e, it], c < s.heap.objs.size := fun c hcm => by
      obtain ⟨ob, z, _⟩ := st.get hcm
      exact Heap.lt_size z
    have hel := lt e List.mem_cons_self
    have hil := lt it (by simp)
    have hi2 : i < ws.toArray.size := by
      obtain ⟨z, _⟩ := List.getElem?_eq_some_iff.mp hu
      simpa using z
    refine wpAny_pyNext_enum_itemD (PySem.Draws.tuple (A := X.A.in1) (I.ok.hd hc) it a st.n3 ws.toArray) he ⟨st.hi, pl⟩ hi2 st.n1 (by simp [st.n1, st.n2]) fun y h' tk hy ho hst hT hsz hk => ?_
    have ey : y = u := by
      have z : ws.toArray[i]? = some u := by simpa using hu
      rw [z] at hy
      cases hy
      rfl
    subst ey
    refine ⟨_, rfl, wpAny_letOwnedTupleGo_enum (s := { s with heap := h', toks := tk + 1 }) ho fun h'' he' sb => ?_⟩
    have hT2 : h''.get? s.heap.objs.size = some ⟨.type "tuple", none, .seq #[.int i tk, y], #[]⟩ := (sb.2 _ (Nat.ne_of_gt hel)).trans hT
    have new : ObjOk X.prog X.w (upd H s.heap.objs.size (.tup [.int (i : Nat), x])) h'' s.heap.objs.size (.tup [.int (i : Nat), x]) := by
      refine ⟨?_, [.int i tk, y], .cons ⟨_, rfl⟩ (.cons ru .nil), ⟨_, hT2, rfl, _, rfl⟩⟩
      show 2 ≤ sizeLine
      decide
    have kp : ∀ c ob, c ∉ [e, it] → s.heap.get? c = some ob → h''.get? c = some ob := fun c ob hb q => by
      have z1 : c ≠ e := fun z => hb (by simp [z])
      have z2 : c ≠ it := fun z => hb (by simp [z])
      exact (sb.2 c z1).trans (hk c ob z1 z2 q)
    have I1 := I.turnedNew (t' := tk + 1) kp hf (Nat.le_refl _) new
    refine ⟨.ref s.heap.objs.size, _, I1, rfl, ⟨_, x, rfl, I.hok.fresh (Nat.le_refl _), rfl, fun l hl => ?_⟩, ⟨⟨y, ?_⟩, hst.1.at fun o q => (sb.2 it (Ne.symm st.n1)).trans q, st.n1, st.n2, st.n3⟩, fun c hcm => ?_⟩
    · rw [I.tuple_inj hl hq]
      exact hx
    · rw [show ((i + 1 : Nat) : Int) = (i : Int) + 1 by omega]
      exact he'
    · rw [upd_ne (Nat.ne_of_lt (lt c hcm))]
      exact (hf c hcm).1
  done := by
    intro X eP eW eK hc i pins s σ H E I hf st hg
    subst eP eW eK
    obtain ⟨old, he⟩ := st.he
    obtain ⟨xs, hq, hx⟩ := hg
    obtain ⟨ws, rv, pl, _⟩ := I.tuple hq
    have l1 := rv.length
    have hn : ws.toArray[i]? = none := by simp; omega
    have D : PySem.Draws X.prog X.w X.A.in1 it [it, a] i (fun _ _ => True) (fun j h => j = i ∧ h.IsTupleIter it a i ∧ h.IsTuple a ws.toArray) := {
      live := fun _ _ z => let ⟨o, ho, _⟩ := z.2.1; ⟨o, ho⟩
      frame := fun _ _ _ z hk => ⟨z.1, z.2.1.at fun o e => hk it (by simp) o e, z.2.2.at fun o e => hk a (by simp) o e⟩
      item := fun j s Q E hj z _ => absurd z.1 (Nat.ne_of_lt hj)
      done := fun s Q E z hE => wpAny_nextOf_tuple_end (I.ok.hd hc) z.2.1 z.2.2 hn hE }
    refine wpAny_pyNext_enum_endD D he ⟨rfl, st.hi, pl⟩ fun h' eb => ⟨rfl, ?_⟩
    obtain ⟨f0, f1, f2, f3, f4, f5⟩ := hf it (by simp)
    exact I.turned (t' := s.toks) (fun b o hb q => eb b o hb q) f0 f1 f3 f4 f5
  self := fun A i s Q E st h => by
    obtain ⟨old, he⟩ := st.he
    exact wpAny_pyIter_enum he h
/-- enumerate(a): a list, or a tuple -/
theorem pi_enums {e : Expr} {ta : TA} {pn tpos : Pos} {elts : List Expr} {kk : Nat} (hg : Gl X "enumerate") (hm : X.mg "enumerate" = none) (ha : PA X [e] ta) (hs : starEach [e] X.env = [(false, eval e X.env)]) :
    PI X (.Tuple elts kk tpos) (.Call (.Name "enumerate" pn) [e] [] pos) (fun σ H R => ta σ H fun vs H1 => ∃ a xs, vs = [.ref a] ∧ ((SqL X.K H1 a xs ∧ R (Ite X.K a) H1) ∨ (SqT X.K H1 a xs ∧ R (Iet X.K a) H1))) := by
  constructor
  intro pins s σ H R I h
  refine Call_ (ld_blt I hg hm boot_enumerate (PyProof.Rows.callWith_type1 (thn (ha.run pos pins s σ H _ I h) ?_) hs rfl))
  rintro us s1 ⟨vs, H1, I1, r1, b, xs, rfl, q⟩
  cases r1 with
  | cons r rr =>
    cases rr
    cases r
    have new : ∀ c ∈ [s1.heap.objs.size + 1, s1.heap.objs.size], FpOk X pins H1 c := fun c hcm => by
      have hle : s1.heap.objs.size ≤ c := by
        rcases List.mem_cons.mp hcm with z | z
        · rw [z]
          exact Nat.le_add_right _ _
        · rw [List.mem_singleton.mp z]
          exact Nat.le_refl _
      exact I1.fpOk hle (I1.hok.fresh hle)
    rcases q with ⟨hq, q⟩ | ⟨hq, q⟩
    · obtain ⟨ws, _, p1, _⟩ := I1.list hq
      refine call_enumerate_list p1.isList fun h' he hit hsz hk => wpAny_pyIter_enum he ?_
      exact ⟨_, _, _, _, H1, rfl, I1.kept (t' := s1.toks) hk, turn_enum b _ _, ⟨⟨.none, he⟩, hit, Nat.succ_ne_self _⟩, new, q⟩
    · obtain ⟨ws, _, p1, _⟩ := I1.tuple hq
      have hb : b < s1.heap.objs.size := p1.lt
      have hz : (s1.heap.push ⟨.type "tuple_iterator", none, .fields #[.ref b, .int 0 0], #[]⟩).objs.size = s1.heap.objs.size + 1 := Heap.size_push ..
      have he : IsEnum ((s1.heap.push ⟨.type "tuple_iterator", none, .fields #[.ref b, .int 0 0], #[]⟩).push ⟨.type "enumerate", none, .fields #[.none, .bool false, .ref s1.heap.objs.size, rawInt 0, .none, .none], #[]⟩) (s1.heap.objs.size + 1) s1.heap.objs.size 0 .none := by
        have z := Heap.get?_push_size (s1.heap.push ⟨.type "tuple_iterator", none, .fields #[.ref b, .int 0 0], #[]⟩) (o := ⟨.type "enumerate", none, .fields #[.none, .bool false, .ref s1.heap.objs.size, rawInt 0, .none, .none], #[]⟩) rfl
        rw [hz] at z
        exact z
      refine callType_new F.called_enumerate (by decide) (F.typeCall_enumerate_1 _) (F.newCall_enumerate_1 _) (fun obj => F.args_object_init_2 obj _) F.entry_enumerate_new (meets_enT (begins_tuple b ws.toArray)) ⟨p1, ?_⟩
      show _ ∧ _
      rw [hz]
      refine ⟨⟨_, he, rfl⟩, wpAny_pyIter_enum he ?_⟩
      refine ⟨_, _, _, _, H1, rfl, I1.kept (t' := s1.toks) fun c ob z => Heap.get?_push_of_some _ (Heap.get?_push_of_some _ z), turn_enumT b _ _, ⟨⟨.none, he⟩, ⟨_, Heap.get?_push_of_some _ (Heap.get?_push_size _ rfl), rfl, rfl⟩, Nat.succ_ne_self _, ?_, ?_⟩, new, q⟩
      · exact Nat.ne_of_gt (Nat.lt_succ_of_lt hb)
      · exact Nat.ne_of_lt hb
/-- zip(a, b): two lists, or two tuples -/
theorem pi_zips {e e2 : Expr} {ta : TA} {pn tpos : Pos} {elts : List Expr} {kk : Nat} (hg : Gl X "zip") (hm : X.mg "zip" = none) (ha : PA X [e, e2] ta)
    (hs : starEach [e, e2] X.env = (false, eval e X.env) :: starEach [e2] X.env) (hpl : (backTo pos (starEach [e2] X.env)).any (·.1) = false) :
    PI X (.Tuple elts kk tpos) (.Call (.Name "zip" pn) [e, e2] [] pos) (fun σ H R => ta σ H fun vs H1 => ∃ a b xs ys, vs = [.ref a, .ref b] ∧ ((SqL X.K H1 a xs ∧ SqL X.K H1 b ys ∧ R (Itz X.K a b) H1) ∨ (SqT X.K H1 a xs ∧ SqT X.K H1 b ys ∧ R (Itp X.K a b) H1))) := by
  constructor
  intro pins s σ H R I h
  refine Call_ (ld_blt I hg hm PyProof.Rows.boot_zip (PyProof.Rows.callWith_type1 (thn (ha.run pos pins s σ H _ I h) ?_) hs hpl))
  rintro us s1 ⟨vs, H1, I1, r1, b, d, xs, ys, rfl, q⟩
  cases r1 with
  | cons r rr =>
    cases rr with
    | cons r' rr =>
      cases rr
      cases r
      cases r'
      have new : ∀ c ∈ [s1.heap.objs.size + 4, s1.heap.objs.size + 2, s1.heap.objs.size + 3, s1.heap.objs.size, s1.heap.objs.size + 1], FpOk X pins H1 c := fun c hcm => by
        have hle : s1.heap.objs.size ≤ c := by
          rcases mem5 hcm with z | z | z | z | z <;> rw [z] <;> first | exact Nat.le_refl _ | exact Nat.le_add_right _ _
        exact I1.fpOk hle (I1.hok.fresh hle)
      rcases q with ⟨hqx, hqy, q⟩ | ⟨hqx, hqy, q⟩
      · obtain ⟨ws, _, p1, _⟩ := I1.list hqx
        obtain ⟨ws2, _, p2, _⟩ := I1.list hqy
        refine call_zip_2 p1.isList p2.isList fun h' hz hI hO h1 h2 hsz hk => wpAny_pyIter_zip hz ?_
        exact ⟨_, _, _, _, H1, rfl, I1.kept (t' := s1.toks) hk, turn_zip (PySem.W.ktu_apart s1.heap.objs.size b d p1.lt p2.lt), ⟨hz, hI, ⟨_, _, hO⟩, h1, h2⟩, new, q⟩
      · obtain ⟨ws, _, p1, _⟩ := I1.tuple hqx
        obtain ⟨ws2, _, p2, _⟩ := I1.tuple hqy
        refine RZ.call_zipT (xs := ws.toArray) (ys := ws2.toArray) p1 p2 fun h' hz hI hO h1 h2 hsz hk => wpAny_pyIter_zip hz ?_
        exact ⟨_, _, _, _, H1, rfl, I1.kept (t' := s1.toks) hk, turn_zipT (PySem.W.ktu_apart s1.heap.objs.size b d p1.lt p2.lt), ⟨hz, hI, ⟨_, _, hO⟩, h1, h2⟩, new, q⟩

/-! ### what is yielded -/
/-- J yields ds, in all states to come -/
def Yl (K : PySem.W.Frag) (J : It) (ds : List D) (Rl : List Addr → Hp → Prop) : Prop := ∀ os2 H2 o2, Rl os2 H2 → OOk K os2 H2 o2 → ∀ i,
  (i < ds.length → J.go i H2 ∧ ∀ x H3, J.yld i H2 x H3 → Same H2 H3 ∧ ∃ d, ds[i]? = some d ∧ Rep K os2 H3 d x) ∧ (ds.length ≤ i → J.stop i H2)
/-- what a loop's body keeps -/
structure Kp (os : List Addr) (H : Hp) (os2 : List Addr) (H2 : Hp) : Prop where
  pre : ∃ new, os2 = os ++ new
  keep : ∀ b u, H b = some u → isMu u = false → (∀ ps, u ≠ .tbl ps) → H2 b = some u
theorem SqT.kp {os2 : List Addr} {H2 : Hp} (P : Kp os H os2 H2) {a : Addr} {xs : List V} (h : SqT K H a xs) : SqT K H2 a xs := by
  rcases h with (h | ⟨ob, h⟩) | h
  · exact .inl (.inl (P.keep _ _ h rfl fun _ e => nomatch e))
  · exact .inl (.inr ⟨ob, P.keep _ _ h rfl fun _ e => nomatch e⟩)
  · exact .inr h
theorem SqF.kp {os2 : List Addr} {H2 : Hp} (P : Kp os H os2 H2) {a : Addr} {xs : List V} (h : SqF K H a xs) : SqF K H2 a xs := by
  obtain ⟨ob, h⟩ := h
  exact ⟨ob, P.keep _ _ h rfl fun _ e => nomatch e⟩
theorem KeyT.kp {os2 : List Addr} {H2 : Hp} (P : Kp os H os2 H2) {ds : List D} {a : Addr} {xs : List V} (h : KeyT H ds a xs) : KeyT H2 ds a xs := fun z => P.keep _ _ (h z) rfl fun _ e => nomatch e
mutual
theorem Rep.kp {os2 : List Addr} {H2 : Hp} (P : Kp os H os2 H2) : ∀ (d : D) {v : V}, Rep K os H d v → Rep K os2 H2 d v
  | .non, v, h => by unfold Rep at h ⊢; exact h
  | .bl _, v, h => by unfold Rep at h ⊢; exact h
  | .int _, v, h => by unfold Rep at h ⊢; exact h
  | .str _, v, h => by unfold Rep at h ⊢; exact h
  | .tup ds, v, h => by
    unfold Rep at h ⊢
    obtain ⟨a, xs, e, h1, h2, h3⟩ := h
    exact ⟨a, xs, e, SqT.kp P h1, Reps.kp P ds h2, h3.kp P⟩
  | .lst ds, v, h => by
    unfold Rep at h ⊢
    obtain ⟨a, xs, e, h1, h2⟩ := h
    exact ⟨a, xs, e, SqF.kp P h1, Reps.kp P ds h2⟩
  | .dct ks vs, v, h => by
    unfold Rep at h ⊢
    obtain ⟨e1, e2, a, ob, e3, h1⟩ := h
    exact ⟨e1, e2, a, ob, e3, P.keep _ _ h1 rfl fun _ e => nomatch e⟩
  | .obj i, v, h => by
    unfold Rep at h ⊢
    obtain ⟨a, e, e2⟩ := h
    obtain ⟨new, rfl⟩ := P.pre
    exact ⟨a, by rw [List.getElem?_append_left (List.getElem?_eq_some_iff.mp e).1]; exact e, e2⟩
  | .kt ds, v, h => by
    unfold Rep at h ⊢
    obtain ⟨a, xs, e, h1, h2⟩ := h
    exact ⟨a, xs, e, SqT.kp P h1, Reps.kp P ds h2⟩
theorem Reps.kp {os2 : List Addr} {H2 : Hp} (P : Kp os H os2 H2) : ∀ (ds : List D) {xs : List V}, Reps K os H ds xs → Reps K os2 H2 ds xs
  | [], xs, h => by unfold Reps at h ⊢; exact h
  | d :: ds, xs, h => by
    obtain ⟨x, r, rfl, h1, h2⟩ := h.inv
    exact .cons (Rep.kp P d h1) (Reps.kp P ds h2)
end
/-- a comprehension only reads (true); a loop's body may change what is the frame's own (false) -/
def RlM (m : Bool) (T : Tbs) (os : List Addr) (H : Hp) (os2 : List Addr) (H2 : Hp) : Prop := if m then Post T os H os2 H2 else Kp os H os2 H2
def RepM (m : Bool) (K : PySem.W.Frag) (os : List Addr) (H : Hp) (d : D) (v : V) : Prop := if m then RepB K os H d v else Rep K os H d v
def tX (m : Bool) (p : Pm) (K : PySem.W.Frag) (W : WX) (ie : IE) : TE := fun σ H Q => ∃ ρ os o, At p K os H σ ρ o ∧ Out p K W σ os H (p.evE ie ρ o) fun d _ os' H' => ∀ v, RepM m K os' H' d v → Q v H'
def tS (m : Bool) (p : Pm) (K : PySem.W.Frag) (W : WX) (src : ISrc) : TI := fun σ H R => ∃ ρ os o, At p K os H σ ρ o ∧ Out p K W σ os H (p.evSrc src ρ o) fun ds _ os' H' => ∀ J, Yl K J ds (RlM m p.T os' H') → R J H'
theorem tX_of {m : Bool} {a : IE} {R : VK} (A : At p K os H σ ρ o) {f : D → Objs → Res α} {Q : α → Objs → List Addr → Hp → Prop} (h : Out p K W σ os H ((p.evE a ρ o).bind f) Q)
    (hR : ∀ d o' os' H' v, Post p.T os H os' H' → At p K os' H' σ ρ o' → RepM m K os' H' d v → Out p K W σ os' H' (f d o') Q → R v H') : tX m p K W a σ H R :=
  ⟨ρ, os, o, A, h.bind.mono fun d o' os' H' _ P O q v r => hR d o' os' H' v P (A.next P O) r q⟩
theorem RepM.post {m : Bool} {T : Tbs} {os2 : List Addr} {H2 : Hp} {d : D} {v : V} (P : Post T os H os2 H2) (O : OOk K os H o) (h : RepM m K os H d v) : RepM m K os2 H2 d v := by
  cases m with
  | true => exact RepB.post P O h
  | false => exact Rep.post P O d h
theorem RepM.tup {m : Bool} {ds : List D} {v : V} (h : RepM m K os H (.tup ds) v) : ∃ a xs, v = .ref a ∧ SqT K H a xs ∧ Reps K os H ds xs := by
  cases m with
  | true => exact RepB.tup h
  | false => exact Rep.tup h
/-- what stays -/
theorem RepM.kt {m : Bool} {ds : List D} {v : V} (h : RepM m K os H (.kt ds) v) : ∃ a xs, v = .ref a ∧ SqT K H a xs ∧ Reps K os H ds xs := by
  cases m with
  | true => exact RepB.kt h
  | false => exact RepB.kt (.inl h)
/-- what stays -/
theorem RlM.sqT {m : Bool} {T : Tbs} {os2 : List Addr} {H2 : Hp} (O : OOk K os H o) (P : RlM m T os H os2 H2) {a : Addr} {xs : List V} (h : SqT K H a xs) : SqT K H2 a xs := by
  cases m with
  | true => exact SqT.post P O h
  | false => exact SqT.kp P h
theorem RlM.reps {m : Bool} {T : Tbs} {os2 : List Addr} {H2 : Hp} (O : OOk K os H o) (P : RlM m T os H os2 H2) {ds : List D} {xs : List V} (h : Reps K os H ds xs) : Reps K os2 H2 ds xs := by
  cases m with
  | true => exact Reps.post P O ds h
  | false => exact Reps.kp P ds h
theorem RepM.sq {m : Bool} {T : Tbs} {ds : List D} {v : V} (h : RepM m K os H (.lst ds) v) (O : OOk K os H o) : ∃ a xs, v = .ref a ∧ SqL K H a xs ∧ Reps K os H ds xs ∧ ∀ {os2 H2}, RlM m T os H os2 H2 → SqL K H2 a xs := by
  cases m with
  | true =>
    have h : RepB K os H (.lst ds) v := h
    rcases h with h | ⟨ds', a, xs, e, rfl, n, h1, h2⟩
    · obtain ⟨a, xs, rfl, h1, h2⟩ := h.lst
      exact ⟨a, xs, rfl, h1.toL, h2, fun P => (SqF.post P O h1).toL⟩
    · cases e
      exact ⟨a, xs, rfl, .of h1, h2, fun P => .of (P.keep _ _ h1 n fun _ e => by cases e)⟩
  | false =>
    obtain ⟨a, xs, rfl, h1, h2⟩ := Rep.lst h
    exact ⟨a, xs, rfl, h1.toL, h2, fun P => (SqF.kp P h1).toL⟩
theorem pi_imp {e : Expr} {t t' : TI} (h : PI X tg e t) (m : ∀ σ H Q, t' σ H Q → t σ H Q) : PI X tg e t' := ⟨fun pins s σ H Q I q => h.run pins s σ H Q I (m σ H Q q)⟩
theorem get_lt {β : Type} {xs : List β} {i : Nat} (h : i < xs.length) : ∃ x, xs[i]? = some x := ⟨xs[i], List.getElem?_eq_getElem h⟩
theorem yl_list {m : Bool} {T : Tbs} {ds : List D} {xs : List V} {q : Addr} (O : OOk K os H o) (r : Reps K os H ds xs) (st : ∀ {os2 H2}, RlM m T os H os2 H2 → SqL K H2 q xs) : Yl K (Itl K q) ds (RlM m T os H) := fun os2 H2 o2 P O2 i => by
  have s2 := st P
  have r2 := P.reps O r
  refine ⟨fun hi => ?_, fun hi => ⟨xs, s2, by rw [r.length]; exact hi⟩⟩
  obtain ⟨d, ed⟩ := get_lt hi
  obtain ⟨x, ex, rx⟩ := r2.get ed
  refine ⟨⟨xs, x, s2, ex⟩, fun y H3 h => ?_⟩
  obtain ⟨rfl, h⟩ := h
  refine ⟨Same.rfl', d, ed, ?_⟩
  have z := h xs s2
  rw [ex] at z
  cases z
  exact rx
theorem yl_tup {m : Bool} {T : Tbs} {ds : List D} {xs : List V} {q : Addr} (O : OOk K os H o) (r : Reps K os H ds xs) (h : SqT K H q xs) : Yl K (Itt K q) ds (RlM m T os H) := fun os2 H2 o2 P O2 i => by
  have s2 := P.sqT O h
  have r2 := P.reps O r
  refine ⟨fun hi => ?_, fun hi => ⟨xs, s2, by rw [r.length]; exact hi⟩⟩
  obtain ⟨d, ed⟩ := get_lt hi
  obtain ⟨x, ex, rx⟩ := r2.get ed
  refine ⟨⟨xs, x, s2, ex⟩, fun y H3 h => ?_⟩
  obtain ⟨rfl, h⟩ := h
  refine ⟨Same.rfl', d, ed, ?_⟩
  have z := h xs s2
  rw [ex] at z
  cases z
  exact rx
theorem rangeD_length (i j : Int) : (rangeD i j).length = (j - i).toNat := by unfold rangeD; simp
theorem yl_range {Rl : List Addr → Hp → Prop} {lo hi : Int} {n : Nat} (hn : n = (hi - lo).toNat) : Yl K (Itr lo n) (rangeD lo hi) Rl := fun os2 H2 o2 P O2 i => by
  subst hn
  refine ⟨fun h => ?_, fun h => by rw [rangeD_length] at h; exact h⟩
  rw [rangeD_length] at h
  refine ⟨h, fun y H3 e => ?_⟩
  obtain ⟨rfl, rfl⟩ := e
  refine ⟨Same.rfl', .int (lo + (i : Nat)), ?_, .mkInt _⟩
  unfold rangeD
  rw [List.getElem?_map, List.getElem?_range h]
  rfl
theorem zipD_get {xs ys : List D} {i : Nat} {x y : D} (h1 : xs[i]? = some x) (h2 : ys[i]? = some y) : ((xs.zip ys).map fun p => D.tup [p.1, p.2])[i]? = some (.tup [x, y]) := by
  have h3 : (xs.zip ys)[i]? = some (x, y) := List.getElem?_zip_eq_some.mpr ⟨h1, h2⟩
  rw [List.getElem?_map, h3]
  rfl
theorem pair_rep {o2 : Objs} {x y : D} {vx vy : V} {T : Addr} (O : OOk K os H o2) (hn : H T = none) (r1 : Rep K os H x vx) (r2 : Rep K os H y vy) : Rep K os (upd H T (.tup [vx, vy])) (.tup [x, y]) (.ref T) := by
  unfold Rep
  exact ⟨T, _, rfl, .inl (.inl upd_same), Reps.same O (same_upd hn) (.cons r1 (.cons r2 .nil)), fun _ => upd_same⟩
theorem yl_zipL {m : Bool} {T : Tbs} {ds es : List D} {xs ys : List V} {q1 q2 : Addr} (O : OOk K os H o) (r : Reps K os H ds xs) (r' : Reps K os H es ys) (st : ∀ {os2 H2}, RlM m T os H os2 H2 → SqL K H2 q1 xs) (st' : ∀ {os2 H2}, RlM m T os H os2 H2 → SqL K H2 q2 ys) :
    Yl K (Itz K q1 q2) ((ds.zip es).map fun p => .tup [p.1, p.2]) (RlM m T os H) := fun os2 H2 o2 P O2 i => by
  have s1 := st P
  have s2 := st' P
  have t1 := P.reps O r
  have t2 := P.reps O r'
  have l1 := r.length
  have l2 := r'.length
  refine ⟨fun hi => ?_, fun hi => ⟨xs, ys, s1, s2, ?_⟩⟩
  · rw [List.length_map, List.length_zip] at hi
    obtain ⟨d, ed⟩ := get_lt (xs := ds) (i := i) (by omega)
    obtain ⟨e, ee⟩ := get_lt (xs := es) (i := i) (by omega)
    obtain ⟨x, ex, rx⟩ := t1.get ed
    obtain ⟨y, ey, ry⟩ := t2.get ee
    refine ⟨⟨xs, ys, x, y, s1, s2, ex, ey⟩, fun v H3 h => ?_⟩
    obtain ⟨T', x', y', rfl, hn, rfl, h1, h2⟩ := h
    have z1 := h1 xs s1
    have z2 := h2 ys s2
    rw [ex] at z1
    rw [ey] at z2
    cases z1
    cases z2
    exact ⟨same_upd hn, _, zipD_get ed ee, pair_rep O2 hn rx ry⟩
  · rw [List.length_map, List.length_zip] at hi
    rw [l1, l2]
    omega
theorem yl_zipT {m : Bool} {T : Tbs} {ds es : List D} {xs ys : List V} {q1 q2 : Addr} (O : OOk K os H o) (r : Reps K os H ds xs) (r' : Reps K os H es ys) (st : SqT K H q1 xs) (st' : SqT K H q2 ys) :
    Yl K (Itp K q1 q2) ((ds.zip es).map fun p => .tup [p.1, p.2]) (RlM m T os H) := fun os2 H2 o2 P O2 i => by
  have s1 := P.sqT O st
  have s2 := P.sqT O st'
  have t1 := P.reps O r
  have t2 := P.reps O r'
  have l1 := r.length
  have l2 := r'.length
  refine ⟨fun hi => ?_, fun hi => ⟨xs, ys, s1, s2, ?_⟩⟩
  · rw [List.length_map, List.length_zip] at hi
    obtain ⟨d, ed⟩ := get_lt (xs := ds) (i := i) (by omega)
    obtain ⟨e, ee⟩ := get_lt (xs := es) (i := i) (by omega)
    obtain ⟨x, ex, rx⟩ := t1.get ed
    obtain ⟨y, ey, ry⟩ := t2.get ee
    refine ⟨⟨xs, ys, x, y, s1, s2, ex, ey⟩, fun v H3 h => ?_⟩
    obtain ⟨T', x', y', rfl, hn, rfl, h1, h2⟩ := h
    have z1 := h1 xs s1
    have z2 := h2 ys s2
    rw [ex] at z1
    rw [ey] at z2
    cases z1
    cases z2
    exact ⟨same_upd hn, _, zipD_get ed ee, pair_rep O2 hn rx ry⟩
  · rw [List.length_map, List.length_zip] at hi
    rw [l1, l2]
    omega
theorem yl_enum {m : Bool} {T : Tbs} {ds : List D} {xs : List V} {q : Addr} (O : OOk K os H o) (r : Reps K os H ds xs) (st : ∀ {os2 H2}, RlM m T os H os2 H2 → SqL K H2 q xs) :
    Yl K (Ite K q) ((List.range ds.length).zipWith (fun (i : Nat) x => .tup [.int i, x]) ds) (RlM m T os H) := fun os2 H2 o2 P O2 i => by
  have s2 := st P
  have r2 := P.reps O r
  have hl : ((List.range ds.length).zipWith (fun (i : Nat) x => D.tup [.int i, x]) ds).length = ds.length := by simp
  rw [hl]
  refine ⟨fun hi => ?_, fun hi => ⟨xs, s2, by rw [r.length]; exact hi⟩⟩
  obtain ⟨d, ed⟩ := get_lt hi
  obtain ⟨x, ex, rx⟩ := r2.get ed
  refine ⟨⟨xs, x, s2, ex⟩, fun v H3 h => ?_⟩
  obtain ⟨T', x', rfl, hn, rfl, h1⟩ := h
  have z1 := h1 xs s2
  rw [ex] at z1
  cases z1
  refine ⟨same_upd hn, .tup [.int (i : Nat), d], ?_, pair_rep O2 hn (.mkInt _) rx⟩
  rw [List.getElem?_zipWith, List.getElem?_range hi, ed]
theorem yl_enumT {m : Bool} {T : Tbs} {ds : List D} {xs : List V} {q : Addr} (O : OOk K os H o) (r : Reps K os H ds xs) (st : SqT K H q xs) :
    Yl K (Iet K q) ((List.range ds.length).zipWith (fun (i : Nat) x => .tup [.int i, x]) ds) (RlM m T os H) := fun os2 H2 o2 P O2 i => by
  have s2 := P.sqT O st
  have r2 := P.reps O r
  have hl : ((List.range ds.length).zipWith (fun (i : Nat) x => D.tup [.int i, x]) ds).length = ds.length := by simp
  rw [hl]
  refine ⟨fun hi => ?_, fun hi => ⟨xs, s2, by rw [r.length]; exact hi⟩⟩
  obtain ⟨d, ed⟩ := get_lt hi
  obtain ⟨x, ex, rx⟩ := r2.get ed
  refine ⟨⟨xs, x, s2, ex⟩, fun v H3 h => ?_⟩
  obtain ⟨T', x', rfl, hn, rfl, h1⟩ := h
  have z1 := h1 xs s2
  rw [ex] at z1
  cases z1
  refine ⟨same_upd hn, .tup [.int (i : Nat), d], ?_, pair_rep O2 hn (.mkInt _) rx⟩
  rw [List.getElem?_zipWith, List.getElem?_range hi, ed]
/-! ### the rules -/
theorem gs_seq {m : Bool} (h : PE X ea (tX m p X.K W a)) : PI X tg ea (tS m p X.K W (.seq a)) := pi_imp (pi_seq h) fun σ H R ⟨ρ, os, o, A, h⟩ => tX_of A h fun x o1 os1 H1 vx P1 A1 r1 h1 => by
  cases x with
  | tup ds =>
    obtain ⟨q, xs, rfl, h2, h3⟩ := RepM.tup r1
    exact ⟨q, xs, rfl, .inr ⟨h2, h1.ok A1.obs _ (yl_tup A1.obs h3 h2)⟩⟩
  | lst ds =>
    obtain ⟨q, xs, rfl, h2, h3, h4⟩ := RepM.sq (T := p.T) r1 A1.obs
    exact ⟨q, xs, rfl, .inl ⟨h2, h1.ok A1.obs _ (yl_list A1.obs h3 h4)⟩⟩
  | kt ds =>
    obtain ⟨q, xs, rfl, h2, h3⟩ := RepM.kt r1
    exact ⟨q, xs, rfl, .inr ⟨h2, h1.ok A1.obs _ (yl_tup A1.obs h3 h2)⟩⟩
  | _ => exact h1.elim
theorem gs_range1 {m : Bool} {pn : Pos} (hg : Gl X "range") (hm : X.mg "range" = none) (ha : PE X ea (tE p X.K W a)) (hs : ∀ x y, ea ≠ .Starred x y) : PI X tg (.Call (.Name "range" pn) [ea] [] pos) (tS m p X.K W (.range1 a)) :=
  pi_imp (pi_range1 hg hm (pa_cons ha pa_nil (starEach_ne _ hs)) (by rw [starEach_ne _ hs]; rfl)) fun σ H R ⟨ρ, os, o, A, h⟩ => tE_of A h fun x o1 os1 H1 vx P1 A1 r1 h1 => by
    cases x with
    | int j =>
      obtain rfl := r1.int
      have h1 : Out p X.K W σ os1 H1 (if rngOk j then Res.ok (rangeD 0 j) o1 else .stuck) _ := h1
      split at h1
      · rename_i hz
        unfold rngOk at hz
        simp only [Bool.and_eq_true, decide_eq_true_eq] at hz
        exact ⟨j, rfl, hz.1, hz.2, h1.ok A1.obs _ (yl_range (by simp))⟩
      · exact h1.elim
    | _ => exact h1.elim
theorem gs_range2 {m : Bool} {pn : Pos} (hg : Gl X "range") (hm : X.mg "range" = none) (ha : PE X ea (tE p X.K W a)) (hb : PE X eb (tE p X.K W b)) (hs : ∀ x y, ea ≠ .Starred x y) (hs2 : ∀ x y, eb ≠ .Starred x y) : PI X tg (.Call (.Name "range" pn) [ea, eb] [] pos) (tS m p X.K W (.range2 a b)) :=
  pi_imp (pi_range2 hg hm (pa_cons ha (pa_cons hb pa_nil (starEach_ne _ hs2)) (starEach_ne _ hs)) (by rw [starEach_ne _ hs, starEach_ne _ hs2]; rfl) (by rw [starEach_ne _ hs2]; rfl)) fun σ H R ⟨ρ, os, o, A, h⟩ => tE_of A h fun x o1 os1 H1 vx P1 A1 r1 h1 => tE_of A1 h1 fun y o2 os2 H2 vy P2 A2 r2 h2 => by
    cases x with
    | int i =>
      cases y with
      | int j =>
        obtain rfl := r1.int
        obtain rfl := r2.int
        have h2 : Out p X.K W σ os2 H2 (if rngOk i && rngOk j then Res.ok (rangeD i j) o2 else .stuck) _ := h2
        split at h2
        · rename_i hz
          unfold rngOk at hz
          simp only [Bool.and_eq_true, decide_eq_true_eq] at hz
          exact ⟨i, j, rfl, ⟨hz.1.1, hz.1.2, hz.2.1, hz.2.2⟩, h2.ok A2.obs _ (yl_range rfl)⟩
        · exact h2.elim
      | _ => exact h2.elim
    | _ => exact h2.elim
theorem gs_zip {m : Bool} {pn tpos : Pos} {elts : List Expr} {kk : Nat} (hg : Gl X "zip") (hm : X.mg "zip" = none) (ha : PE X ea (tX m p X.K W a)) (hb : PE X eb (tX m p X.K W b)) (hs : ∀ x y, ea ≠ .Starred x y) (hs2 : ∀ x y, eb ≠ .Starred x y) :
    PI X (.Tuple elts kk tpos) (.Call (.Name "zip" pn) [ea, eb] [] pos) (tS m p X.K W (.zip a b)) :=
  pi_imp (pi_zips hg hm (pa_cons ha (pa_cons hb pa_nil (starEach_ne _ hs2)) (starEach_ne _ hs)) (starEach_ne _ hs) (by rw [starEach_ne _ hs2]; rfl)) fun σ H R ⟨ρ, os, o, A, h⟩ => tX_of A h fun x o1 os1 H1 vx P1 A1 r1 h1 => tX_of A1 h1 fun y o2 os2 H2 vy P2 A2 r2 h2 => by
    have r1' := RepM.post P2 A1.obs r1
    cases x with
    | lst xs =>
      cases y with
      | lst ys =>
        obtain ⟨q, vs, rfl, e2, e3, e4⟩ := RepM.sq (T := p.T) r1' A2.obs
        obtain ⟨q', vs', rfl, e2', e3', e4'⟩ := RepM.sq (T := p.T) r2 A2.obs
        exact ⟨q, q', vs, vs', rfl, .inl ⟨e2, e2', h2.ok A2.obs _ (yl_zipL A2.obs e3 e3' e4 e4')⟩⟩
      | _ => exact h2.elim
    | tup xs =>
      cases y with
      | tup ys =>
        obtain ⟨q, vs, rfl, e2, e3⟩ := RepM.tup r1'
        obtain ⟨q', vs', rfl, e2', e3'⟩ := RepM.tup r2
        exact ⟨q, q', vs, vs', rfl, .inr ⟨e2, e2', h2.ok A2.obs _ (yl_zipT A2.obs e3 e3' e2 e2')⟩⟩
      | _ => exact h2.elim
    | _ => exact h2.elim
theorem gs_enum {m : Bool} {pn tpos : Pos} {elts : List Expr} {kk : Nat} (hg : Gl X "enumerate") (hm : X.mg "enumerate" = none) (ha : PE X ea (tX m p X.K W a)) (hs : ∀ x y, ea ≠ .Starred x y) :
    PI X (.Tuple elts kk tpos) (.Call (.Name "enumerate" pn) [ea] [] pos) (tS m p X.K W (.enum a)) :=
  pi_imp (pi_enums hg hm (pa_cons ha pa_nil (starEach_ne _ hs)) (by rw [starEach_ne _ hs]; rfl)) fun σ H R ⟨ρ, os, o, A, h⟩ => tX_of A h fun x o1 os1 H1 vx P1 A1 r1 h1 => by
    cases x with
    | lst ds =>
      obtain ⟨q, xs, rfl, h2, h3, h4⟩ := RepM.sq (T := p.T) r1 A1.obs
      exact ⟨q, xs, rfl, .inl ⟨h2, h1.ok A1.obs _ (yl_enum A1.obs h3 h4)⟩⟩
    | tup ds =>
      obtain ⟨q, xs, rfl, h2, h3⟩ := RepM.tup r1
      exact ⟨q, xs, rfl, .inr ⟨h2, h1.ok A1.obs _ (yl_enumT A1.obs h3 h2)⟩⟩
    | _ => exact h1.elim
end
end Ev

set_option maxHeartbeats 2000000
/-! EvIh: a comprehension over a list or a tuple, while an exception is handled. -/
namespace Ev
open PySem PySem.Spec PyProof.Rows L2 HotX L2H

/-! ### the ends of iterators -/
section
variable {prog : Program} {w : World} {A : Around} {E : Value → Shared → Prop} {s : Shared}
theorem list_end_hot {z q hx : Addr} {i : Nat} {items : Array Value} {Q : Option Value → Shared → Prop} (hot : HotAt A hx s.heap) (hz : hx ≠ z) (st : s.heap.IsListIter z q i) (hl : s.heap.IsList q items) (no : items[i]? = none)
    (hQ : ∀ g', Heap.ExtBut z s.heap g' → Q none { s with heap := g' }) : wpAny (model prog w) A (pyNext (.ref z)) Q E s := by
  obtain ⟨oz, gz, _, dz⟩ := id st
  obtain ⟨oq, gq, _, nq, dq⟩ := hl
  obtain ⟨hh, ox, vx, gx, dx, cx⟩ := hot
  unfold pyNext
  refine wpAny_bind (wpAny_attempt (wpAny_callSpecial?_slot (name := Str.ofString "__next__") st.typeIs slot_listiter_next (wpAny_call_entry slot_listiter_next st.typeIs entry_listiter_next ?_ (args_listiter_next _))))
  show wpAny _ _ (field (.ref z) 0 >>= _) _ _ s
  refine wpAny_bind (wpAny_field gz dz (x := .ref q) rfl ?_)
  show wpAny _ _ (if (Value.ref q == Value.none) = true then _ else _) _ _ s
  rw [if_neg (show ¬ ((Value.ref q == Value.none) = true) from Bool.false_ne_true)]
  show wpAny _ _ (field (.ref z) 1 >>= _) _ _ s
  refine wpAny_bind (wpAny_field gz dz (x := .int i 0) rfl ?_)
  show wpAny _ _ (seqItems? (.ref q) >>= _) _ _ s
  refine wpAny_bind (wpAny_seqItems gq dq ?_)
  simp only [Int.toNat_natCast, no]
  refine wpAny_bind (wpAny_rule (wpAny_bind (wpAny_setField gz dz (by simp) ?_)))
  show wpAny _ _ (newExc (.type "StopIteration") [] >>= _) _ _ _
  refine wpAny_bind ?_
  simp only [newExc, newTuple]
  refine wpAny_bind (wpAny_newObj_type ?_ (by size_fits))
  refine wpAny_bind (m := firstArgMember _ _) (wpAny_of_eq (a := Value.none) (by first | rfl | (simp only [firstArgMember]; rfl)) ?_)
  refine wpAny_newObj_type ?_ (by size_fits)
  have gx1 : (s.heap.update z (Obj.mapFields (·.setIfInBounds 0 Value.none))).get? hx = some ox := (Heap.get?_update_other _ _ hz.symm).trans gx
  refine raiseNew_hot ⟨hh, ox, vx, Heap.get?_push_of_some _ (Heap.get?_push_of_some _ gx1), dx, cx⟩ (Nat.ne_of_lt (Heap.lt_size (Heap.get?_push_of_some _ gx1))) (Heap.get?_push_size _ rfl) rfl (by first | (simp; done) | (simp; omega) | (simp only [Array.size_append]; simp; omega)) ?_
  refine wpAny_bind (wpAny_isInstance (T := "StopIteration") (b := true) ⟨_, Heap.get?_update_self _ (Heap.get?_push_size _ rfl) rfl, rfl⟩ isSubtype_stop (wpAny_pure (hQ _ fun b o hb e => ?_)))
  have e1 : (s.heap.update z (Obj.mapFields (·.setIfInBounds 0 Value.none))).get? b = some o := (Heap.get?_update_other _ _ (Ne.symm hb)).trans e
  rw [Heap.get?_update_other _ _ (Nat.ne_of_gt (Heap.lt_size (Heap.get?_push_of_some _ e1)))]
  exact Heap.get?_push_of_some _ (Heap.get?_push_of_some _ e1)
theorem tuple_end_hot {z q hx : Addr} {i : Nat} {items : Array Value} {Q : Option Value → Shared → Prop} (hot : HotAt A hx s.heap) (hz : hx ≠ z) (st : IsTupIter s.heap z q i) (hl : IsTup s.heap q items) (no : items[i]? = none)
    (hQ : ∀ g', Heap.ExtBut z s.heap g' → Q none { s with heap := g' }) : wpAny (model prog w) A (pyNext (.ref z)) Q E s := by
  obtain ⟨oz, gz, _, dz⟩ := id st
  obtain ⟨oq, gq, _, nq, dq⟩ := hl
  obtain ⟨hh, ox, vx, gx, dx, cx⟩ := hot
  unfold pyNext
  refine wpAny_bind (wpAny_attempt (wpAny_callSpecial?_slot (name := Str.ofString "__next__") st.typeIs slot_tupleiter_next (wpAny_call_entry slot_tupleiter_next st.typeIs entry_tupleiter_next ?_ (args_tupleiter_next _))))
  show wpAny _ _ (field (.ref z) 0 >>= _) _ _ s
  refine wpAny_bind (wpAny_field gz dz (x := .ref q) rfl ?_)
  show wpAny _ _ (if (Value.ref q == Value.none) = true then _ else _) _ _ s
  rw [if_neg (show ¬ ((Value.ref q == Value.none) = true) from Bool.false_ne_true)]
  show wpAny _ _ (field (.ref z) 1 >>= _) _ _ s
  refine wpAny_bind (wpAny_field gz dz (x := .int i 0) rfl ?_)
  show wpAny _ _ (seqItems? (.ref q) >>= _) _ _ s
  refine wpAny_bind (wpAny_seqItems gq dq ?_)
  simp only [Int.toNat_natCast, no]
  refine wpAny_bind (wpAny_rule (wpAny_bind (wpAny_setField gz dz (by simp) ?_)))
  show wpAny _ _ (newExc (.type "StopIteration") [] >>= _) _ _ _
  refine wpAny_bind ?_
  simp only [newExc, newTuple]
  refine wpAny_bind (wpAny_newObj_type ?_ (by size_fits))
  refine wpAny_bind (m := firstArgMember _ _) (wpAny_of_eq (a := Value.none) (by first | rfl | (simp only [firstArgMember]; rfl)) ?_)
  refine wpAny_newObj_type ?_ (by size_fits)
  have gx1 : (s.heap.update z (Obj.mapFields (·.setIfInBounds 0 Value.none))).get? hx = some ox := (Heap.get?_update_other _ _ hz.symm).trans gx
  refine raiseNew_hot ⟨hh, ox, vx, Heap.get?_push_of_some _ (Heap.get?_push_of_some _ gx1), dx, cx⟩ (Nat.ne_of_lt (Heap.lt_size (Heap.get?_push_of_some _ gx1))) (Heap.get?_push_size _ rfl) rfl (by first | (simp; done) | (simp; omega) | (simp only [Array.size_append]; simp; omega)) ?_
  refine wpAny_bind (wpAny_isInstance (T := "StopIteration") (b := true) ⟨_, Heap.get?_update_self _ (Heap.get?_push_size _ rfl) rfl, rfl⟩ isSubtype_stop (wpAny_pure (hQ _ fun b o hb e => ?_)))
  have e1 : (s.heap.update z (Obj.mapFields (·.setIfInBounds 0 Value.none))).get? b = some o := (Heap.get?_update_other _ _ (Ne.symm hb)).trans e
  rw [Heap.get?_update_other _ _ (Nat.ne_of_gt (Heap.lt_size (Heap.get?_push_of_some _ e1)))]
  exact Heap.get?_push_of_some _ (Heap.get?_push_of_some _ e1)
/-- a tuple is taken apart -/
theorem apart_hot {t hx : Addr} {items : Array Value} {Q : List Value → Shared → Prop} (hot : HotAt A hx s.heap) (ht : IsTup s.heap t items)
    (hQ : ∀ g', Heap.ExtBut s.heap.objs.size s.heap g' → Q items.toList { s with heap := g' }) : wpAny (model prog w) A (unpackItems (.ref t) items.size none) Q E s := by
  have ht0 : t ≠ s.heap.objs.size := by
    obtain ⟨o, ho, _⟩ := ht
    exact Nat.ne_of_lt (Heap.lt_size ho)
  obtain ⟨hh, ox, vx, gx, dx, cx⟩ := hot
  have hx0 : hx ≠ s.heap.objs.size := Nat.ne_of_lt (Heap.lt_size gx)
  unfold unpackItems
  refine wpAny_bind ?_
  unfold notIterableAtAll
  refine wpAny_bind (wpAny_specialOf ht.typeIs slot_tuple_iter.lookup ?_)
  refine wpAny_pure ?_
  simp only [Bool.false_eq_true, if_false]
  refine wpAny_bind (wpAny_holding (iter_tuple ht ?_))
  refine wpAny_bind (wpAny_holding (draw_tuple ht0 items.size 0 _ _ ⟨_, Heap.get?_push_size _ rfl, rfl, rfl⟩ (ht.push _) (by omega) fun g1 st1 sb1 => ?_))
  have all : List.take items.size (List.drop 0 items.toList) = items.toList := by
    rw [List.drop_zero]
    exact List.take_of_length_le (by simp)
  rw [all, if_neg (by simp)]
  have gx1 : g1.get? hx = some ox := (sb1.2 hx hx0).trans (Heap.get?_push_of_some _ gx)
  refine wpAny_bind (wpAny_holding (tuple_end_hot ⟨hh, ox, vx, gx1, dx, cx⟩ hx0 st1 ((ht.push _).extBut sb1.extBut ht0) (by simp) fun g2 e2 => ?_))
  simp only [Option.isSome_none, Bool.false_eq_true, if_false]
  exact wpAny_pure (hQ g2 fun b o hb e => e2 b o hb (sb1.extBut b o hb (Heap.get?_push_of_some _ e)))
end
section
variable {X : Cx} {pins : List (Addr × Obj)} {H : Hp} {s : Shared} {p : Pm} {K : PySem.W.Frag} {W : WX} {os : List Addr} {o : Objs} {σ : L2.St} {ρ : Frm} {ea tg : Expr} {a : IE} {pos : Pos}
/-- (a, b, ..) = a tuple, in an except suite -/
theorem pg_tupH {es : List Expr} {k : Nat} {t : TGs} {n : Nat} (hc : HotC X) (h : PGs X es t) (hn : (assignEach es X.env).length = n) (hst : (assignEach es X.env).findIdx? (·.1) = none) : PG X (.Tuple es k pos) (gTup X.K n t) := by
  constructor
  rintro pins s σ H v u Q I r ⟨a, xs, rfl, hq, hl, hw⟩
  cases r
  obtain ⟨its, rv, ht, _⟩ := I.tuple hq
  obtain ⟨hx, hot⟩ := hc.at I
  rw [assign_Tuple]
  refine wpAny_bind (wpAny_standAt ?_)
  unfold unpack
  have hlen : (assignEach es X.env).length = its.toArray.size := by rw [hn, ← hl, rv.length, List.size_toArray]
  rw [hst, hlen]
  refine wpAny_bind (wpAny_holding (apart_hot hot ht fun g' e' => ?_))
  exact h.run pins { s with heap := g' } σ H xs _ Q (I.kept (t' := s.toks) fun b o e => e' b o (Nat.ne_of_lt (Heap.lt_size e)) e) (by simpa using rv) hw
end
end Ev

set_option maxHeartbeats 2000000
/-! EvIi: a comprehension while an exception is handled: the block and its loop (the library's own one asks for calm; the way follows it). -/
namespace Ev
open PySem PySem.Spec PyProof.Rows L2 HotX L2H

/-! ### what is walked -/
section
variable {X : Cx} {tg : Expr}
theorem turn_listH {P : Program} {w : World} {K : PySem.W.Frag} (a it : Addr) : TurnH P w K tg (Itl K a) [it] it (fun i h => h.IsListIter it a i) where
  mem := List.mem_singleton_self it
  obj := fun i h st b hb => by
    rw [List.mem_singleton.mp hb]
    obtain ⟨o, g, _, d⟩ := st
    exact ⟨o, g, fun v z => by rw [d] at z; cases z⟩
  keep := fun i h h' st k => st.at fun o e => k it (List.mem_singleton_self it) o e
  item := by
    rintro X rfl rfl rfl hc i pins s σ H E I hf st ⟨xs, x, hq, hx⟩
    obtain ⟨ws, rv, pl, _⟩ := I.list hq
    obtain ⟨u, hu, ru⟩ := rv.get hx
    obtain ⟨f0, f1, f2, f3, f4, f5⟩ := hf it (List.mem_singleton_self it)
    refine wpAny_pyNext_list_item st pl.isList (x := u) (by simpa using hu) fun g st2 sb => ⟨u, rfl, ?_⟩
    obtain ⟨o, e, c, d⟩ := id st2
    refine go_of (s := { s with heap := g }) e c d (by decide) ⟨x, H, I.turned (t' := s.toks) (fun b o hb e => (sb.2 b hb).trans e) f0 f1 f3 f4 f5, ru, ⟨rfl, fun ys hy => ?_⟩, st2, fun b hb => (hf b hb).1⟩
    have I1 : Inv X pins σ H { s with heap := g } := I.turned (t' := s.toks) (fun b o hb e => (sb.2 b hb).trans e) f0 f1 f3 f4 f5
    rw [I1.list_inj hy hq]
    exact hx
  done := by
    rintro X rfl rfl rfl hc i pins s σ H E I hf st ⟨xs, hq, hx⟩
    obtain ⟨ws, rv, pl, _⟩ := I.list hq
    obtain ⟨f0, f1, f2, f3, f4, f5⟩ := hf it (List.mem_singleton_self it)
    obtain ⟨p, hp1, hp2⟩ := hc
    obtain ⟨hx1, hot⟩ := HotC.at ⟨p, hp1, hp2⟩ I
    have e1 : hx1 = p.1 := by
      have z := hot.1.symm.trans hp1.1
      exact Value.ref.inj (Option.some.inj z)
    have hl := rv.length
    exact list_end_hot hot (by rw [e1]; exact f5 p (List.mem_append_left _ hp2)) st pl.isList (by simp; omega) fun g eb => ⟨rfl, I.turned (t' := s.toks) (fun b o hb e => eb b o hb e) f0 f1 f3 f4 f5⟩
  self := fun _ _ _ _ _ st h => wpAny_pyIter_listiter st h
theorem turn_tupleH {P : Program} {w : World} {K : PySem.W.Frag} (a it : Addr) : TurnH P w K tg (Itt K a) [it] it (fun i h => h.IsTupleIter it a i) where
  mem := List.mem_singleton_self it
  obj := fun i h st b hb => by
    rw [List.mem_singleton.mp hb]
    obtain ⟨o, g, _, d⟩ := st
    exact ⟨o, g, fun v z => by rw [d] at z; cases z⟩
  keep := fun i h h' st k => st.at fun o e => k it (List.mem_singleton_self it) o e
  item := by
    rintro X rfl rfl rfl hc i pins s σ H E I hf st ⟨xs, x, hq, hx⟩
    obtain ⟨ws, rv, pl, _⟩ := I.tuple hq
    obtain ⟨u, hu, ru⟩ := rv.get hx
    obtain ⟨f0, f1, f2, f3, f4, f5⟩ := hf it (List.mem_singleton_self it)
    refine next_tuple_item st pl (x := u) (by simpa using hu) fun g st2 sb => ⟨u, rfl, ?_⟩
    obtain ⟨o, e, c, d⟩ := id st2
    refine go_of (s := { s with heap := g }) e c d (by decide) ⟨x, H, I.turned (t' := s.toks) (fun b o hb e => (sb.2 b hb).trans e) f0 f1 f3 f4 f5, ru, ⟨rfl, fun ys hy => ?_⟩, st2, fun b hb => (hf b hb).1⟩
    have I1 : Inv X pins σ H { s with heap := g } := I.turned (t' := s.toks) (fun b o hb e => (sb.2 b hb).trans e) f0 f1 f3 f4 f5
    rw [I1.tuple_inj hy hq]
    exact hx
  done := by
    rintro X rfl rfl rfl hc i pins s σ H E I hf st ⟨xs, hq, hx⟩
    obtain ⟨ws, rv, pl, _⟩ := I.tuple hq
    obtain ⟨f0, f1, f2, f3, f4, f5⟩ := hf it (List.mem_singleton_self it)
    obtain ⟨p, hp1, hp2⟩ := hc
    obtain ⟨hx1, hot⟩ := HotC.at ⟨p, hp1, hp2⟩ I
    have e1 : hx1 = p.1 := by
      have z := hot.1.symm.trans hp1.1
      exact Value.ref.inj (Option.some.inj z)
    have hl := rv.length
    exact tuple_end_hot hot (by rw [e1]; exact f5 p (List.mem_append_left _ hp2)) st pl (by simp; omega) fun g eb => ⟨rfl, I.turned (t' := s.toks) (fun b o hb e => eb b o hb e) f0 f1 f3 f4 f5⟩
  self := fun _ _ _ _ _ st h => wpAny_pyIter_tupleiter st h
theorem pi_oneH {pins : List (Addr × Obj)} {σ : L2.St} {H : Hp} {s : Shared} {R : It → Hp → Prop} {J : It} {tn : Nat → Heap → Prop} {tk : Nat} (I : Inv X pins σ H s) (o : Obj)
    (T : TurnH X.prog X.w X.K tg J [s.heap.objs.size] s.heap.objs.size tn) (st : tn 0 (s.heap.push o)) (q : R J H) : PIEH X pins σ tg R (.ref s.heap.objs.size) { s with heap := s.heap.push o, toks := tk } :=
  ⟨_, _, tn, J, H, rfl, I.kept fun b ob e => Heap.get?_push_of_some _ e, T, st, fun b hb => by rw [List.mem_singleton.mp hb]; exact I.fpOk (Nat.le_refl _) (I.hok.fresh (Nat.le_refl _)), q⟩
theorem pi_seqH {l : Expr} {tl : TE} (hl : PE X l tl) : PIH X tg l (fun σ H R => tl σ H fun x H1 => ∃ a xs, x = .ref a ∧ ((SqL X.K H1 a xs ∧ R (Itl X.K a) H1) ∨ (SqT X.K H1 a xs ∧ R (Itt X.K a) H1))) := by
  constructor
  intro pins s σ H R I h
  refine thn (hl.run pins s σ H _ I h) ?_
  rintro v s1 ⟨x, H1, I1, r1, b, xs, rfl, q⟩
  cases r1
  rcases q with ⟨hq, q⟩ | ⟨hq, q⟩
  · obtain ⟨ws, _, pl, _⟩ := I1.list hq
    exact wpAny_pyIter_list pl.isList (pi_oneH (tk := s1.toks) I1 _ (turn_listH b _) ⟨_, Heap.get?_push_size _ rfl, rfl, rfl⟩ q)
  · obtain ⟨ws, _, pl, _⟩ := I1.tuple hq
    exact wpAny_pyIter_tuple (items := ws.toArray) pl (pi_oneH (tk := s1.toks) I1 _ (turn_tupleH b _) ⟨_, Heap.get?_push_size _ rfl, rfl, rfl⟩ q)
theorem pih_imp {e : Expr} {t t' : TI} (h : PIH X tg e t) (m : ∀ σ H Q, t' σ H Q → t σ H Q) : PIH X tg e t' := ⟨fun pins s σ H Q I q => h.run pins s σ H Q I (m σ H Q q)⟩
end

/-! ### the block -/
abbrev blkH (X : Cx) (p : Addr × Obj) (s : Shared) (H : Hp) (scope : Scope) (cenv : Env) (fp : List Addr) : Cx := { X.blk s H scope cenv fp with pn := [p] }
theorem inv_blkH {X : Cx} {p : Addr × Obj} {s s' : Shared} {H H' : Hp} {scope : Scope} {cenv : Env} {fp : List Addr} {σ : L2.St} (I : Inv (X.blk s H scope cenv fp) [] σ H' s')
    (hp : s'.heap.get? p.1 = some p.2 ∧ H' p.1 = none ∧ p.1 ≠ cenv.locals ∧ p.1 ∉ frs X.stack ∧ ∀ v, p.2.data ≠ .cell v) : Inv (blkH X p s H scope cenv fp) [] σ H' s' :=
  ⟨⟨I.ok.mod, I.ok.kind, I.ok.glob, I.ok.blt, I.ok.above, I.ok.inj, I.ok.has, I.ok.cab, I.ok.hd, I.ok.frames, I.ok.stk, I.ok.exf, I.ok.bs, I.ok.bsz, I.ok.noex, I.ok.exfs, I.ok.funs, I.ok.frf⟩, I.os, I.bare, I.base, I.loc, I.cell, I.free, I.freeC,
    fun q hq => by
      have e : q = p := by simpa using hq
      rw [e]
      exact hp, I.hok, I.len⟩
/-- the block's state ahead of a turn -/
structure Ring (Y : Cx) (fp : List Addr) (tn : Nat → Heap → Prop) (τ : L2.St) (i : Nat) (H : Hp) (s : Shared) : Prop where
  inv : Inv Y [] τ H s
  at_ : tn i s.heap
  own : ∀ b ∈ fp, H b = none
/-- one turn -/
theorem ring_turn {Y : Cx} {tg elt : Expr} {ifs : List Expr} {g : TG} {tt : TT} {te : TE} {J : It} {fp : List Addr} {it D : Addr} {tn : Nat → Heap → Prop} {τ : L2.St} {vs : List Nat} {i : Nat} {H : Hp} {s : Shared} {Nx : Hp → Prop} {Fin R : Shared → Prop} {E : Value → Shared → Prop}
    (T : TurnH Y.prog Y.w Y.K tg J fp it tn) (hc : HotC Y) (pg : PG Y tg g) (pt : PTs Y ifs tt) (pe : PE Y elt te) (hxe : ∀ u t, Y.xe u t → False) (hfp : ∀ {H' : Hp} {s' : Shared}, Inv Y [] τ H' s' → (∀ b ∈ fp, H' b = none) → ∀ b ∈ fp, FpOk Y [] H' b)
    (C : Ring Y fp tn τ i H s) (go : J.go i H)
    (step : ∀ x H', J.yld i H x H' → g x τ H' fun σ2 H2 => wipe σ2 vs = τ ∧ tt σ2 H2 fun b H3 => if b = true then te σ2 H3 fun y H4 => ∃ acc, H4 D = some (.lst acc) ∧ acc.length < sizeLine ∧ Nx (upd H4 D (.lst (acc ++ [y]))) else Nx H3)
    (fin : ∀ H' s', Ring Y fp tn τ (i + 1) H' s' → Nx H' → Fin s') :
    wpAny (model Y.prog Y.w) Y.A (pyNext (.ref it)) (fun r s₁ => match r with
      | none => R s₁
      | some v => wpAny (model Y.prog Y.w) Y.A (letOwnedTupleGo tg (.ref it) v) (fun _ t₁ => wpAny (model Y.prog Y.w) Y.A (assign tg Y.env v) (fun _ t₂ =>
          wpAny (model Y.prog Y.w) Y.A (forIn ifs true fun c r => if r = true then do let ok ← isTrue c Y.env (eval c Y.env); pure (ForInStep.yield ok) else pure (ForInStep.yield r)) (fun ok t₃ =>
            if ok = true then wpAny (model Y.prog Y.w) Y.A (eval elt Y.env) (fun x t₄ => wpAny (model Y.prog Y.w) Y.A (call (.builtin "list.append") [.ref D, x]) (fun _ t₅ => Fin t₅) E t₄) E t₃ else Fin t₃) E t₂) E t₁) E s₁) E s := by
  have un : ∀ {α : Type} {m : Sem α} {Q Q' : α → Shared → Prop} {t : Shared}, wpAny (model Y.prog Y.w) Y.A m Q Y.xe t → (∀ a t', Q a t' → Q' a t') → wpAny (model Y.prog Y.w) Y.A m Q' E t := fun {α m Q Q' t} h k => wpAny_mono h k fun u t' z => (hxe u t' z).elim
  refine thnF (T.item Y rfl rfl rfl hc i [] s τ H (fun _ _ => False) C.inv (hfp C.inv C.own) C.at_ go) ?_
  rintro r t1 ⟨u, rfl, q1⟩
  refine thnF q1 ?_
  rintro _ t2 ⟨x, H2, I2, r2, y2, a2, o2⟩
  refine un (pg.run _ t2 τ H2 x u _ (I2.pinned (hfp I2 o2) (T.obj _ _ a2)) r2 (step x H2 y2)) ?_
  rintro _ t3 ⟨σ3, H3, I3, hw3, q3⟩
  have close : ∀ {t : Shared} {Ht : Hp}, Inv Y ([] ++ pinsAt fp t2.heap) σ3 Ht t → Nx Ht → Fin t := fun {t Ht} It nx => by
    have pn : ∀ b ∈ fp, ∀ o, t2.heap.get? b = some o → t.heap.get? b = some o ∧ Ht b = none := fun b hb o e =>
      let z := It.pin (b, o) (List.mem_append_right _ (List.mem_append_right _ (mem_pinsAt hb e)))
      ⟨z.1, z.2.1⟩
    refine fin Ht t ⟨(It.unpinned (pins := [])).weak (by rw [← hw3, wipe_length]) fun j v e => ?_, T.keep _ _ _ a2 fun b hb o e => (pn b hb o e).1, fun b hb => ?_⟩ nx
    · rw [← hw3] at e
      exact (wipe_some e).1
    · obtain ⟨o, e, _⟩ := T.obj _ _ a2 b hb
      exact (pn b hb o e).2
  refine un (pt.run _ t3 σ3 H3 _ I3 q3) ?_
  rintro b t4 ⟨H4, I4, q4⟩
  cases b with
  | false =>
    rw [if_neg Bool.false_ne_true] at q4 ⊢
    exact close I4 q4
  | true =>
    rw [if_pos rfl] at q4 ⊢
    refine un (pe.run _ t4 σ3 H4 _ I4 q4) ?_
    rintro v t5 ⟨y, H5, I5, r5, acc, h5, z5, nx⟩
    exact app_ok (X := Y) I5 h5 z5 r5 fun t6 I6 => close I6 nx
section
variable {X : Cx} {pins : List (Addr × Obj)} {σ : L2.St} {H : Hp} {s : Shared} {p : Addr × Obj} {elt tg iter : Expr} {ifs : List Expr} {scope : Scope} {own : List (Str × Nat)} {wi : TI} {g : TG} {tt : TT} {te : TE}
/-- what the parts of a comprehension keep in its block -/
structure BlkParts (X : Cx) (p : Addr × Obj) (elt tg : Expr) (ifs : List Expr) (scope : Scope) (g : TG) (tt : TT) (te : TE) : Prop where
  tg : ∀ (s : Shared) (H : Hp) (C : Addr) (cl : List (Str × Addr)) (fp : List Addr), PG (blkH X p s H scope (compEnvC scope cl C X.env) fp) tg g
  ifs : ∀ (s : Shared) (H : Hp) (C : Addr) (cl : List (Str × Addr)) (fp : List Addr), PTs (blkH X p s H scope (compEnvC scope cl C X.env) fp) ifs tt
  elt : ∀ (s : Shared) (H : Hp) (C : Addr) (cl : List (Str × Addr)) (fp : List Addr), PE (blkH X p s H scope (compEnvC scope cl C X.env) fp) elt te
theorem lc_hot {Q : VK} {pos pos' : Pos} {use : Option (Value → Sem Unit)} {Qf : Value → Shared → Prop} (h1 : Hot1 X.A p) (h2 : p ∈ X.pn) (hN : X.N.Nodup) (I : Inv X pins σ H s) (hi : PIH X tg iter wi) (ok : BlkOk X.N X.env.scope scope own) (B : BlkParts X p elt tg ifs scope g tt te)
    (hs : ∀ x, foldedSetIterable iter X.env x = pure x) (h : tLc wi g tt te (own.map (·.2)) σ H Q)
    (back : ∀ D C s' m H', Inv X pins σ H' s' → Q (.ref D) H' → s'.heap.Ns C m → FpOk X pins H' C → compPost (model X.prog X.w) X.A X.xe use Qf (.ref D) C (.ok .next) s') :
    wpAny (model X.prog X.w) X.A (comprehension (.ListComp elt [⟨tg, iter, ifs, 0⟩] scope pos) scope X.env pos' (newList []) false (eval iter X.env) use) Qf X.xe s := by
  refine wpAny_comprehension_free (use := use) rfl hs (closure_ok fun y hy e => (ok.free y hy e).elim (fun k => I.ok.has _ (.inl k)) fun k => I.ok.has _ (.inr k)) ok.kind (fun y hy e => by rw [ok.uniq y hy, e]) ?_
  refine thn (hi.run pins s σ H _ I h) fun xv sA hA => thn hA ?_
  rintro _ sB ⟨it, fp, tn, J, HB, rfl, IB, T, stB, fB, q⟩
  refine wpAny_newObj_type (newEnv_comp ?_) (Nat.zero_le sizeLine)
  have hD0 : HB sB.heap.objs.size = none := IB.hok.fresh (Nat.le_refl _)
  obtain ⟨W, ⟨m0, w0⟩, turn⟩ := q sB.heap.objs.size hD0
  generalize eC : ({ sB with heap := sB.heap.push { cls := .type "list", data := .seq ([] : List Value).toArray } } : Shared) = sC
  have hC : sC.heap = sB.heap.push { cls := .type "list", data := .seq ([] : List Value).toArray } := by rw [← eC]
  generalize eD : sB.heap.objs.size = D at *
  have IC : Inv X pins σ (upd HB D (.lst [])) sC := by
    subst eC
    refine IB.laid (t' := sB.toks) (fun b o e => Heap.get?_push_of_some _ e) (Nat.le_of_eq eD) ⟨Nat.zero_le _, [], 0, .nil, ?_⟩
    subst eD
    exact Heap.get?_push_size _ rfl
  have fC : ∀ b ∈ fp, FpOk X pins (upd HB D (.lst [])) b ∧ b < sC.heap.objs.size := fun b hb => by
    obtain ⟨o, e, _⟩ := T.obj _ _ stB b hb
    have lt : b < D := by
      rw [← eD]
      exact Heap.lt_size e
    refine ⟨⟨?_, (fB b hb).2⟩, ?_⟩
    · rw [upd_ne (Nat.ne_of_lt lt)]
      exact (fB b hb).1
    · rw [hC, Heap.size_push, eD]
      exact Nat.lt_succ_of_lt lt
  generalize hHC : upd HB D (.lst []) = HC at IC fC w0
  generalize hn : sC.heap.objs.size = C at *
  have I4 := block_start IC ok hN (fun b hb => by rw [hn]; exact fC b hb)
  rw [hn] at I4
  have keep4 : ∀ b o, sB.heap.get? b = some o → (pushCells (sC.heap.push { cls := .type "dict", data := .dict #[] }) scope.names).get? b = some o := fun b o e => pushCells_keeps _ _ _ _ (Heap.get?_push_of_some _ (by rw [hC]; exact Heap.get?_push_of_some _ e))
  have keepC : ∀ b o, sC.heap.get? b = some o → (pushCells (sC.heap.push { cls := .type "dict", data := .dict #[] }) scope.names).get? b = some o := fun b o e => pushCells_keeps _ _ _ _ (Heap.get?_push_of_some _ e)
  have pg := B.tg sC HC C (cellsFrom (C + 1) scope.names (cloFrom X.env.cells scope.names [])) fp
  have pt := B.ifs sC HC C (cellsFrom (C + 1) scope.names (cloFrom X.env.cells scope.names [])) fp
  have pe := B.elt sC HC C (cellsFrom (C + 1) scope.names (cloFrom X.env.cells scope.names [])) fp
  have start : Inv (blkH X p sC HC scope (compEnvC scope (cellsFrom (C + 1) scope.names (cloFrom X.env.cells scope.names [])) C X.env) fp) [] (wipe σ (own.map (·.2))) HC { sC with heap := pushCells (sC.heap.push { cls := .type "dict", data := .dict #[] }) scope.names } := by
    obtain ⟨p1, p2, p3, p4, p5⟩ := IC.pin p (List.mem_append_left _ h2)
    refine inv_blkH I4 ⟨keepC _ _ p1, p2, ?_, fun z => ?_, p5⟩
    · show p.1 ≠ C
      rw [← hn]
      exact Nat.ne_of_lt (Heap.lt_size p1)
    · rcases List.mem_cons.mp (IC.stkSub _ z) with z | z
      · exact p3 z
      · exact p4 z
  show codeAny _ _ (.compStart (.ListComp elt [⟨tg, iter, ifs, 0⟩] scope pos) 0 (.ref it) (.ref D) (compEnvC scope (cellsFrom (C + 1) scope.names (cloFrom X.env.cells scope.names [])) C X.env)) (compPost (model X.prog X.w) X.A X.xe use Qf (.ref D) C) { sC with heap := pushCells (sC.heap.push { cls := .type "dict", data := .dict #[] }) scope.names }
  generalize hce : compEnvC scope (cellsFrom (C + 1) scope.names (cloFrom X.env.cells scope.names [])) C X.env = ev at *
  have eL : ev.locals = C := by
    subst hce
    rfl
  have hotY : HotC (blkH X p sC HC scope ev fp) := ⟨p, h1, List.mem_singleton_self p⟩
  have hfp : ∀ {τ : L2.St} {H' : Hp} {s' : Shared}, Inv (blkH X p sC HC scope ev fp) [] τ H' s' → (∀ b ∈ fp, H' b = none) → ∀ b ∈ fp, FpOk (blkH X p sC HC scope ev fp) [] H' b := fun {τ H' s'} IY no b hb =>
    ⟨no b hb, (IY.ok.exf b hb).1, IY.ok.exfs b hb, .inl hb, (IY.ok.exf b hb).2, fun q hq => by
      have e : q = p := by simpa using hq
      rw [e]
      exact (fC b hb).1.2.2.2.2.2 p (List.mem_append_left _ h2)⟩
  have w1 : tn 0 (pushCells (sC.heap.push { cls := .type "dict", data := .dict #[] }) scope.names) := T.keep _ _ _ stB fun b _ o e => keep4 b o e
  have loop : codeAny (model X.prog X.w) X.A (.compLoop (.ListComp elt [⟨tg, iter, ifs, 0⟩] scope pos) 0 (.ref it) (.ref D) ev) (compPost (model X.prog X.w) X.A X.xe use Qf (.ref D) C) { sC with heap := pushCells (sC.heap.push { cls := .type "dict", data := .dict #[] }) scope.names } := by
    refine compLoop_any (fun n t => ∃ i Ht, Ring (blkH X p sC HC scope ev fp) fp tn (wipe σ (own.map (·.2))) i Ht t ∧ W i n Ht) ?_ m0 ⟨0, HC, ⟨start, w1, fun b hb => (fC b hb).1.1⟩, w0⟩
    rintro n t ⟨i, Ht, R, wt⟩
    rcases turn i n Ht wt with ⟨stop, qq⟩ | ⟨go, Nx, hNx, step⟩
    · refine thnF (T.done (blkH X p sC HC scope ev fp) rfl rfl rfl hotY i [] t _ Ht (fun _ _ => False) R.inv (hfp R.inv R.own) R.at_ stop) ?_
      rintro _ t1 ⟨rfl, I1⟩
      obtain ⟨m, hm, _⟩ := I1.loc
      have nC : Ht C = none := by
        rw [← eL]
        exact I1.free
      refine back D C t1 m Ht (IC.call' (ch := fp) I1.os I1.base I1.hok I1.bare fun b hb => ⟨(fC b hb).1.2.2.2.1, (fC b hb).1.2.1, (fC b hb).1.2.2.2.2.1, (fC b hb).1.2.2.2.2.2⟩) qq ?_ (IC.fpOk (Nat.le_of_eq hn) nC)
      rw [← eL]
      exact hm
    · exact ring_turn (Y := blkH X p sC HC scope ev fp) T hotY pg pt pe (fun _ _ z => z) hfp R go step fun H' s' R' nx => by
        obtain ⟨m', lt, w'⟩ := hNx H' nx
        exact ⟨m', lt, i + 1, H', R', w'⟩
  exact codeAny_compStart_list loop (T.self X.A 0 _ _ _ w1 loop)
theorem pe_lcH {pos : Pos} (h1 : Hot1 X.A p) (h2 : p ∈ X.pn) (hN : X.N.Nodup) (hi : PIH X tg iter wi) (ok : BlkOk X.N X.env.scope scope own) (B : BlkParts X p elt tg ifs scope g tt te) (hs : ∀ x, foldedSetIterable iter X.env x = pure x) :
    PE X (.ListComp elt [⟨tg, iter, ifs, 0⟩] scope pos) (tLc wi g tt te (own.map (·.2))) := by
  constructor
  intro pins s σ H Q I h
  rw [eval_ListComp]
  refine lc_hot h1 h2 hN I hi ok B hs h fun D C s' m H' I' q hn ⟨f0, f1, f2, f3, f4, f5⟩ => ⟨m, hn, fun g' sb => ⟨.ref D, H', I'.turned (t' := s'.toks) (fun b o hb e => ?_) f0 f1 f3 f4 f5, rfl, q⟩⟩
  rw [sb.2 b hb]
  exact e
theorem ps_setLcH {i : Nat} {y : Str} {py pos spos : Pos} (h1 : Hot1 X.A p) (h2 : p ∈ X.pn) (hN : X.N.Nodup) (hy : X.N[i]? = some y) (hyl : X.env.scope.names.lookup y = some .local)
    (hsw : swapsWith (.ListComp elt [⟨tg, iter, ifs, 0⟩] scope pos) (some (.Name y py)) spos.line X.env = pure true) (hi : PIH X tg iter wi) (ok : BlkOk X.N X.env.scope scope own) (B : BlkParts X p elt tg ifs scope g tt te) (hs : ∀ x, foldedSetIterable iter X.env x = pure x) :
    PS X (.Assign [.Name y py] (.ListComp elt [⟨tg, iter, ifs, 0⟩] scope pos) spos) (tAsg (tLc wi g tt te (own.map (·.2))) (gName i)) := by
  constructor
  intro pins s σ H Dn I h
  rw [exec_Assign_Name_used _ _ _ _ hsw]
  refine wpAny_bind (wpAny_standAt (wpAny_bind ?_))
  show wpAny _ X.A (do let _ ← comprehension (.ListComp elt [⟨tg, iter, ifs, 0⟩] scope pos) scope X.env (firstIterPos [⟨tg, iter, ifs, 0⟩] pos) (newList []) false (eval iter X.env) (some (assign (.Name y py) X.env))) _ _ s
  have h : tLc wi g tt te (own.map (·.2)) σ H (fun x Hx => gName i x σ Hx Dn.nx) := h
  refine wpAny_bind (thn (lc_hot (Qf := fun _ t => SP X pins Dn .next t) h1 h2 hN I hi ok B hs h fun L C t m Ht It q hn ⟨f0, f1, f2, f3, f4, f5⟩ => ?_) fun _ t hq => wpAny_pure (wpAny_pure hq))
  refine wpAny_assign_Name (store_ok2 (v := V.ref L) It hN hy (.inl hyl) rfl (fun t2 I2 ⟨a, sb, ha⟩ => ⟨m, hn.sameBut sb ?_, fun t3 sb3 => ⟨_, Ht, I2.turned (t' := t2.toks) (fun b o hb e => (sb3.2 b hb).trans e) f0 f1 f3 f4 f5, q⟩⟩) (.inr hyl))
  rcases ha with z | z
  · rw [z]
    exact f1
  · exact fun e => f4 y a z e.symm
end
section
variable {X : Cx} {p : Pm} {K : PySem.W.Frag} {W : WX} {ea tg : Expr} {a : IE}
theorem gs_seqH {m : Bool} (h : PE X ea (tX m p X.K W a)) : PIH X tg ea (tS m p X.K W (.seq a)) := pih_imp (pi_seqH h) fun σ H R ⟨ρ, os, o, A, h⟩ => tX_of A h fun x o1 os1 H1 vx P1 A1 r1 h1 => by
  cases x with
  | tup ds =>
    obtain ⟨q, xs, rfl, z1, z2⟩ := RepM.tup r1
    exact ⟨q, xs, rfl, .inr ⟨z1, h1.ok A1.obs _ (yl_tup A1.obs z2 z1)⟩⟩
  | lst ds =>
    obtain ⟨q, xs, rfl, z1, z2, z3⟩ := RepM.sq (T := p.T) r1 A1.obs
    exact ⟨q, xs, rfl, .inl ⟨z1, h1.ok A1.obs _ (yl_list A1.obs z2 z3)⟩⟩
  | kt ds =>
    obtain ⟨q, xs, rfl, z1, z2⟩ := RepM.kt r1
    exact ⟨q, xs, rfl, .inr ⟨z1, h1.ok A1.obs _ (yl_tup A1.obs z2 z1)⟩⟩
  | _ => exact h1.elim
end
end Ev

set_option maxHeartbeats 2000000
/-! EvJ: the context's facts; targets; the comprehension. -/
namespace Ev
open PySem PySem.Spec PyProof.Rows L2

/-- the context X is of the scope Γ -/
structure Fits (X : Cx) (Γ : Scp) : Prop where
  N : X.N = Γ.N
  nd : Γ.N.Nodup
  kind : Γ.sc.kind = .function
  sc : X.env.scope = Γ.sc
  un : X.A.units + 64 < cLine
  calm : Γ.hot = false → X.calm = true
  hotc : Γ.hot = true → L2H.HotC X
  blt : ∀ x ∈ builtins, X.mg x = none
/-- what the context may store -/
def Sto (X : Cx) (Γ : Scp) (i : Nat) : Prop := ∀ x, Γ.N[i]? = some x → isLoc Γ.sc x = true → X.fn x = true ∨ X.env.scope.names.lookup x = some .local
section
variable {X : Cx} {p : Pm} {K : PySem.W.Frag} {W : WX} {Γ : Scp} {os : List Addr} {H : Hp} {o : Objs} {σ : L2.St} {ρ : Frm} {x : Str} {i : Nat}
theorem findIdx_get {α : Type} {f : α → Bool} : ∀ {l : List α} {i : Nat}, l.findIdx? f = some i → ∃ a, l[i]? = some a ∧ f a = true
  | a :: l, i, h => by
    rw [List.findIdx?_cons] at h
    cases hf : f a with
    | true =>
      rw [hf] at h
      cases h
      exact ⟨a, rfl, hf⟩
    | false =>
      rw [hf] at h
      simp only [Bool.false_eq_true, if_false] at h
      obtain ⟨j, e, rfl⟩ := Option.map_eq_some_iff.mp h
      obtain ⟨b, e1, e2⟩ := findIdx_get e
      exact ⟨b, by simpa using e1, e2⟩
theorem ixOf_some {N : List Str} (h : ixOf N x = some i) : N[i]? = some x := by
  obtain ⟨a, e1, e2⟩ := findIdx_get h
  rw [e1, of_decide_eq_true e2]
theorem isVis_vis {sc : Scope} (h : isVis sc x = true) : Vis sc x := by
  unfold isVis at h
  split at h
  · exact .inl (by assumption)
  · exact .inr (.inl (by assumption))
  · exact .inr (.inr (by assumption))
  · cases h
theorem isLoc_loc {sc : Scope} (h : isLoc sc x = true) : Loc sc x := by
  unfold isLoc at h
  split at h
  · exact .inl (by assumption)
  · exact .inr (by assumption)
  · cases h
theorem okName_d (h : okName x = true) : (x == ("__debug__" : Str)) = false ∧ (x == ("__classdict__" : Str)) = false ∧ x ≠ "__name__" := by
  unfold okName at h
  simp only [Bool.and_eq_true, Bool.not_eq_true'] at h
  exact ⟨h.1.1, h.1.2, fun e => by rw [e] at h; exact absurd h.2 (by decide)⟩
theorem cSlot_some (h : cSlot Γ x = some i) : Γ.N[i]? = some x ∧ Vis Γ.sc x ∧ okName x = true := by
  unfold cSlot at h
  split at h
  · rename_i q
    rw [Bool.and_eq_true] at q
    exact ⟨ixOf_some h, isVis_vis q.1, q.2⟩
  · cases h
theorem cStore_some (h : cStore Γ x = some i) : Γ.N[i]? = some x ∧ isLoc Γ.sc x = true ∧ okName x = true := by
  unfold cStore at h
  split at h
  · rename_i q
    rw [Bool.and_eq_true] at q
    exact ⟨ixOf_some h, q.1, q.2⟩
  · cases h
theorem isGl_gl (F : Fits X Γ) (h : isGl Γ.sc x = true) : Gl X x := by
  have e : Γ.sc.names.lookup x = some .globalImplicit := of_decide_eq_true h
  show X.env.scope.names.lookup x = some .globalImplicit
  rw [F.sc]; exact e

/-! ### targets -/
def gTg (p : Pm) (K : PySem.W.Frag) (t : Tg) : TG := fun v σ H Q => ∃ ρ os o d ρ', At p K os H σ ρ o ∧ Rep K os H d v ∧ bindT t d ρ = some ρ' ∧ ∀ σ', At p K os H σ' ρ' o → (∀ i, i ∉ tgS t → σ'[i]? = σ[i]?) → Q σ' H
def gTgs (p : Pm) (K : PySem.W.Frag) (ts : List Tg) : TGs := fun vs σ H Q => ∃ ρ os o ds ρ', At p K os H σ ρ o ∧ Reps K os H ds vs ∧ bindTs ts ds ρ = some ρ' ∧ ∀ σ', At p K os H σ' ρ' o → (∀ i, i ∉ tgSs ts → σ'[i]? = σ[i]?) → Q σ' H
theorem pg_imp {e : Expr} {t t' : TG} (h : PG X e t) (m : ∀ v σ H Q, t' v σ H Q → t v σ H Q) : PG X e t' := ⟨fun pins s σ H v u Q I r q => h.run pins s σ H v u Q I r (m v σ H Q q)⟩
theorem pgs_imp {e : List Expr} {t t' : TGs} (h : PGs X e t) (m : ∀ v σ H Q, t' v σ H Q → t v σ H Q) : PGs X e t' := ⟨fun pins s σ H v u Q I r q => h.run pins s σ H v u Q I r (m v σ H Q q)⟩
theorem At.set {d : D} {v : V} (A : At p K os H σ ρ o) (h : Rep K os H d v) (i : Nat) : At p K os H (σ.set i (some v)) (ρ.set i (.val d)) o := ⟨A.env.set h, A.obs, A.tab⟩
theorem assignEach_ne {e : Expr} {es : List Expr} (env : Env) (h : ∀ x y, e ≠ .Starred x y) : assignEach (e :: es) env = (false, assign e env) :: assignEach es env := by
  cases e <;> first
    | exact absurd rfl (h _ _)
    | rfl
theorem cTg_ns {n : Nat} {e : Expr} {t : Tg} (h : cTg Γ n e = some t) : ∀ x y, e ≠ .Starred x y := fun x y z => by
  subst z
  cases n <;> (unfold cTg at h; cases h)
theorem bindTs_len : ∀ {ts : List Tg} {ds : List D} {ρ ρ' : Frm}, bindTs ts ds ρ = some ρ' → ts.length = ds.length
  | [], [], _, _, _ => rfl
  | t :: ts, d :: ds, ρ, ρ', h => by
    unfold bindTs at h
    split at h
    · rw [List.length_cons, List.length_cons, bindTs_len h]
    · cases h
  | [], _ :: _, _, _, h => by unfold bindTs at h; cases h
  | _ :: _, [], _, _, h => by unfold bindTs at h; cases h
theorem pgs_cons' {e : Expr} {es : List Expr} {t : TG} {u : TGs} (h1 : PG X e t) (h2 : PGs X es u) (hn : ∀ x y, e ≠ .Starred x y) : PGs X (e :: es) (gCons t u) :=
  pgs_cons h1 h2 (by rw [assignEach_ne X.env hn]; rfl)
theorem tg_len : ∀ {n : Nat} {es : List Expr} {ts : List Tg}, cTgs Γ n es = some ts → (assignEach es X.env).length = ts.length ∧ (assignEach es X.env).findIdx? (·.1) = none
  | 0, _, _, h => by unfold cTgs at h; cases h
  | n + 1, [], ts, h => by
    unfold cTgs at h
    cases h
    exact ⟨rfl, rfl⟩
  | n + 1, e :: es, ts, h => by
    unfold cTgs at h
    split at h
    · rename_i a as h1 h2
      cases h
      obtain ⟨e1, e2⟩ := tg_len h2
      rw [assignEach_ne X.env (cTg_ns h1)]
      refine ⟨by rw [List.length_cons, List.length_cons, e1], ?_⟩
      rw [List.findIdx?_cons]
      simp only [Bool.false_eq_true, if_false, e2]
      rfl
    · cases h
mutual
theorem tg_ok (F : Fits X Γ) (hc : X.calm = true ∨ L2H.HotC X) : ∀ (n : Nat) (e : Expr) (t : Tg), cTg Γ n e = some t → (∀ i ∈ tgS t, Sto X Γ i) → PG X e (gTg p X.K t)
  | 0, _, _, h, _ => by unfold cTg at h; cases h
  | n + 1, .Name x pos, t, h, hs => by
    unfold cTg at h
    obtain ⟨i, e, rfl⟩ := Option.map_eq_some_iff.mp h
    obtain ⟨h1, h2, h3⟩ := cStore_some e
    have hl : Loc X.env.scope x := by rw [F.sc]; exact isLoc_loc h2
    refine pg_imp (pg_name (i := i) (by rw [F.N]; exact F.nd) (by rw [F.N]; exact h1) hl (hs i (by unfold tgS; simp) x h1 h2)) fun v σ H Q ⟨ρ, os, o, d, ρ', A, r, e, q⟩ => ?_
    unfold bindT at e
    cases e
    exact q _ (A.set r i) fun j hj => List.getElem?_set_ne (by unfold tgS at hj; simp at hj; exact fun z => hj z.symm)
  | n + 1, .Tuple es k pos, t, h, hs => by
    unfold cTg at h
    obtain ⟨ts, e, rfl⟩ := Option.map_eq_some_iff.mp h
    obtain ⟨e1, e2⟩ := tg_len (X := X) e
    have hpt : PG X (.Tuple es k pos) (gTup X.K ts.length (gTgs p X.K ts)) := hc.elim (fun c => pg_tup (n := ts.length) c (tgs_ok F hc n es ts e (fun i hi => hs i (by unfold tgS; exact hi))) e1 e2) fun c => pg_tupH (n := ts.length) c (tgs_ok F hc n es ts e (fun i hi => hs i (by unfold tgS; exact hi))) e1 e2
    refine pg_imp hpt fun v σ H Q ⟨ρ, os, o, d, ρ', A, r, e, q⟩ => ?_
    cases d with
    | tup ds =>
      unfold bindT at e
      obtain ⟨a, xs, rfl, h1, h2⟩ := r.tup
      refine ⟨a, xs, rfl, h1, by rw [h2.length, bindTs_len e], ρ, os, o, ds, ρ', A, h2, e, fun σ' A' ag => q σ' A' fun i hi => ag i (by unfold tgS at hi; exact hi)⟩
    | _ => unfold bindT at e; cases e
  | n + 1, .Constant .., _, h, _ => by unfold cTg at h; cases h
  | n + 1, .BoolOp .., _, h, _ => by unfold cTg at h; cases h
  | n + 1, .NamedExpr .., _, h, _ => by unfold cTg at h; cases h
  | n + 1, .BinOp .., _, h, _ => by unfold cTg at h; cases h
  | n + 1, .UnaryOp .., _, h, _ => by unfold cTg at h; cases h
  | n + 1, .Lambda .., _, h, _ => by unfold cTg at h; cases h
  | n + 1, .IfExp .., _, h, _ => by unfold cTg at h; cases h
  | n + 1, .Dict .., _, h, _ => by unfold cTg at h; cases h
  | n + 1, .Set .., _, h, _ => by unfold cTg at h; cases h
  | n + 1, .ListComp .., _, h, _ => by unfold cTg at h; cases h
  | n + 1, .SetComp .., _, h, _ => by unfold cTg at h; cases h
  | n + 1, .DictComp .., _, h, _ => by unfold cTg at h; cases h
  | n + 1, .GeneratorExp .., _, h, _ => by unfold cTg at h; cases h
  | n + 1, .Await .., _, h, _ => by unfold cTg at h; cases h
  | n + 1, .Yield .., _, h, _ => by unfold cTg at h; cases h
  | n + 1, .YieldFrom .., _, h, _ => by unfold cTg at h; cases h
  | n + 1, .Compare .., _, h, _ => by unfold cTg at h; cases h
  | n + 1, .Call .., _, h, _ => by unfold cTg at h; cases h
  | n + 1, .FormattedValue .., _, h, _ => by unfold cTg at h; cases h
  | n + 1, .JoinedStr .., _, h, _ => by unfold cTg at h; cases h
  | n + 1, .Attribute .., _, h, _ => by unfold cTg at h; cases h
  | n + 1, .Subscript .., _, h, _ => by unfold cTg at h; cases h
  | n + 1, .Starred .., _, h, _ => by unfold cTg at h; cases h
  | n + 1, .List .., _, h, _ => by unfold cTg at h; cases h
  | n + 1, .Slice .., _, h, _ => by unfold cTg at h; cases h
theorem tgs_ok (F : Fits X Γ) (hc : X.calm = true ∨ L2H.HotC X) : ∀ (n : Nat) (es : List Expr) (ts : List Tg), cTgs Γ n es = some ts → (∀ i ∈ tgSs ts, Sto X Γ i) → PGs X es (gTgs p X.K ts)
  | 0, _, _, h, _ => by unfold cTgs at h; cases h
  | n + 1, [], ts, h, _ => by
    unfold cTgs at h
    cases h
    refine pgs_imp pgs_nil fun vs σ H Q ⟨ρ, os, o, ds, ρ', A, r, e, q⟩ => ?_
    cases ds with
    | nil =>
      unfold bindTs at e
      cases e
      exact ⟨r.inv0, q σ A fun _ _ => rfl⟩
    | cons d ds => unfold bindTs at e; cases e
  | n + 1, e :: es, ts, h, hs => by
    unfold cTgs at h
    split at h
    · rename_i t ts' h1 h2
      cases h
      have m1 : ∀ i ∈ tgS t, Sto X Γ i := fun i hi => hs i (by unfold tgSs; exact List.mem_append_left _ hi)
      have m2 : ∀ i ∈ tgSs ts', Sto X Γ i := fun i hi => hs i (by unfold tgSs; exact List.mem_append_right _ hi)
      refine pgs_imp (pgs_cons' (tg_ok F hc n e t h1 m1) (tgs_ok F hc n es ts' h2 m2) (cTg_ns h1)) fun vs σ H Q ⟨ρ, os, o, ds, ρ', A, r, e, q⟩ => ?_
      cases ds with
      | nil => unfold bindTs at e; cases e
      | cons d ds =>
        unfold bindTs at e
        split at e
        · rename_i ρ1 e1
          obtain ⟨v, vs', rfl, r1, r2⟩ := r.inv
          refine ⟨v, vs', rfl, ρ, os, o, d, ρ1, A, r1, e1, fun σ1 A1 g1 => ⟨ρ1, os, o, ds, ρ', A1, r2, e, fun σ2 A2 g2 => q σ2 A2 fun i hi => ?_⟩⟩
          unfold tgSs at hi
          simp only [List.mem_append, not_or] at hi
          rw [g2 i hi.2, g1 i hi.1]
        · cases e
    · cases h
end
/-! ### the block -/
mutual
theorem bindT_len : ∀ {t : Tg} {d : D} {ρ ρ' : Frm}, bindT t d ρ = some ρ' → ρ'.length = ρ.length
  | .name i, d, ρ, ρ', h => by
    unfold bindT at h
    cases h
    exact List.length_set
  | .tup ts, d, ρ, ρ', h => by
    cases d with
    | tup ds => unfold bindT at h; exact bindTs_length h
    | _ => unfold bindT at h; cases h
theorem bindTs_length : ∀ {ts : List Tg} {ds : List D} {ρ ρ' : Frm}, bindTs ts ds ρ = some ρ' → ρ'.length = ρ.length
  | [], [], _, _, h => by unfold bindTs at h; cases h; rfl
  | t :: ts, d :: ds, ρ, ρ', h => by
    unfold bindTs at h
    split at h
    · rename_i ρ1 e1
      rw [bindTs_length h, bindT_len e1]
    · cases h
  | [], _ :: _, _, _, h => by unfold bindTs at h; cases h
  | _ :: _, [], _, _, h => by unfold bindTs at h; cases h
end
theorem wipe_in {σ : L2.St} {i : Nat} : ∀ {vs : List Nat}, i ∈ vs → (wipe σ vs)[i]? = if i < σ.length then some none else none
  | v :: vs, h => by
    show ((wipe σ vs).set v none)[i]? = _
    by_cases hv : v = i
    · subst hv
      by_cases hl : v < σ.length
      · rw [if_pos hl, List.getElem?_set_self (by rw [wipe_length]; exact hl)]
      · rw [if_neg hl]
        exact List.getElem?_eq_none (by rw [List.length_set, wipe_length]; omega)
    · rw [List.getElem?_set_ne hv]
      rcases List.mem_cons.mp h with q | q
      · exact absurd q.symm hv
      · exact wipe_in q
theorem wipe_eq {σ σ' : L2.St} {vs : List Nat} (hl : σ'.length = σ.length) (h : ∀ i, i ∉ vs → σ'[i]? = σ[i]?) : wipe σ' vs = wipe σ vs := by
  apply List.ext_getElem?
  intro i
  by_cases hi : i ∈ vs
  · rw [wipe_in hi, wipe_in hi, hl]
  · rw [L2.wipe_out hi, L2.wipe_out hi, h i hi]
theorem wipe_wipe {σ : L2.St} {vs : List Nat} : wipe (wipe σ vs) vs = wipe σ vs := wipe_eq (wipe_length _ _) fun i hi => L2.wipe_out hi
end
end Ev

set_option maxHeartbeats 2000000
/-! EvK: the comprehension. -/
namespace Ev
open PySem PySem.Spec PyProof.Rows L2

/-- the heap without D -/
def del (H : Hp) (D : Addr) : Hp := fun b => if b = D then none else H b
theorem del_same {H : Hp} {D : Addr} : del H D D = none := by unfold del; rw [if_pos rfl]
theorem del_ne {H : Hp} {D b : Addr} (h : b ≠ D) : del H D b = H b := by unfold del; rw [if_neg h]
theorem del_upd {H : Hp} {D : Addr} {o : HO} : del (upd H D o) D = del H D := by
  funext b
  by_cases h : b = D
  · subst h; rw [del_same, del_same]
  · rw [del_ne h, del_ne h, upd_ne h]
theorem upd_del {H : Hp} {D : Addr} {o : HO} (h : H D = some o) : upd (del H D) D o = H := by
  funext b
  by_cases hb : b = D
  · subst hb; rw [upd_same, h]
  · rw [upd_ne hb, del_ne hb]
section
variable {p : Pm} {K : PySem.W.Frag} {W : WX} {T : Tbs} {os os1 os2 : List Addr} {H H1 H2 H' : Hp} {o o1 o2 : Objs} {σ : L2.St} {ρ : Frm} {dd : Addr} {acc : List V} {α β γ : Type}
/-- all but lists, dicts stays -/
def Stay (H H' : Hp) : Prop := ∀ b u, H b = some u → isMu u = false → H' b = some u
theorem SqT.stay (s : Stay H H') {a : Addr} {xs : List V} (h : SqT K H a xs) : SqT K H' a xs := by
  rcases h with (h | ⟨ob, h⟩) | h
  · exact .inl (.inl (s _ _ h rfl))
  · exact .inl (.inr ⟨ob, s _ _ h rfl⟩)
  · exact .inr h
mutual
theorem Rep.stay (s : Stay H H') : ∀ (d : D) {v : V}, Rep K os H d v → Rep K os H' d v
  | .non, v, h => by unfold Rep at h ⊢; exact h
  | .bl _, v, h => by unfold Rep at h ⊢; exact h
  | .int _, v, h => by unfold Rep at h ⊢; exact h
  | .str _, v, h => by unfold Rep at h ⊢; exact h
  | .tup ds, v, h => by
    unfold Rep at h ⊢
    obtain ⟨a, xs, e, h1, h2, h3⟩ := h
    exact ⟨a, xs, e, SqT.stay s h1, Reps.stay s ds h2, fun z => s _ _ (h3 z) rfl⟩
  | .lst ds, v, h => by
    unfold Rep at h ⊢
    obtain ⟨a, xs, e, ⟨ob, h1⟩, h2⟩ := h
    exact ⟨a, xs, e, ⟨ob, s _ _ h1 rfl⟩, Reps.stay s ds h2⟩
  | .dct ks vs, v, h => by
    unfold Rep at h ⊢
    obtain ⟨e1, e2, a, ob, e3, h1⟩ := h
    exact ⟨e1, e2, a, ob, e3, s _ _ h1 rfl⟩
  | .obj i, v, h => by unfold Rep at h ⊢; exact h
  | .kt ds, v, h => by
    unfold Rep at h ⊢
    obtain ⟨a, xs, e, h1, h2⟩ := h
    exact ⟨a, xs, e, SqT.stay s h1, Reps.stay s ds h2⟩
theorem Reps.stay (s : Stay H H') : ∀ (ds : List D) {xs : List V}, Reps K os H ds xs → Reps K os H' ds xs
  | [], xs, h => by unfold Reps at h ⊢; exact h
  | d :: ds, xs, h => by
    obtain ⟨x, r, rfl, h1, h2⟩ := h.inv
    exact .cons (Rep.stay s d h1) (Reps.stay s ds h2)
end
theorem stay_del (h : H dd = some (.lst acc)) : Stay H (del H dd) := fun b u e n => by
  rw [del_ne]
  · exact e
  · rintro rfl
    rw [h] at e
    cases e
    cases n
/-- a thing that changes -/
theorem stay_mu {u m : HO} (h : H dd = some m) (hm : isMu m = true) : Stay H (upd H dd u) := fun b w e n => by
  rw [upd_ne]
  · exact e
  · rintro rfl
    rw [h] at e
    cases e
    rw [hm] at n
    cases n
theorem stay_upd {u : HO} (h : H dd = some (.lst acc)) : Stay H (upd H dd u) := fun b w e n => by
  rw [upd_ne]
  · exact e
  · rintro rfl
    rw [h] at e
    cases e
    cases n
theorem ObjAt.stay (s : Stay H H') {a : Addr} {so : SObj} (e : ∀ u, H a = some u → isMu u = true → H' a = some u) (h : ObjAt K os H a so) : ObjAt K os H' a so := by
  cases so with
  | lst ds =>
    obtain ⟨xs, h1, h2⟩ := h
    exact ⟨xs, e _ h1 rfl, Reps.stay s ds h2⟩
  | dK kvs =>
    obtain ⟨xs, h1, hk, h2⟩ := h
    exact ⟨xs, e _ h1 rfl, hk, Reps.stay s _ h2⟩
  | dT kvs =>
    obtain ⟨xs, h1, hk, h2⟩ := h
    exact ⟨xs, e _ h1 rfl, hk, Reps.stay s _ h2⟩
theorem OOk.stay (O : OOk K os H o) (s : Stay H H') (e : ∀ a ∈ os, ∀ u, H a = some u → isMu u = true → H' a = some u) : OOk K os H' o where
  len := O.len
  at_ := fun i so q => by
    obtain ⟨a, e1, e2⟩ := O.at_ i so q
    exact ⟨a, e1, e2.stay s (e a (List.mem_of_getElem? e1))⟩
  nd := O.nd
theorem OOk.del (O : OOk K os H o) (n : dd ∉ os) (h : H dd = some (.lst acc)) : OOk K os (del H dd) o :=
  O.stay (stay_del h) fun a ha xs e _ => by rw [del_ne (by rintro rfl; exact n ha)]; exact e
theorem OOk.upd (O : OOk K os H o) (n : dd ∉ os) (h : H dd = some (.lst acc)) {u : HO} : OOk K os (L2.upd H dd u) o :=
  O.stay (stay_upd h) fun a ha xs e _ => by rw [upd_ne (by rintro rfl; exact n ha)]; exact e
theorem tabs_stay (s : Stay H H') (h : LamX.Tabs T H) : LamX.Tabs T H' := fun q hq => by
  obtain ⟨ps, h1, h2, h3⟩ := h q hq
  refine ⟨ps, s _ _ h1 rfl, h2, fun pos cv hc => ?_⟩
  obtain ⟨c, e1, e2⟩ := h3 pos cv hc
  exact ⟨c, e1, s _ _ e2 (by unfold LamX.CodeO; rfl)⟩
theorem tabs_st (s : Stay H H') (h : LamX.Tabs T H) : LamX.Tabs T H' := tabs_stay s h
/-- from before the list was made -/
theorem Post.newL (P : Post T os1 H1 os2 H2) (h1 : H1 dd = none) {u : HO} (h2 : H2 dd = some (.lst acc)) : Post T os1 H1 os2 (upd H2 dd u) where
  pre := P.pre
  keep := fun b w e n nt => by
    rw [upd_ne (ne_of_none e h1)]
    exact P.keep b w e n nt
  dom := fun b e => by
    by_cases hb : b = dd
    · rw [hb]; exact .of h1
    · exact P.dom b fun w q => e w (by rw [upd_ne hb]; exact q)
  tab := fun t => tabs_st (stay_upd h2) (P.tab t)
theorem Post.newD (P : Post T os1 H1 os2 H2) (h1 : H1 dd = none) (h2 : H2 dd = some (.lst acc)) : Post T os1 H1 os2 (del H2 dd) where
  pre := P.pre
  keep := fun b w e n nt => by
    rw [del_ne (ne_of_none e h1)]
    exact P.keep b w e n nt
  dom := fun b e => by
    by_cases hb : b = dd
    · rw [hb]; exact .of h1
    · exact P.dom b fun w q => e w (by rw [del_ne hb]; exact q)
  tab := fun t => tabs_st (stay_del h2) (P.tab t)
/-- the same step, without the list -/
theorem Post.del (P : Post T os H os2 H2) (n : dd ∉ os) (h : H dd = some (.lst acc)) : Post T os (del H dd) os2 (del H2 dd) ∧ dd ∉ os2 ∧ H2 dd = some (.lst acc) := by
  have h2 := P.keep _ _ h n fun _ e => nomatch e
  obtain ⟨new, e, hn⟩ := P.pre
  refine ⟨⟨⟨new, e, fun b hb => ?_⟩, fun b u e n' nt => ?_, fun b e => ?_, fun t => ?_⟩, ?_, h2⟩
  · by_cases hd : b = dd
    · rw [hd]; exact .of del_same
    · intro w q
      rw [del_ne hd] at q
      exact hn b hb w q
  · by_cases hb : b = dd
    · subst hb; rw [del_same] at e; cases e
    · rw [del_ne hb] at e ⊢
      exact P.keep b u e n' nt
  · by_cases hb : b = dd
    · rw [hb]; exact .of del_same
    · intro w q
      rw [del_ne hb] at q
      exact P.dom b (fun w' q' => e w' (by rw [del_ne hb]; exact q')) w q
  · have t1 : LamX.Tabs T H := tabs_st (fun b u e nn => by
      by_cases hb : b = dd
      · subst hb; rw [del_same] at e; cases e
      · rw [del_ne hb] at e; exact e) t
    exact tabs_st (stay_del h2) (P.tab t1)
  · rw [e]
    intro hm
    rcases List.mem_append.mp hm with hm | hm
    · exact n hm
    · obtain ⟨ps, z⟩ := hn dd hm _ h
      cases z
def WF : WX := fun _ _ _ _ => False
/-- what is wanted without the list is got with it -/
theorem Out.lift {σ' : L2.St} {r : Res α} {R : α → Objs → List Addr → Hp → Prop} (h : Out p K WF σ os (del H dd) r R) (n : dd ∉ os) (e : H dd = some (.lst acc)) :
    Out p K WF σ' os H r fun a o' os' H' => dd ∉ os' ∧ H' dd = some (.lst acc) ∧ R a o' os' (Ev.del H' dd) := by
  cases r with
  | ok a o' =>
    intro os' H' P O
    obtain ⟨P', n', e'⟩ := P.del n e
    exact ⟨n', e', h os' _ P' (O.del n' e')⟩
  | err c xs o' =>
    intro os' H' cls d P O x
    obtain ⟨P', n', e'⟩ := P.del n e
    refine h os' _ cls d P' (O.del n' e') ?_
    obtain ⟨x1, xk, x2⟩ := x
    refine ⟨x1, xk, ?_⟩
    rcases x2 with x2 | ⟨x, d2, v, y1, y2, y3, y4⟩
    · exact .inl x2
    · exact .inr ⟨x, d2, v, y1, y2, by rw [del_ne (by rintro rfl; rw [y3] at e'; cases e')]; exact y3, Rep.stay (stay_del e') x y4⟩
  | stuck => exact h
/-- the first part of a calm answer -/
theorem Out.calm {r : Res α} {f : α → Objs → Res β} {g : β → Objs → Res γ} {σ' : L2.St} {Q : γ → Objs → List Addr → Hp → Prop} (h : Out p K W σ os H ((r.bind f).calm.bind g) Q) : Out p K WF σ' os H r fun a o' os' H' => Out p K W σ os' H' ((f a o').calm.bind g) Q := by
  cases r with
  | ok a o' => exact fun os' H' P O => Out.step (r := ((f a o').calm.bind g)) h P
  | err c xs o' => exact h.elim
  | stuck => exact h
theorem calm_cons {r : Res (List D)} {x : D} {G : List D → Objs → Res γ} : ((r.bind fun xs o3 => Res.ok (x :: xs) o3).calm).bind G = r.calm.bind fun xs o3 => G (x :: xs) o3 := by
  cases r <;> rfl
end
section
variable {X : Cx} {p : Pm} {K : PySem.W.Frag} {W : WX}
/-- a clause's test -/
def tCd (p : Pm) (K : PySem.W.Frag) (W : WX) (c : IEo) : TT := fun σ H Q => ∃ ρ os o, At p K os H σ ρ o ∧ Out p K W σ os H (p.evC c ρ o) fun b _ os' H' => Q b H'
theorem pts_imp {e : List Expr} {t t' : TT} (h : PTs X e t) (m : ∀ σ H Q, t' σ H Q → t σ H Q) : PTs X e t' := ⟨fun pins s σ H Q I q => h.run pins s σ H Q I (m σ H Q q)⟩
theorem gd_none : PTs X [] (tCd p X.K W .none) := pts_imp pts_nil fun σ H Q ⟨ρ, os, o, A, h⟩ => h.ok A.obs
theorem gd_some {e : Expr} {a : IE} (h : PT X e (tT p X.K W a)) : PTs X [e] (tCd p X.K W (.some a)) := pts_imp (pts_one h) fun σ H Q ⟨ρ, os, o, A, h⟩ =>
  tT_of A h (fun d o n => by cases d <;> first | rfl | exact absurd rfl (n _)) fun k o1 os1 H1 P1 A1 h1 => h1.ok A1.obs
theorem At.wiped {os : List Addr} {H : Hp} {o : Objs} {σ : L2.St} {ρ : Frm} (A : At p K os H σ ρ o) (vs : List Nat) : At p K os H (wipe σ vs) (wipeF ρ vs) o := ⟨A.env.wiped vs, A.obs, A.tab⟩
/-- the step's continuation -/
def afterL (dacc : List D) : List D → Objs → Res D := fun xs o2 => if sz (dacc ++ xs).length then .ok (.lst (dacc ++ xs)) o2 else .stuck
theorem im_comp {ie : IE} {t : Tg} {src : ISrc} {cnd : IEo} {own : List Nat} {σ : L2.St} {H : Hp} {Q : VK} (hw : ∀ i ∈ tgS t, i ∈ own) (h : tM p K W (.comp ie t src cnd own) σ H Q) :
    tLc (tS true p K W src) (gTg p K t) (tCd p K WF cnd) (tE p K WF ie) own σ H Q := by
  obtain ⟨ρ, os, o, A, h⟩ := h
  refine ⟨ρ, os, o, A, ?_⟩
  refine h.bind.mono fun ds o1 os1 H1 _ P1 O1 h1 J yl L hL => ?_
  have A1 := A.next P1 O1
  -- the walk of what is left
  let rest : List D → Objs → Res (List D) := compL (fun d => bindT t d (wipeF ρ (own))) (fun ρ' o' => p.evC cnd ρ' o') (fun ρ' o' => p.evE ie ρ' o')
  let Qf : D → Objs → List Addr → Hp → Prop := fun d o' os' H' => ∀ v H2, MkV K os' H' d v H2 → Q v H2
  have dU : del (upd H1 L (.lst [])) L = H1 := by
    rw [del_upd]
    funext b
    by_cases hb : b = L
    · subst hb; rw [del_same, hL]
    · rw [del_ne hb]
  refine ⟨fun i m Hc => m = ds.length - i ∧ i ≤ ds.length ∧ ∃ os2 o2 acc dacc, Post p.T os1 H1 os2 Hc ∧ OOk K os2 Hc o2 ∧ L ∉ os2 ∧ Hc L = some (.lst acc) ∧ Reps K os2 Hc dacc acc ∧
    Out p K W σ os2 (del Hc L) ((rest (ds.drop i) o2).calm.bind (afterL dacc)) Qf, ⟨ds.length, by simp, Nat.zero_le _, os1, o1, [], [], ?_, ?_, ?_, upd_same, .nil, ?_⟩, ?_⟩
  · exact .same (same_upd hL)
  · exact O1.same (same_upd hL)
  · intro hm
    obtain ⟨xs, e, _⟩ := O1.mem hm
    rw [hL] at e; cases e
  · rw [dU]
    exact h1
  · rintro i m Hc ⟨rfl, hi', os2, o2, acc, dacc, P2, O2, n2, e2, r2, h2⟩
    have y := yl os2 Hc o2 P2 O2 i
    have nL : ∀ {os' H'}, Post p.T os2 Hc os' H' → L ∉ os' ∧ H' L = some (.lst acc) := fun P => (P.del n2 e2).2
    by_cases hlt : i < ds.length
    · refine .inr ⟨(y.1 hlt).1, fun H' => ∃ os2 o2 acc dacc, Post p.T os1 H1 os2 H' ∧ OOk K os2 H' o2 ∧ L ∉ os2 ∧ H' L = some (.lst acc) ∧ Reps K os2 H' dacc acc ∧
        Out p K W σ os2 (del H' L) ((rest (ds.drop (i + 1)) o2).calm.bind (afterL dacc)) Qf, fun H' nx => ⟨ds.length - (i + 1), by omega, rfl, hlt, nx⟩, fun x H3 hy => ?_⟩
      obtain ⟨s3, d, ed, rd⟩ := (y.1 hlt).2 x H3 hy
      have P3 : Post p.T os2 Hc os2 H3 := .same s3
      have O3 := O2.same s3
      obtain ⟨n3, e3⟩ := nL P3
      have r3 := Reps.post P3 O2 dacc r2
      have h3 := h2.step (P3.del n2 e2).1
      have edrop : ds.drop i = d :: ds.drop (i + 1) := by
        rw [List.drop_eq_getElem_cons hlt]
        rw [List.getElem?_eq_getElem hlt] at ed
        cases ed
        rfl
      rw [edrop] at h3
      have A3 := (A1.next (P2.trans P3) O3).wiped (own)
      cases eb : bindT t d (wipeF ρ (own)) with
      | none =>
        have z : rest (d :: ds.drop (i + 1)) o2 = .stuck := by
          show compL _ _ _ (d :: ds.drop (i + 1)) o2 = _
          unfold compL
          rw [eb]
        rw [z] at h3
        exact h3.elim
      | some ρ' =>
        have z : rest (d :: ds.drop (i + 1)) o2 = (p.evC cnd ρ' o2).bind fun b o1 => if b then (p.evE ie ρ' o1).bind fun x o2 => (rest (ds.drop (i + 1)) o2).bind fun xs o3 => .ok (x :: xs) o3 else rest (ds.drop (i + 1)) o1 := by
          show compL _ _ _ (d :: ds.drop (i + 1)) o2 = _
          conv => lhs; unfold compL
          rw [eb]
        rw [z] at h3
        refine ⟨_, os2, o2, d, ρ', A3, rd, eb, fun σ4 A4 ag => ⟨?_, ρ', os2, o2, A4, ?_⟩⟩
        · refine (wipe_eq ?_ fun j hj => ag j fun hm => hj (hw j hm)).trans wipe_wipe
          have l1 := A4.env.len
          have l2 : ρ'.length = (wipeF ρ (own)).length := bindT_len eb
          rw [l1, l2, ← A3.env.len]
        · refine ((Out.calm (σ' := σ4) h3).lift (σ' := σ4) n3 e3).mono fun b o5 os5 H5 _ P5 O5 ⟨n5, e5, h5⟩ => ?_
          have r5 := Reps.post P5 O3 dacc r3
          have P15 := (P2.trans P3).trans P5
          cases b with
          | false =>
            simp only [Bool.false_eq_true, if_false] at h5 ⊢
            exact ⟨os5, o5, acc, dacc, P15, O5, n5, e5, r5, h5⟩
          | true =>
            simp only [if_true] at h5 ⊢
            refine ⟨ρ', os5, o5, A4.next P5 O5, ((Out.calm (σ' := σ4) h5).lift (σ' := σ4) n5 e5).mono fun dx o6 os6 H6 _ P6 O6 ⟨n6, e6, h6⟩ vx rx => ?_⟩
            have r6 := Reps.post P6 O5 dacc r5
            rw [calm_cons] at h6
            have e7 : (fun xs o3 => afterL dacc (dx :: xs) o3) = afterL (dacc ++ [dx]) := by
              funext xs o3
              unfold afterL
              rw [List.append_assoc]
              rfl
            rw [e7] at h6
            have hsz : dacc.length < sizeLine := by
              cases q : (rest (ds.drop (i + 1)) o6).calm with
              | ok xs o7 =>
                rw [q] at h6
                have h6 : Out p K W σ os6 (del H6 L) (afterL (dacc ++ [dx]) xs o7) Qf := h6
                unfold afterL at h6
                split at h6
                · rename_i hz
                  have z := szP hz
                  rw [List.length_append, List.length_append] at z
                  have : ([dx] : List D).length = 1 := rfl
                  omega
                · exact h6.elim
              | err c xs o7 =>
                cases q2 : rest (ds.drop (i + 1)) o6 with
                | ok a b => rw [q2] at q; cases q
                | err a b c => rw [q2] at q; cases q
                | stuck => rw [q2] at q; cases q
              | stuck => rw [q] at h6; exact h6.elim
            refine ⟨acc, e6, by rw [r6.length]; exact hsz, os6, o6, acc ++ [vx], dacc ++ [dx], ?_, O6.upd n6 e6, n6, upd_same, ?_, ?_⟩
            · exact (P15.trans P6).newL hL e6
            · exact Reps.stay (stay_upd e6) _ (r6.append (.cons rx .nil))
            · rw [del_upd]
              exact h6
    · have ei : i = ds.length := by omega
      refine .inl ⟨y.2 (by omega), ?_⟩
      rw [ei, List.drop_length] at h2
      have h2 : Out p K W σ os2 (del Hc L) (afterL dacc [] o2) Qf := h2
      unfold afterL at h2
      split at h2
      · rw [List.append_nil] at h2
        have q := h2.ok (O2.del n2 e2) (.ref L) Hc
        refine q ?_
        have m := MkV.lst (K := K) (os := os2) (a := L) (ds := dacc) (xs := acc) (del_same (H := Hc)) (Reps.stay (stay_del e2) dacc r2)
        rw [upd_del e2] at m
        exact m
      · exact h2.elim
theorem gm_comp {elt tg iter : Expr} {ifs : List Expr} {scope : Scope} {own : List (Str × Nat)} {pos : Pos} {ie : IE} {t : Tg} {src : ISrc} {cnd : IEo} (hc : X.calm = true) (hN : X.N.Nodup) (hi : PI X tg iter (tS true p X.K W src)) (ok : BlkOk X.N X.env.scope scope own)
    (hg : ∀ (s : Shared) (H : Hp) (C : Addr) (cl : List (Str × Addr)) (fp : List Addr), PG (X.blk s H scope (compEnvC scope cl C X.env) fp) tg (gTg p X.K t))
    (ht : ∀ (s : Shared) (H : Hp) (C : Addr) (cl : List (Str × Addr)) (fp : List Addr), PTs (X.blk s H scope (compEnvC scope cl C X.env) fp) ifs (tCd p X.K WF cnd))
    (he : ∀ (s : Shared) (H : Hp) (C : Addr) (cl : List (Str × Addr)) (fp : List Addr), PE (X.blk s H scope (compEnvC scope cl C X.env) fp) elt (tE p X.K WF ie)) (hs : ∀ x, foldedSetIterable iter X.env x = pure x)
    (hw : ∀ i ∈ tgS t, i ∈ own.map (·.2)) : PE X (.ListComp elt [⟨tg, iter, ifs, 0⟩] scope pos) (tM p X.K W (.comp ie t src cnd (own.map (·.2)))) :=
  pe_imp (pe_lc hc hN hi ok hg ht he hs) fun σ H Q h => im_comp hw h
theorem gm_compH {q : Addr × Obj} {elt tg iter : Expr} {ifs : List Expr} {scope : Scope} {own : List (Str × Nat)} {pos : Pos} {ie : IE} {t : Tg} {src : ISrc} {cnd : IEo} (h1 : L2H.Hot1 X.A q) (h2 : q ∈ X.pn) (hN : X.N.Nodup) (hi : L2H.PIH X tg iter (tS true p X.K W src)) (ok : BlkOk X.N X.env.scope scope own)
    (B : BlkParts X q elt tg ifs scope (gTg p X.K t) (tCd p X.K WF cnd) (tE p X.K WF ie)) (hs : ∀ x, foldedSetIterable iter X.env x = pure x)
    (hw : ∀ i ∈ tgS t, i ∈ own.map (·.2)) : PE X (.ListComp elt [⟨tg, iter, ifs, 0⟩] scope pos) (tM p X.K W (.comp ie t src cnd (own.map (·.2)))) :=
  pe_imp (pe_lcH h1 h2 hN hi ok B hs) fun σ H Q h => im_comp hw h
theorem gm_setLcH {q : Addr × Obj} {i : Nat} {y : Str} {py : Pos} {elt tg iter : Expr} {ifs : List Expr} {scope : Scope} {own : List (Str × Nat)} {pos spos : Pos} {ie : IE} {t : Tg} {src : ISrc} {cnd : IEo} (h1 : L2H.Hot1 X.A q) (h2 : q ∈ X.pn) (hN : X.N.Nodup) (hy : X.N[i]? = some y) (hyl : X.env.scope.names.lookup y = some .local)
    (hsw : swapsWith (.ListComp elt [⟨tg, iter, ifs, 0⟩] scope pos) (some (.Name y py)) spos.line X.env = pure true) (hi : L2H.PIH X tg iter (tS true p X.K W src)) (ok : BlkOk X.N X.env.scope scope own)
    (B : BlkParts X q elt tg ifs scope (gTg p X.K t) (tCd p X.K WF cnd) (tE p X.K WF ie)) (hs : ∀ x, foldedSetIterable iter X.env x = pure x)
    (hw : ∀ i ∈ tgS t, i ∈ own.map (·.2)) : PS X (.Assign [.Name y py] (.ListComp elt [⟨tg, iter, ifs, 0⟩] scope pos) spos) (tAsg (tM p X.K W (.comp ie t src cnd (own.map (·.2)))) (gName i)) := by
  have z := ps_setLcH h1 h2 hN hy hyl hsw hi ok B hs
  exact ⟨fun pins s σ H Dn I h => z.run pins s σ H Dn I (im_comp hw h)⟩
/-- name = [..], the store exchanged with the block's end -/
theorem gm_setLc {i : Nat} {y : Str} {py : Pos} {elt tg iter : Expr} {ifs : List Expr} {scope : Scope} {own : List (Str × Nat)} {pos spos : Pos} {ie : IE} {t : Tg} {src : ISrc} {cnd : IEo} (hc : X.calm = true) (hN : X.N.Nodup) (hy : X.N[i]? = some y) (hyl : X.env.scope.names.lookup y = some .local)
    (hsw : swapsWith (.ListComp elt [⟨tg, iter, ifs, 0⟩] scope pos) (some (.Name y py)) spos.line X.env = pure true) (hi : PI X tg iter (tS true p X.K W src)) (ok : BlkOk X.N X.env.scope scope own)
    (hg : ∀ (s : Shared) (H : Hp) (C : Addr) (cl : List (Str × Addr)) (fp : List Addr), PG (X.blk s H scope (compEnvC scope cl C X.env) fp) tg (gTg p X.K t))
    (ht : ∀ (s : Shared) (H : Hp) (C : Addr) (cl : List (Str × Addr)) (fp : List Addr), PTs (X.blk s H scope (compEnvC scope cl C X.env) fp) ifs (tCd p X.K WF cnd))
    (he : ∀ (s : Shared) (H : Hp) (C : Addr) (cl : List (Str × Addr)) (fp : List Addr), PE (X.blk s H scope (compEnvC scope cl C X.env) fp) elt (tE p X.K WF ie)) (hs : ∀ x, foldedSetIterable iter X.env x = pure x)
    (hw : ∀ i ∈ tgS t, i ∈ own.map (·.2)) : PS X (.Assign [.Name y py] (.ListComp elt [⟨tg, iter, ifs, 0⟩] scope pos) spos) (tAsg (tM p X.K W (.comp ie t src cnd (own.map (·.2)))) (gName i)) := by
  have q := ps_setLc hc hN hy hyl hsw hi ok hg ht he hs
  exact ⟨fun pins s σ H Dn I h => q.run pins s σ H Dn I (im_comp hw h)⟩
end
end Ev

set_option maxHeartbeats 2000000
/-! EvL: the world; closures; calls. -/
namespace Ev
open PySem PySem.Spec PyProof.Rows L2

theorem zip_lookup : ∀ {ps : List Str} {us : List Value} {i : Nat} {x : Str} {u : Value}, ps.Nodup → ps[i]? = some x → us[i]? = some u → (ps.zip us).lookup x = some u
  | p :: ps, w :: us, 0, x, u, nd, h1, h2 => by
    have e1 : p = x := by simpa using h1
    have e2 : w = u := by simpa using h2
    subst e1 e2
    simp [List.lookup_cons]
  | p :: ps, w :: us, i + 1, x, u, nd, h1, h2 => by
    rw [List.nodup_cons] at nd
    have h1' : ps[i]? = some x := by simpa using h1
    have h2' : us[i]? = some u := by simpa using h2
    have ne : ¬ (x == p) = true := fun e => nd.1 (by have e' : x = p := by simpa using e
                                                     rw [← e']; exact List.mem_of_getElem? h1')
    show ((p, w) :: ps.zip us).lookup x = some u
    rw [List.lookup_cons]
    rw [show (x == p) = false by simpa using ne]
    exact zip_lookup nd.2 h1' h2'
  | [], _, _, _, _, _, h, _ => by simp at h
  | _ :: _, [], _, _, _, _, _, h => by simp at h
theorem zip_fm : ∀ (ps : List Str) (us : List Value), us.length = ps.length → ps.Nodup → ∀ (l : List (Str × Value)), (∀ (i : Nat) (x : Str) (u : Value), ps[i]? = some x → us[i]? = some u → l.lookup x = some u) → (ps.filterMap fun n => (l.lookup n).map (n, ·)) = ps.zip us
  | [], [], _, _, _, _ => rfl
  | p :: ps, u :: us, h, nd, l, hl => by
    rw [List.nodup_cons] at nd
    rw [List.filterMap_cons, hl 0 p u rfl rfl]
    show (p, u) :: _ = (p, u) :: ps.zip us
    rw [zip_fm ps us (by simpa using h) nd.2 l fun i x w h1 h2 => hl (i + 1) x w (by simpa using h1) (by simpa using h2)]
  | [], _ :: _, h, _, _, _ => by simp at h
  | _ :: _, [], h, _, _, _ => by simp at h
theorem bind_all {fd : FuncData} {args : List Arg} (hp : fd.params = ⟨[], args, none, [], [], none, []⟩) (hd : fd.defaults = .none) (nd : (args.map (·.arg)).Nodup) (us : List Value) (h : us.length = (args.map (·.arg)).length) : bindArgs fd ⟨us, []⟩ = pure ((args.map (·.arg)).zip us) := by
  have hl : ∀ (i : Nat) (x : Str) (u : Value), (args.map (·.arg))[i]? = some x → us[i]? = some u → ((args.map (·.arg)).zip us).lookup x = some u := fun i x u h1 h2 => zip_lookup nd h1 h2
  have hm : ((args.map (·.arg)).take (args.map (·.arg)).length).filter (fun n => (((args.map (·.arg)).zip us).lookup n).isNone) = [] := by
    rw [List.filter_eq_nil_iff]
    intro x hx
    rw [List.take_length] at hx
    obtain ⟨i, hi⟩ := List.mem_iff_getElem?.mp hx
    have hlt : i < us.length := by rw [h]; exact (List.getElem?_eq_some_iff.mp hi).1
    rw [hl i x us[i] hi (List.getElem?_eq_getElem hlt)]
    simp
  have hg : ¬ (us.length > (args.map (·.arg)).length) := by omega
  have hs : seqItems? .none = pure none := rfl
  unfold bindArgs
  simp only [hp, hd, hs]
  simp only [List.map_nil, List.nil_append, List.forIn_nil, pure_bind, List.append_nil, Option.isNone_none, Bool.and_true, decide_eq_true_eq, if_neg hg, Option.getD_none, List.drop_nil, List.length_nil, Nat.sub_zero, hm, List.isEmpty_nil, Bool.not_true, Bool.false_eq_true, if_false, List.zip_nil_right, zip_fm _ _ h nd _ hl]

/-! ### the program, as it stands -/
structure Wd where
  prog : Program
  w : World
  K : PySem.W.Frag
  mg : Str → Option Value
  base : Heap
  T : Tab
  L : Nat
  tbs : Tbs
  ad : Str → Addr
  fld : Str → Str
  defs : List Str
  clss : List Str
  dics : List Str
abbrev kla (q : Str) (args : List Arg) (body : Expr) (scope : Scope) (cl : List (Str × Addr)) (pm : Value) (c' : Addr) (ctv : Value) : Obj := PySem.W.kla_obj "<lambda>" q ⟨[], args, none, [], [], none, []⟩ body scope cl pm c' ctv
/-- the lambda at f, in the heap h -/
def CloH (D : Wd) (h : Heap) (f : Addr) (np nl : Nat) (b : IE) (vs : List V) (c' : Addr) (q : Str) : Prop := ∃ (args : List Arg) (body : Expr) (scope : Scope) (cl : List (Str × Addr)) (pm ctv : Value) (Γ : Scp) (n : Nat) (fr : List Str),
  h.get? f = some (kla q args body scope cl pm c' ctv) ∧ NdefX.NScope Γ.N (args.map (·.arg)) fr scope ∧ args.length = np ∧ Γ.N.length = nl ∧ (Γ.sc = scope ∧ Γ.hot = false ∧ Γ.lam = false ∧ Γ.isx = false ∧ Γ.defs = D.defs ∧ Γ.clss = D.clss ∧ Γ.dics = D.dics) ∧ cE n Γ body = some b ∧ fr.length = vs.length ∧
    (∀ y c, cl.lookup y = some c → ∃ v, h.IsCell c v) ∧ (∀ x y c, cl.lookup x = some c → cl.lookup y = some c → x = y) ∧
    ∀ (i : Nat) (y : Str), fr[i]? = some y → ∃ c, cl.lookup y = some c ∧ ∀ v, vs[i]? = some v → ∃ u, RelV v u ∧ h.IsCell c (some u)
def Wd.sp (D : Wd) (h : Heap) : SpV := ⟨CloH D h, fun _ _ => False⟩
def Wd.pm (D : Wd) (h : Heap) (k : Nat) : Pm := ⟨callF D.T D.L k, callC D.T D.L k, D.T.con, D.T.isa, D.L, D.tbs, D.sp h, D.ad, D.fld, fun c => c ∈ D.clss⟩
/-- .. with the exception that is caught -/
def Pm.withExc (p : Pm) (e : Addr → Str → Prop) : Pm := { p with Sp := ⟨p.Sp.clo, e⟩ }
/-- the heap's part that no one changes: untracked, no frame -/
def fixed (h : Heap) (H : Hp) (fs : List Addr) : Heap := PySem.W.hideAll (hidT h H) fs
section
variable {h : Heap} {H : Hp} {fs : List Addr}
theorem fixed_get {b : Addr} {o : Obj} (e : h.get? b = some o) (n : H b = none) (nf : b ∉ fs) : (fixed h H fs).get? b = some o := PySem.W.hideAll_get _ (hidT_get e n) nf
theorem of_fixed {b : Addr} {o : Obj} (e : (fixed h H fs).get? b = some o) : h.get? b = some o ∧ H b = none ∧ b ∉ fs := by
  have e1 : (hidT h H).get? b = some o := PySem.W.of_hideAll _ e
  obtain ⟨e2, n⟩ := of_hidT e1
  refine ⟨e2, n, fun hm => ?_⟩
  have z : (fixed h H fs).get? b = none := PySem.W.hideAll_none _ hm
  rw [z] at e
  cases e
theorem fixed_size : (fixed h H fs).objs.size = h.objs.size := by unfold fixed; rw [PySem.W.hideAll_size, hidT_size]
end
/-- a heap over the base -/
structure Over (D : Wd) (base : Heap) : Prop where
  keep : ∀ b o, D.base.get? b = some o → base.get? b = some o
  size : D.base.objs.size ≤ base.objs.size
theorem mod_keeps {K : PySem.W.Frag} {mg : Str → Option Value} {base base' : Heap} (m : Mod K mg base) (k : ∀ b o, base.get? b = some o → base'.get? b = some o) : Mod K mg base' := by
  obtain ⟨mb, h1, h2⟩ := m.blt
  exact ⟨m.kin.keeps k, m.glob.keeps k, ⟨mb, h1.keeps k, h2⟩, m.nolimit.keeps k⟩
theorem funs_re {h base base' : Heap} : ∀ {l : List Env}, h.FunFrames base l → (∀ b ∈ frs l, base'.get? b = none) → h.FunFrames base' l
  | [], _, _ => True.intro
  | env :: r, hl, hb => by
    obtain ⟨hk, ⟨L, o, hf, hn, ho, hd⟩, hr⟩ := hl
    refine ⟨hk, ⟨L, o, hf, hb L ?_, ho, hd⟩, funs_re hr fun b hm => hb b ?_⟩
    · unfold frs
      rw [List.filterMap_cons, hf]
      exact List.mem_cons_self
    · unfold frs at hm ⊢
      rw [List.filterMap_cons, hf]
      exact List.mem_cons_of_mem _ hm
/-- the entry, over all that is fixed -/
theorem env0_fixed {P : Program} {w : World} {K : PySem.W.Frag} {mg : Str → Option Value} {base : Heap} {A : Around} {outer : List Env} {s : Shared} {H : Hp} (e : Env0 P w K mg base A outer s H) : Env0 P w K mg (fixed s.heap H (frs outer)) A outer s H := by
  refine ⟨e.frames, mod_keeps e.mod fun b o q => ?_, fun b o q => ⟨(of_fixed q).1, (of_fixed q).2.1⟩, Nat.le_of_eq fixed_size, funs_re e.funs fun b hb => PySem.W.hideAll_none _ hb, e.frf, e.hok, e.bare⟩
  obtain ⟨q1, q2⟩ := e.bs b o q
  refine fixed_get q1 q2 fun hm => ?_
  rw [(e.funs.mem hm).1] at q
  cases q
theorem over_fixed {D : Wd} {base : Heap} {outer : List Env} {s : Shared} {H : Hp} {A : Around} (O : Over D base) (e : Env0 D.prog D.w D.K D.mg base A outer s H) : Over D (fixed s.heap H (frs outer)) := by
  refine ⟨fun b o q => ?_, by rw [fixed_size]; exact Nat.le_trans O.size e.bsz⟩
  obtain ⟨q1, q2⟩ := e.bs b o (O.keep b o q)
  refine fixed_get q1 q2 fun hm => ?_
  have z := O.keep b o q
  rw [(e.funs.mem hm).1] at z
  cases z
/-- the entry, over the base -/
theorem env0_base {D : Wd} {base : Heap} {outer : List Env} {s : Shared} {H : Hp} {A : Around} (O : Over D base) (m : Mod D.K D.mg D.base) (e : Env0 D.prog D.w D.K D.mg base A outer s H) : Env0 D.prog D.w D.K D.mg D.base A outer s H := by
  refine ⟨e.frames, m, fun b o q => e.bs b o (O.keep b o q), Nat.le_trans O.size e.bsz, funs_re e.funs fun b hb => ?_, e.frf, e.hok, e.bare⟩
  cases q : D.base.get? b with
  | none => rfl
  | some o =>
    have z := O.keep b o q
    rw [(e.funs.mem hb).1] at z
    cases z

/-! ### what comes in -/
def SlotR (K : PySem.W.Frag) (Sp : SpV) (os : List Addr) (H : Hp) : Slot → V → Prop
  | .val d, v => Rep K os H d v
  | .clo np nl b cap, v => ∃ f vs c' q, v = .ref f ∧ Sp.clo f np nl b vs c' q ∧ Reps K os H cap vs ∧ H c' = some (LamX.CodeO c' q)
  | _, _ => False
abbrev SlotRs (K : PySem.W.Frag) (Sp : SpV) (os : List Addr) (H : Hp) : List Slot → List V → Prop := Paired (SlotR K Sp os H)
theorem paired_get {α β : Type} {R : α → β → Prop} : ∀ {xs : List α} {ys : List β} {i : Nat} {x : α}, Paired R xs ys → xs[i]? = some x → ∃ y, ys[i]? = some y ∧ R x y
  | _, _, _, _, .nil, e => by simp at e
  | _, _, 0, _, .cons r _, e => by
    have e' := Option.some.inj e
    subst e'
    exact ⟨_, rfl, r⟩
  | _, _, i + 1, x, .cons _ t, e => by
    obtain ⟨u, h1, h2⟩ := paired_get (i := i) (x := x) t (by simpa using e)
    exact ⟨u, by simpa using h1, h2⟩
/-- the frame at the entry -/
theorem envOk_start {K : PySem.W.Frag} {Sp : SpV} {os : List Addr} {H : Hp} {sl : List Slot} {vs : List V} (h : SlotRs K Sp os H sl vs) (m : Nat) : EnvOk K Sp os H (vs.map some ++ List.replicate m none) (sl ++ List.replicate m .none) := by
  have hl := h.length
  have get : ∀ (i : Nat) (s : Slot), (sl ++ List.replicate m Slot.none)[i]? = some s → s ≠ .none → ∃ v, (vs.map some ++ List.replicate m none)[i]? = some (some v) ∧ SlotR K Sp os H s v := fun i s e n => by
    by_cases hi : i < sl.length
    · rw [List.getElem?_append_left hi] at e
      obtain ⟨v, e1, e2⟩ := paired_get h e
      refine ⟨v, ?_, e2⟩
      rw [List.getElem?_append_left (by rw [List.length_map, ← hl]; exact hi), List.getElem?_map, e1]
      rfl
    · rw [List.getElem?_append_right (by omega), List.getElem?_replicate] at e
      split at e
      · exact absurd (Option.some.inj e).symm n
      · cases e
  refine ⟨by simp [hl], fun i d e => ?_, fun i d e => ?_, fun i j d e a _ e1 => ?_, fun i np nl b cap e => ?_, fun i c xs e => ?_⟩
  · exact get i _ e (fun z => by cases z)
  · obtain ⟨v, _, z⟩ := get i _ e (fun z => by cases z)
    exact z.elim
  · obtain ⟨v, _, z⟩ := get i _ e1 (fun z => by cases z)
    exact z.elim
  · obtain ⟨v, e1, f, ws, c', q, rfl, z⟩ := get i _ e (fun z => by cases z)
    exact ⟨f, ws, c', q, e1, z⟩
  · obtain ⟨v, _, z⟩ := get i _ e (fun z => by cases z)
    exact z.elim

/-! ### what calls promise, at depth k -/
def CallsOk (D : Wd) (k : Nat) : Prop := ∀ (fn : Str) (ir : FnIR), D.T.fn fn = some ir → ∀ (A : Around) (outer : List Env) (s : Shared) (H : Hp) (us : List Value) (vs : List V) (sl : List Slot) (os : List Addr) (o : Objs) (Q : VK) (W : WX) (σ : L2.St),
  Room k A → Env0 D.prog D.w D.K D.mg D.base A outer s H → Vals vs us → SlotRs D.K (D.sp (fixed s.heap H (frs outer))) os H sl vs → OOk D.K os H o → LamX.Tabs D.tbs H →
    Out (D.pm D.base k) D.K W σ os H (callF D.T D.L k fn sl o) (fun d _ os' H' => ∀ v, Rep D.K os' H' d v → Q v H') →
      codeAny (model D.prog D.w) A (.call (.ref (D.ad fn)) ⟨us, []⟩) (CR (L2N.CX D.prog D.w) outer D.prog D.w H s Q (WE W σ)) s
def CloOk (D : Wd) (k : Nat) : Prop := ∀ (base : Heap), Over D base → ∀ (f : Addr) (np nl : Nat) (b : IE) (ws : List V) (c' : Addr) (q : Str), CloH D base f np nl b ws c' q → ∀ (A : Around) (outer : List Env) (s : Shared) (H : Hp) (us : List Value) (vs : List V) (ds cap : List Ev.D) (os : List Addr) (o : Objs) (Q : VK) (W : WX) (σ : L2.St),
  Room k A → Env0 D.prog D.w D.K D.mg base A outer s H → H c' = some (LamX.CodeO c' q) → Vals vs us → Reps D.K os H ds vs → Reps D.K os H cap ws → OOk D.K os H o → LamX.Tabs D.tbs H →
    Out (D.pm D.base k) D.K W σ os H (callC D.T D.L k np nl b cap ds o) (fun d _ os' H' => ∀ v, Rep D.K os' H' d v → Q v H') →
      codeAny (model D.prog D.w) A (.call (.ref f) ⟨us, []⟩) (CR (L2N.CX D.prog D.w) outer D.prog D.w H s Q (WE W σ)) s
end Ev

set_option maxHeartbeats 2000000
/-! EvM: the rules of calls. -/
namespace Ev
open PySem PySem.Spec PyProof.Rows L2

/-- a dict of the module with texts as keys -/
def DicV (K : PySem.W.Frag) (a : Addr) (ks vs : List D) (z : Str) : Prop := match dicAt ks vs z with
  | some d => ∃ u v, PySem.W.nsIn K a z = some (some u) ∧ RelV v u ∧ ∀ os H, Rep K os H d v
  | none => PySem.W.nsIn K a z = some none
structure DicAt (D : Wd) (g : Str) (ks vs : List Ev.D) : Prop where
  mg : D.mg g = some (.ref (D.ad g))
  ex : ∃ es n, KDict D.K D.w (D.ad g) es n ∧ ∀ z, DicV D.K (D.ad g) ks vs z
structure Wd.Ok (D : Wd) : Prop where
  mod : Mod D.K D.mg D.base
  fn : ∀ f ∈ D.defs, D.mg f = some (.ref (D.ad f)) ∧ PySem.W.keepIn D.K (.ref (D.ad f)) = true
  con : ∀ x d, globD D.T.con x = some d → ∃ v u, D.mg x = some u ∧ RelV v u ∧ ∀ os H, Rep D.K os H d v
  dic : ∀ g ∈ D.dics, ∀ d, D.T.con g = some d → ∃ ks vs, d = .dct ks vs ∧ DicAt D g ks vs
  blt : ∀ x ∈ builtins, D.mg x = none
  exc : ∀ c ∈ D.clss, ∃ B newId initId bmB, ExcBaseFacts B newId initId bmB ∧ PySem.W.excIn D.K (D.ad c) bmB newId = true ∧ D.mg c = some (.ref (D.ad c)) ∧ PySem.W.keepIn D.K (.ref (D.ad c)) = true ∧
    PySem.W.subIn D.K (.ref (D.ad c)) (.type "BaseException") = some true ∧ PySem.W.typeIn D.K (.ref (D.ad c)) = some (.type "type") ∧ ExcC D.K (D.ad c)
  exm : ∀ c' ∈ D.clss, ∀ c ∈ D.clss, PySem.W.exmOne D.K (.ref (D.ad c')) (.ref (D.ad c)) = some (D.T.isa c' c) ∧ PySem.W.kitOne D.K (.ref (D.ad c')) (.ref (D.ad c)) = some (D.T.isa c' c)
  exv : ∀ c' ∈ D.clss, PySem.W.kitOne D.K (.ref (D.ad c')) (.type "ValueError") = some (D.T.isa c' "ValueError")
/-- the context X is of the world D, at the depth k, of the scope Γ; e: what is caught -/
structure Good (D : Wd) (k : Nat) (e : Addr → Str → Prop) (X : Cx) (W : WX) (Γ : Scp) : Prop where
  fit : Fits X Γ
  ok : D.Ok
  prog : X.prog = D.prog
  w : X.w = D.w
  K : X.K = D.K
  mg : X.mg = D.mg
  over : Over D X.base
  tk : L2N.Takes X W
  room : Γ.hot = false → Room k X.A
  defs : Γ.defs = D.defs
  clss : Γ.clss = D.clss
  dics : Γ.dics = D.dics
  lamT : Γ.lam = true → ∃ c P, LamX.TabB X.base X.mg c P ∧ X.env.code = .ref c ∧ (P, X.env.qual ++ "<lambda>") ∈ D.tbs ∧ (∀ q ∈ D.tbs, q.1 = P → q.2 = X.env.qual ++ "<lambda>") ∧ ∀ x, X.fn x = true
  isx : Γ.isx = true → ∀ a c' c, e a c' → (c ∈ D.clss ∨ c = "ValueError") → Gl X c → okName c = true → ∃ v, (∀ pos, PE X (.Name c pos) (tC v)) ∧ CallR X (.builtin "isinstance") fun xs H Q => xs = [.ref a, v] ∧ Q (.bl (D.T.isa c' c)) H
section
variable {D : Wd} {k : Nat} {ex : Addr → Str → Prop} {X : Cx} {W : WX} {Γ : Scp}
/-- what is run -/
abbrev pmX (D : Wd) (k : Nat) (ex : Addr → Str → Prop) (X : Cx) : Pm := (D.pm X.base k).withExc ex
theorem Good.env (g : Good D k ex X W Γ) {pins : List (Addr × Obj)} {σ : L2.St} {H : Hp} {s : Shared} (I : Inv X pins σ H s) : Env0 D.prog D.w D.K D.mg X.base X.A X.stack s H := by
  have e := I.env0
  rw [g.prog, g.w, g.K, g.mg] at e
  exact e
/-- behind a call -/
theorem Good.after (g : Good D k ex X W Γ) {pins : List (Addr × Obj)} {σ : L2.St} {H : Hp} {s : Shared} {Q : VK} {f : Addr} {us : List Value} (I : Inv X pins σ H s)
    (rc : codeAny (model D.prog D.w) X.A (.call (.ref f) ⟨us, []⟩) (CR (L2N.CX D.prog D.w) X.stack D.prog D.w H s Q (WE W σ)) s) : wpAny (model X.prog X.w) X.A (call (.ref f) us) (EP X pins σ Q) X.xe s := by
  have pa := L2N.passAt g.tk σ
  rw [← g.prog, ← g.w] at rc
  refine wpAny_call (codeAny_mono rc fun r s' hq => ?_)
  cases r with
  | error e => exact pa pins H s e s' I hq
  | ok fl =>
    cases fl with
    | ret u => exact I.after hq
    | _ => exact hq.elim
/-- x(..), x a lambda that came in -/
theorem ge_callv (g : Good D k ex X W Γ) (hh : Γ.hot = false) (hC : CloOk D k) {i : Nat} {x : Str} {pn pos : Pos} {es : List Expr} {as : IEs} (hN : X.N[i]? = some x) (hv : Vis X.env.scope x) (hd : (x == ("__debug__" : Str)) = false) (hcd : (x == ("__classdict__" : Str)) = false)
    (ha : PA X es (tVs (pmX D k ex X) X.K W as)) (hs : ∀ e ∈ es, ∀ x y, e ≠ .Starred x y) (h0 : es = [] → as = .nil) : PE X (.Call (.Name x pn) es [] pos) (tE (pmX D k ex X) X.K W (.callv i as)) := by
  refine ⟨fun pins s σ H Q I ⟨ρ, os, o, A, h⟩ => ?_⟩
  have h : Out (pmX D k ex X) X.K W σ os H (match ρ[i]? with
    | some (.clo np nl body cap) => ((pmX D k ex X).evEs as ρ o).bind fun ds o1 => callC D.T D.L k np nl body cap ds o1
    | _ => .stuck) _ := h
  split at h
  · rename_i np nl b cap e
    obtain ⟨f, ws, c', q, e1, e2, e3, e4⟩ := A.env.clo i np nl b cap e
    have fin : ∀ s2 us vs H2, Inv X pins σ H2 s2 → Vals vs us → (∃ ds os2 o2, Post D.tbs os H os2 H2 ∧ At (pmX D k ex X) X.K os2 H2 σ ρ o2 ∧ Reps X.K os2 H2 ds vs ∧ Out (pmX D k ex X) X.K W σ os2 H2 (callC D.T D.L k np nl b cap ds o2) fun d _ os' H' => ∀ v, Rep X.K os' H' d v → Q v H') →
        wpAny (model X.prog X.w) X.A (call (.ref f) us) (EP X pins σ Q) X.xe s2 := fun s2 us vs H2 I2 r ⟨ds, os2, o2, P2, A2, r2, h2⟩ => by
      refine g.after I2 (hC X.base g.over f np nl b ws c' q e2 X.A X.stack s2 H2 us vs ds cap os2 o2 Q W σ (g.room hh) (g.env I2) (codeO_post P2 A.obs e4) r (by rw [← g.K]; exact r2) ?_ (by rw [← g.K]; exact A2.obs) A2.tab ?_)
      · rw [← g.K]
        exact Reps.post P2 A.obs cap e3
      · rw [← g.K]
        exact h2
    have fnA : ∀ {H2 : Hp} {s2 : Shared}, Inv X pins σ H2 s2 → PySem.W.FnAt f s2.heap := fun I2 => by
      obtain ⟨args, body, scope, cl, pm, ctv, Γ', n, fr, ho, _⟩ := e2
      exact ⟨_, _, _, _, I2.bk _ _ ho⟩
    refine wpAny_Call_Name_kw (thn ((pe_var (pos := pn) hN hv hd hcd).run pins s σ H (fun v H1 => v = .ref f ∧ H1 = H) I ⟨.ref f, e1, rfl, rfl⟩) fun u s1 ⟨v, H1, I1, r1, ev, eH⟩ => ?_)
    subst ev
    rw [eH] at I1
    obtain rfl : u = Value.ref f := r1
    have tv := tVs_of (R := fun vs H2 => ∃ ds os2 o2, Post D.tbs os H os2 H2 ∧ At (pmX D k ex X) X.K os2 H2 σ ρ o2 ∧ Reps X.K os2 H2 ds vs ∧ Out (pmX D k ex X) X.K W σ os2 H2 (callC D.T D.L k np nl b cap ds o2) fun d _ os' H' => ∀ v, Rep X.K os' H' d v → Q v H') A h fun ds o2 os2 H2 vs P2 A2 r2 h2 => ⟨ds, os2, o2, P2, A2, r2, h2⟩
    cases es with
    | nil =>
      refine PySem.W.callWith_F0 (first := []) (fnA I1) ?_
      rw [h0 rfl] at h
      exact fin s1 [] [] H I1 .nil ⟨[], os, o, .refl, A, .nil, h⟩
    | cons e0 es =>
      refine PySem.W.callWith_F (first := []) (fnA I1) (thn (ha.run pos pins s1 σ H _ I1 tv) fun us s2 ⟨vs, H2, I2, r, q2⟩ => ⟨fnA I2, ?_⟩) (starEach_ne _ (hs e0 List.mem_cons_self)) (backTo_ns fun e he => hs e (List.mem_cons_of_mem _ he))
      exact fin s2 us vs H2 I2 r q2
  · exact h.elim
/-! ### arguments, lambdas among them -/
/-- what an argument list leaves -/
def ArgsR (D : Wd) (X : Cx) (os : List Addr) (H : Hp) (s : Shared) (sl : List Slot) (us : List Value) : Prop := ∃ vs, Vals vs us ∧ SlotRs X.K (D.sp (fixed s.heap H (frs X.stack))) os H sl vs
theorem mapM_get {ρ : Frm} : ∀ {cap : List Nat} {cs : List Ev.D}, cap.mapM (getV ρ) = some cs → cs.length = cap.length ∧ ∀ (i j : Nat), cap[i]? = some j → ∃ d, cs[i]? = some d ∧ ρ[j]? = some (.val d)
  | [], cs, h => by
    have e : cs = [] := by simpa using h.symm
    subst e
    exact ⟨rfl, fun i j e => by simp at e⟩
  | a :: cap, cs, h => by
    rw [List.mapM_cons] at h
    cases e1 : getV ρ a with
    | none => rw [e1] at h; cases h
    | some d =>
      rw [e1] at h
      cases e2 : cap.mapM (getV ρ) with
      | none => rw [e2] at h; cases h
      | some ds =>
        rw [e2] at h
        have h : some (d :: ds) = some cs := h
        cases h
        obtain ⟨e3, e4⟩ := mapM_get e2
        refine ⟨by rw [List.length_cons, List.length_cons, e3], fun i j e => ?_⟩
        cases i with
        | zero =>
          have e' : a = j := by simpa using e
          subst e'
          exact ⟨d, rfl, getV_some e1⟩
        | succ i => exact e4 i j (by simpa using e)
theorem cOpts_get {α β : Type} {f : α → Option β} : ∀ {l : List α} {r : List β}, cOpts f l = some r → r.length = l.length ∧ ∀ (i : Nat) (b : β), r[i]? = some b → ∃ a, l[i]? = some a ∧ f a = some b
  | [], r, h => by
    unfold cOpts at h
    cases h
    exact ⟨rfl, fun i b e => by simp at e⟩
  | a :: l, r, h => by
    unfold cOpts at h
    split at h
    · rename_i b bs h1 h2
      cases h
      obtain ⟨e3, e4⟩ := cOpts_get h2
      refine ⟨by rw [List.length_cons, List.length_cons, e3], fun i c e => ?_⟩
      cases i with
      | zero =>
        have e' : b = c := by simpa using e
        subst e'
        exact ⟨a, rfl, h1⟩
      | succ i => exact e4 i c (by simpa using e)
    · cases h
/-- the captured values -/
theorem caps_rep {p : Pm} {K : PySem.W.Frag} {os : List Addr} {H : Hp} {o : Objs} {σ : L2.St} {ρ : Frm} (A : At p K os H σ ρ o) : ∀ {cap : List Nat} {cs : List Ev.D}, cap.mapM (getV ρ) = some cs → ∃ vs : List V, Reps K os H cs vs ∧ cap.map (NdefX.slotAt σ) = vs.map some
  | [], cs, h => by
    have e : cs = [] := by simpa using h.symm
    subst e
    exact ⟨[], .nil, rfl⟩
  | a :: cap, cs, h => by
    rw [List.mapM_cons] at h
    cases e1 : getV ρ a with
    | none => rw [e1] at h; cases h
    | some d =>
      rw [e1] at h
      cases e2 : cap.mapM (getV ρ) with
      | none => rw [e2] at h; cases h
      | some ds =>
        rw [e2] at h
        have h : some (d :: ds) = some cs := h
        cases h
        obtain ⟨vs, e3, e4⟩ := caps_rep A e2
        obtain ⟨v, e5, e6⟩ := A.env.val a d (getV_some e1)
        refine ⟨v :: vs, .cons e6 e3, ?_⟩
        rw [List.map_cons, List.map_cons, e4, NdefX.slotAt_of e5]
theorem extN_post {T : Tbs} {os : List Addr} {H H1 : Hp} (P : LamX.ExtN H H1) (t : LamX.Tabs T H1) : Post T os H os H1 := by
  refine ⟨⟨[], by simp, by simp⟩, fun b u e _ nt => P b u e nt, fun b n u e => ?_, fun _ => t⟩
  by_cases h : ∃ ps, u = .tbl ps
  · exact h
  · exact n u (P b u e fun ps z => h ⟨ps, z⟩)
end
end Ev

set_option maxHeartbeats 2000000
/-! EvN: arguments, the call of a def. -/
namespace Ev
open PySem PySem.Spec PyProof.Rows L2

section
variable {D : Wd} {k : Nat} {ex : Addr → Str → Prop} {X : Cx} {W : WX} {Γ : Scp}
theorem lamParams_some {a : Arguments} {ps : List Str} (h : lamParams a = some ps) : ∃ args, a = ⟨[], args, none, [], [], none, []⟩ ∧ ps = args.map (·.arg) := by
  unfold lamParams at h
  split at h
  · rename_i args
    cases h
    exact ⟨args, rfl, rfl⟩
  · cases h
theorem OOk.extN {K : PySem.W.Frag} {T : Tbs} {os : List Addr} {H H1 : Hp} {o : Objs} (O : OOk K os H o) (e : LamX.ExtN H H1) (P : Post T os H os H1) : OOk K os H1 o where
  len := O.len
  at_ := fun i so q => by
    obtain ⟨a, e1, e2⟩ := O.at_ i so q
    refine ⟨a, e1, ?_⟩
    cases so with
    | lst ds =>
      obtain ⟨xs, h1, h2⟩ := e2
      exact ⟨xs, e _ _ h1 (fun _ z => by cases z), Reps.post P O ds h2⟩
    | dK kvs =>
      obtain ⟨xs, h1, hk, h2⟩ := e2
      exact ⟨xs, e _ _ h1 (fun _ z => by cases z), hk, Reps.post P O _ h2⟩
    | dT kvs =>
      obtain ⟨xs, h1, hk, h2⟩ := e2
      exact ⟨xs, e _ _ h1 (fun _ z => by cases z), hk, Reps.post P O _ h2⟩
  nd := O.nd
theorem fs_stack {pins : List (Addr × Obj)} {σ : L2.St} {H : Hp} {s : Shared} (I : Inv X pins σ H s) {f : Addr} (h : f ∉ frs X.stack) : f ∉ X.fs := by
  rcases I.ok.stk with e | ⟨e, hf⟩
  · rw [e] at h; exact h
  · intro hm
    refine h ?_
    rw [e]
    unfold frs
    rw [List.filterMap_cons, hf]
    exact List.mem_cons_of_mem _ hm
theorem cE_lamb {n : Nat} {a : Arguments} {b : Expr} {sc : Scope} {q : Pos} {ie : IE} (h : cE n Γ (.Lambda a b sc q) = some ie) : False := by
  cases n with
  | zero => cases h
  | succ n => rcases cE_cases h with h | h <;> cases h
theorem cE_star {n : Nat} {a : Expr} {q : Pos} {ie : IE} (h : cE n Γ (.Starred a q) = some ie) : False := by
  cases n with
  | zero => cases h
  | succ n => rcases cE_cases h with h | h <;> cases h
theorem cE_ns {n : Nat} {e : Expr} {ie : IE} (h : cE n Γ e = some ie) : ∀ x y, e ≠ .Starred x y := fun x y z => by
  subst z
  exact cE_star h
/-- the list's head -/
theorem cAs_val {n : Nat} {e : Expr} {r : List Expr} {ias : IAs} (hl : ∀ a b c d, e ≠ .Lambda a b c d) (h : cAs Γ (cE n Γ) (cE n) (e :: r) = some ias) : ∃ a as, cE n Γ e = some a ∧ cAs Γ (cE n Γ) (cE n) r = some as ∧ ias = .val a as := by
  have key : ∀ (x : Option IE) (y : Option IAs), (match x, y with
      | some a, some as => some (IAs.val a as)
      | _, _ => none) = some ias → ∃ a as, x = some a ∧ y = some as ∧ ias = .val a as := fun x y q => by
    cases x with
    | none => cases q
    | some a =>
      cases y with
      | none => cases q
      | some as =>
        have q : some (IAs.val a as) = some ias := q
        cases q
        exact ⟨a, as, rfl, rfl, rfl⟩
  cases e <;> first
    | exact absurd rfl (hl _ _ _ _)
    | (unfold cAs at h
       exact key _ _ h)
theorem cAs_lam {n : Nat} {a : Arguments} {body : Expr} {scope : Scope} {q : Pos} {r : List Expr} {ias : IAs} (h : cAs Γ (cE n Γ) (cE n) (.Lambda a body scope q :: r) = some ias) : ∃ ps r' b cap N', Γ.lam = true ∧ lamParams a = some ps ∧ cAs Γ (cE n Γ) (cE n) r = some r' ∧
    NdefX.nscB N' ps (freeOf scope) scope = true ∧ NdefX.ndefB Γ.sc scope (freeOf scope) = true ∧ cE n { N := N', sc := scope, muts := [], lam := false, isx := false, objs := false, hot := false, defs := Γ.defs, clss := Γ.clss, dics := Γ.dics, tks := Γ.tks } body = some b ∧ cOpts (fun x => cSlot Γ x) (freeOf scope) = some cap ∧ ias = .lam ps.length N'.length b cap r' := by
  unfold cAs at h
  split at h
  · rename_i ps r' h1 h2 h3
    simp only at h
    split at h
    · cases h
    · rename_i hn
      simp only [Bool.not_eq_true', Bool.not_eq_false, Bool.and_eq_true] at hn
      split at h
      · rename_i b cap h4 h5
        cases h
        exact ⟨ps, r', b, cap, _, h1, h2, h3, hn.1, hn.2, h4, h5, rfl⟩
      · cases h
  · cases h
theorem backTo_cons {posn : Pos} {t : Sem Value} {l : List (Bool × Sem Value)} : backTo posn ((false, t) :: l) = (false, t) :: backTo posn l := rfl
theorem args_ok (g : Good D k ex X W Γ) (n : Nat) (hE : ∀ e ie, cE n Γ e = some ie → PE X e (tE (pmX D k ex X) X.K W ie)) : ∀ (es : List Expr) (ias : IAs), cAs Γ (cE n Γ) (cE n) es = some ias →
    ∀ (posn : Pos) (pins : List (Addr × Obj)) (s : Shared) (σ : L2.St) (H : Hp) (ρ : Frm) (os : List Addr) (o : Objs) (R : List Value → Shared → Prop), Inv X pins σ H s → At (pmX D k ex X) X.K os H σ ρ o →
      Out (pmX D k ex X) X.K W σ os H ((pmX D k ex X).evAs ias ρ o) (fun sl _ os' H' => ∀ s' us, Inv X pins σ H' s' → ArgsR D X os' H' s' sl us → R us s') →
        wpAny (model X.prog X.w) X.A (spliced (backTo posn (starEach es X.env))) R X.xe s
  | [], ias, hc, posn, pins, s, σ, H, ρ, os, o, R, I, A, h => by
    unfold cAs at hc
    cases hc
    exact Calls.spliced_nil (h.ok A.obs s [] I ⟨[], .nil, .nil⟩)
  | e :: es, ias, hc, posn, pins, s, σ, H, ρ, os, o, R, I, A, h => by
    by_cases hl : ∃ a b c d, e = .Lambda a b c d
    · obtain ⟨a, body, scope, lpos, rfl⟩ := hl
      obtain ⟨ps, r', b, cap, N', hlam, hps, hr, hn1, hn2, hb, hcap, rfl⟩ := cAs_lam hc
      obtain ⟨args, rfl, rfl⟩ := lamParams_some hps
      obtain ⟨c, P, TB, hcode, hmT, hu, hfn⟩ := g.lamT hlam
      have h : Out (pmX D k ex X) X.K W σ os H (match cap.mapM (getV ρ) with
        | some cs => ((pmX D k ex X).evAs r' ρ o).bind fun ds o2 => .ok (.clo (args.map (·.arg)).length N'.length b cs :: ds) o2
        | none => .stuck) _ := h
      cases ecs : cap.mapM (getV ρ) with
      | none => rw [ecs] at h; exact h.elim
      | some cs =>
        rw [ecs] at h
        have hfree : ∀ y ∈ scope.names, y.2 = .free → X.env.scope.names.lookup y.1 = some .cell ∨ X.env.scope.names.lookup y.1 = some .free := fun y hy e => by
          rw [g.fit.sc]
          exact NdefX.ndef_free hn2 y hy e
        have hfree' : ∀ y ∈ scope.names, y.2 = .free → ∃ c, X.env.cells.lookup y.1 = some c := fun y hy e => (hfree y hy e).elim (fun z => I.ok.has _ (.inl z)) fun z => I.ok.has _ (.inr z)
        rw [starEach_ne _ (fun x y z => by cases z)]
        rw [backTo_cons]
        refine Calls.spliced_cons (LamX.lam_make2 I TB hcode hmT hu A.tab rfl hfree' fun f c' pm ctv H1 s1 I1 eN T1 ho hf hfr hco => ?_)
        have P1 : Post D.tbs os H os H1 := extN_post eN T1
        have A1 : At (pmX D k ex X) X.K os H1 σ ρ o := A.next P1 (A.obs.extN eN P1)
        obtain ⟨ws, hws, hsl⟩ := caps_rep A ecs
        have I1' : Inv X (pins ++ [(f, kla (X.env.qual ++ "<lambda>") args body scope (cloFrom X.env.cells scope.names []) pm c' ctv)]) σ H1 s1 := by
          refine I1.pins_of fun q hq => ?_
          rcases List.mem_append.mp hq with hq | hq
          · exact I1.pin q (List.mem_append_right _ hq)
          · obtain rfl := List.mem_singleton.mp hq
            refine ⟨ho, hf, fun z => ?_, fs_stack I1 hfr, fun v z => by cases z⟩
            have z : f = X.env.locals := z
            obtain ⟨m, ⟨o', es', ep, ho', hd', _⟩, _⟩ := I1.loc
            rw [z, ho'] at ho
            cases ho
            cases hd'
        refine args_ok g n hE es r' hr posn _ s1 σ H1 ρ os o _ I1' A1 ((h.step P1).bind.mono fun sl o2 os2 H2 _ P2 O2 h2 s2 us I2 ⟨vs, hv, hs⟩ => ?_)
        have pin := I2.pin (f, kla (X.env.qual ++ "<lambda>") args body scope (cloFrom X.env.cells scope.names []) pm c' ctv) (List.mem_append_right _ (List.mem_append_right _ (by simp)))
        have I2' : Inv X pins σ H2 s2 := I2.pins_of fun q hq => I2.pin q (List.mem_append_right _ (List.mem_append_left _ hq))
        refine h2.ok O2 s2 (.ref f :: us) I2' ⟨.ref f :: vs, .cons rfl hv, .cons ⟨f, ws, c', X.env.qual ++ "<lambda>", rfl, ?_, Reps.post (P1.trans P2) A.obs cs hws, codeO_post P2 A1.obs hco⟩ hs⟩
        -- the function and its cells, as they stand
        have caps : NdefX.Caps X (cloFrom X.env.cells scope.names []) (freeOf scope) cap := by
          refine NdefX.Caps.made I2.ok hfree (NdefX.ndef_fr hn2) ?_
          obtain ⟨e1, e2⟩ := cOpts_get hcap
          apply List.ext_getElem?
          intro i
          rw [List.getElem?_map, List.getElem?_map]
          by_cases hi : i < cap.length
          · obtain ⟨x, e3, e4⟩ := e2 i cap[i] (List.getElem?_eq_getElem hi)
            rw [List.getElem?_eq_getElem hi, e3]
            have e5 := (cSlot_some e4).1
            rw [← g.fit.N] at e5
            show some (X.N[cap[i]]?) = some (some x)
            rw [e5]
          · rw [List.getElem?_eq_none (by omega), List.getElem?_eq_none (by omega)]
            rfl
        have C := NdefX.cells_of I2 caps
        rw [hsl] at C
        have cf : ∀ {y : Str} {c : Addr}, (cloFrom X.env.cells scope.names []).lookup y = some c → c ∉ frs X.stack := fun {y c} e hm => by
          have e' := caps.sub y c e
          rcases List.mem_cons.mp (I2.stkSub c hm) with z | z
          · exact I2.cne y c e' z
          · obtain ⟨_, o', ho', _⟩ := I2.ok.funs.mem z
            have z1 := I2.ok.cab y c (hfn y) e'
            exact absurd (Nat.lt_of_lt_of_le (Heap.lt_size ho') z1) (Nat.lt_irrefl _)
        have fx : ∀ {y : Str} {c : Addr} {v : Option Value}, (cloFrom X.env.cells scope.names []).lookup y = some c → s2.heap.IsCell c v → (fixed s2.heap H2 (frs X.stack)).IsCell c v := fun {y c v} e ⟨o', e1, e2⟩ => ⟨o', fixed_get e1 (C.all y c e).1 (cf e), e2⟩
        refine ⟨args, body, scope, cloFrom X.env.cells scope.names [], pm, ctv, { N := N', sc := scope, muts := [], lam := false, isx := false, objs := false, hot := false, defs := Γ.defs, clss := Γ.clss, dics := Γ.dics, tks := Γ.tks }, n, freeOf scope, fixed_get pin.1 pin.2.1 hfr, NdefX.nscope_by hn1, by simp, rfl, ⟨rfl, rfl, rfl, rfl, g.defs, g.clss, g.dics⟩, hb, by simpa using C.len.symm, fun y c e => ?_, C.inj, fun i y e => ?_⟩
        · obtain ⟨v, z⟩ := (C.all y c e).2
          exact ⟨v, fx e z⟩
        · obtain ⟨c, e1, e2⟩ := C.has i y e
          refine ⟨c, e1, fun v ev => ?_⟩
          obtain ⟨u, r, z⟩ := e2 v (by rw [List.getElem?_map, ev]; rfl)
          exact ⟨u, r, fx e1 z⟩
    · obtain ⟨a, as, ha, hr, rfl⟩ := cAs_val (fun a b c d z => hl ⟨a, b, c, d, z⟩) hc
      rw [starEach_ne _ (cE_ns ha)]
      rw [backTo_cons]
      refine Calls.spliced_cons (thn ((hE e a ha).run pins s σ H _ I (tE_of A h fun d o1 os1 H1 v P1 A1 r1 h1 => (⟨d, o1, os1, P1, A1, r1, h1⟩ : ∃ d o1 os1, Post D.tbs os H os1 H1 ∧ At (pmX D k ex X) X.K os1 H1 σ ρ o1 ∧ Rep X.K os1 H1 d v ∧ Out (pmX D k ex X) X.K W σ os1 H1 (((pmX D k ex X).evAs as ρ o1).bind fun ds o2 => .ok (.val d :: ds) o2) _))) ?_)
      rintro u s1 ⟨v, H1, I1, ru, d, o1, os1, P1, A1, r1, h1⟩
      refine args_ok g n hE es as hr posn pins s1 σ H1 ρ os1 o1 _ I1 A1 (h1.bind.mono fun sl o2 os2 H2 _ P2 O2 h2 s2 us I2 ⟨vs, hv, hs⟩ => ?_)
      exact h2.ok O2 s2 (u :: us) I2 ⟨v :: vs, .cons ru hv, .cons (Rep.post P2 A1.obs d r1) hs⟩
/-- f(..), f a def -/
theorem ge_call (g : Good D k ex X W Γ) (hh : Γ.hot = false) (hC : CallsOk D k) (n : Nat) (hE : ∀ e ie, cE n Γ e = some ie → PE X e (tE (pmX D k ex X) X.K W ie)) {f : Str} {pn pos : Pos} {es : List Expr} {ias : IAs} (hg : Gl X f) (hd : (f == ("__debug__" : Str)) = false)
    (hf : f ∈ D.defs) (hc : cAs Γ (cE n Γ) (cE n) es = some ias) (hs : ∀ e ∈ es, ∀ x y, e ≠ .Starred x y) : PE X (.Call (.Name f pn) es [] pos) (tE (pmX D k ex X) X.K W (.call f ias)) := by
  refine ⟨fun pins s σ H Q I ⟨ρ, os, o, A, h⟩ => ?_⟩
  obtain ⟨hm, hk⟩ := g.ok.fn f hf
  rw [← g.mg] at hm
  rw [← g.K] at hk
  have h : Out (pmX D k ex X) X.K W σ os H (((pmX D k ex X).evAs ias ρ o).bind fun sl o1 => callF D.T D.L k f sl o1) _ := h
  have key : wpAny (model X.prog X.w) X.A (spliced (backTo pos (starEach es X.env))) (fun us s1 => X.K.In s1.heap ∧ wpAny (model X.prog X.w) X.A (call (.ref (D.ad f)) us) (EP X pins σ Q) X.xe s1) X.xe s := by
    refine args_ok g n hE es ias hc pos pins s σ H ρ os o _ I A (h.bind.mono fun sl o1 os1 H1 _ P1 O1 h1 s1 us I1 ⟨vs, hv, hs⟩ => ⟨I1.kIn, ?_⟩)
    have A1 := A.next P1 O1
    cases ef : D.T.fn f with
    | none =>
      have z : callF D.T D.L k f sl o1 = .stuck := by
        cases k with
        | zero => rfl
        | succ k =>
          show (match D.T.fn f with | some ir => _ | none => _) = _
          rw [ef]
      rw [z] at h1
      exact h1.elim
    | some ir =>
      refine g.after I1 (hC f ir ef X.A X.stack s1 H1 us vs sl os1 o1 Q W σ (g.room hh) (env0_base g.over g.ok.mod (g.env I1)) hv ?_ ?_ A1.tab ?_)
      · rw [← g.K]; exact hs
      · rw [← g.K]; exact O1
      · rw [← g.K]; exact h1
  refine wpAny_Call_Name_kw (ld_glob I hg hm ?_ hd)
  cases es with
  | nil =>
    unfold cAs at hc
    cases hc
    refine PySem.W.callWith_K0 I.kIn hk ?_
    have z : wpAny (model X.prog X.w) X.A (pure []) (fun us s1 => X.K.In s1.heap ∧ wpAny (model X.prog X.w) X.A (call (.ref (D.ad f)) us) (EP X pins σ Q) X.xe s1) X.xe s := key
    have h1 : Out (pmX D k ex X) X.K W σ os H (callF D.T D.L k f [] o) _ := h
    cases ef : D.T.fn f with
    | none =>
      have z : callF D.T D.L k f [] o = .stuck := by
        cases k with
        | zero => rfl
        | succ k =>
          show (match D.T.fn f with | some ir => _ | none => _) = _
          rw [ef]
      rw [z] at h1
      exact h1.elim
    | some ir =>
      refine g.after I (hC f ir ef X.A X.stack s H [] [] [] os o Q W σ (g.room hh) (env0_base g.over g.ok.mod (g.env I)) .nil .nil ?_ A.tab ?_)
      · rw [← g.K]; exact A.obs
      · rw [← g.K]; exact h1
  | cons e0 es =>
    exact PySem.W.callWith_K (h₀ := X.base) I.ok.mod.kin hk key (starEach_ne _ (hs e0 List.mem_cons_self)) (backTo_ns fun e he => hs e (List.mem_cons_of_mem _ he))
end
end Ev

set_option maxHeartbeats 4000000
/-! EvO: expressions: the code tree's meaning is what the program does. -/
namespace Ev
open PySem PySem.Spec PyProof.Rows L2

section
variable {D : Wd} {k : Nat} {ex : Addr → Str → Prop} {X : Cx} {W : WX} {Γ : Scp} {p : Pm} {K : PySem.W.Frag}
/-! ### isinstance, globals -/
theorem ge_glob (g : Good D k ex X W Γ) {x : Str} {pos : Pos} (hg : Gl X x) (hd : (x == ("__debug__" : Str)) = false) : PE X (.Name x pos) (tE (pmX D k ex X) X.K W (.glob x)) := by
  refine ⟨fun pins s σ H Q I ⟨ρ, os, o, A, h⟩ => ?_⟩
  have h : Out (pmX D k ex X) X.K W σ os H (.ofO (globD D.T.con x) o) _ := h
  obtain ⟨d, e, h1⟩ := h.ofO
  obtain ⟨v, u, e1, r, q⟩ := g.ok.con x d e
  rw [← g.mg] at e1
  exact (pe_glob (pos := pos) hg e1 r hd).run pins s σ H Q I (h1.ok A.obs v (by rw [g.K]; exact q os H))
/-! ### dicts of the module -/
theorem ginD_some {neg : Bool} {x d : Ev.D} {ks vs : List Ev.D} (h : ginD neg x (.dct ks vs) = some d) : ∃ z, x = .str z ∧ d = .bl ((dicAt ks vs z).isSome != neg) := by
  cases x with
  | str z =>
    have h : some (Ev.D.bl ((dicAt ks vs z).isSome != neg)) = some d := h
    cases h
    exact ⟨z, rfl, rfl⟩
  | _ => cases h
theorem gidxD_some {x d : Ev.D} {ks vs : List Ev.D} (h : gidxD x (.dct ks vs) = some d) : ∃ z, x = .str z ∧ dicAt ks vs z = some d := by
  cases x with
  | str z => exact ⟨z, rfl, h⟩
  | _ => cases h
theorem ggetD_some {x y d : Ev.D} {ks vs : List Ev.D} (h : ggetD x y (.dct ks vs) = some d) : ∃ z, x = .str z ∧ d = (dicAt ks vs z).getD y := by
  cases x with
  | str z =>
    have h : some ((dicAt ks vs z).getD y) = some d := h
    cases h
    exact ⟨z, rfl, rfl⟩
  | _ => cases h
theorem DicV.sm {K : PySem.W.Frag} {a : Addr} {ks vs : List Ev.D} {z : Str} (h : DicV K a ks vs z) : ∃ r, PySem.W.nsIn K a z = some r ∧ r.isSome = (dicAt ks vs z).isSome := by
  unfold DicV at h
  cases e : dicAt ks vs z with
  | none =>
    rw [e] at h
    exact ⟨none, h, rfl⟩
  | some d =>
    rw [e] at h
    obtain ⟨u, v, h1, _⟩ := h
    exact ⟨some u, h1, rfl⟩
theorem DicAt.kd (g : Good D k ex X W Γ) {x : Str} {ks vs : List Ev.D} (h : DicAt D x ks vs) : ∃ es n, KDict X.K X.w (D.ad x) es n ∧ ∀ z, DicV X.K (D.ad x) ks vs z := by
  rw [g.K, g.w]
  exact h.ex
theorem rCmpIn {neg : Bool} {x : Str} {ks vs : List Ev.D} {z : Str} {H : Hp} {Q : VK} (hv : DicV X.K (D.ad x) ks vs z) (q : Q (.bl ((dicAt ks vs z).isSome != neg)) H) : ∃ (z' : Str) (r : Option Value), V.str z = .str z' ∧ V.ref (D.ad x) = .ref (D.ad x) ∧ PySem.W.nsIn X.K (D.ad x) z' = some r ∧ Q (.bl (r.isSome != neg)) H := by
  obtain ⟨r, h1, h2⟩ := hv.sm
  exact ⟨z, r, rfl, rfl, h1, by rw [h2]; exact q⟩
theorem im_gin (g : Good D k ex X W Γ) {x : Str} (hx : x ∈ D.dics) {neg : Bool} {a : IE} {σ : L2.St} {H : Hp} {Q : VK} (h : tE (pmX D k ex X) X.K W (.gin neg a x) σ H Q) :
    ∃ ks vs es n, KDict X.K X.w (D.ad x) es n ∧ X.mg x = some (.ref (D.ad x)) ∧ tE (pmX D k ex X) X.K W a σ H fun v H1 => ∃ (z : Str) (r : Option Value), v = .str z ∧ PySem.W.nsIn X.K (D.ad x) z = some r ∧ DicV X.K (D.ad x) ks vs z ∧ Q (.bl (r.isSome != neg)) H1 := by
  obtain ⟨ρ, os, o, A, h⟩ := h
  have h : Out (pmX D k ex X) X.K W σ os H (match D.T.con x with
    | some d => ((pmX D k ex X).evE a ρ o).bind fun x o1 => .ofO (ginD neg x d) o1
    | none => .stuck) _ := h
  split at h
  · rename_i d ed
    obtain ⟨ks, vs, rfl, hd⟩ := g.ok.dic x hx d ed
    obtain ⟨es, n, K1, K2⟩ := hd.kd g
    refine ⟨ks, vs, es, n, K1, by rw [g.mg]; exact hd.mg, ρ, os, o, A, h.bind.mono fun y o1 os1 H1 _ P1 O1 h1 v r1 => ?_⟩
    obtain ⟨d, e, h2⟩ := h1.ofO
    obtain ⟨z, rfl, rfl⟩ := ginD_some e
    have ev : v = .str z := by unfold Rep at r1; exact r1
    obtain ⟨r, e1, e2⟩ := (K2 z).sm
    exact ⟨z, r, ev, e1, K2 z, by rw [e2]; exact h2.ok O1 _ (.mkBl _)⟩
  · exact h.elim
section
variable {ea eb : Expr} {a b : IE} {x : Str} {px apos cpos pos : Pos}
theorem pe_dn (g : Good D k ex X W Γ) {K1 : X.mg x = some (.ref (D.ad x))} (hg : Gl X x) (hd : (x == ("__debug__" : Str)) = false) : PE X (.Name x px) (tC (.ref (D.ad x))) := pe_glob hg K1 rfl hd
theorem ge_gin (g : Good D k ex X W Γ) (hx : x ∈ D.dics) (hg : Gl X x) (hd : (x == ("__debug__" : Str)) = false) (ha : PE X ea (tE (pmX D k ex X) X.K W a)) : PE X (.Compare ea [.In] [.Name x px] pos) (tE (pmX D k ex X) X.K W (.gin false a x)) := by
  refine ⟨fun pins s σ H Q I h => ?_⟩
  obtain ⟨ks, vs, es, n, K1, K2, h⟩ := im_gin g hx h
  refine (pe_cmpR (op_in_kd K1) ha (pe_glob (pos := px) hg K2 (v := .ref (D.ad x)) rfl hd) (by rfl)).run pins s σ H Q I ?_
  obtain ⟨ρ, os, o, A, h⟩ := h
  refine ⟨ρ, os, o, A, h.mono fun d o1 os1 H1 _ P1 O1 h1 v r1 => ?_⟩
  obtain ⟨z, r, e1, e2, _, q⟩ := h1 v r1
  exact ⟨z, r, e1, rfl, e2, by rw [Bool.bne_false] at q; exact q⟩
theorem gt_gin (g : Good D k ex X W Γ) (hx : x ∈ D.dics) (hg : Gl X x) (hd : (x == ("__debug__" : Str)) = false) (ha : PE X ea (tE (pmX D k ex X) X.K W a)) : PT X (.Compare ea [.In] [.Name x px] pos) (tT (pmX D k ex X) X.K W (.gin false a x)) := by
  refine ⟨fun pins s σ H Q I h => ?_⟩
  have h' : tE (pmX D k ex X) X.K W (.gin false a x) σ H fun v H' => ∃ k, v = .bl k ∧ Q k H' := by
    obtain ⟨ρ, os, o, A, h⟩ := h
    refine ⟨ρ, os, o, A, h.mono fun d o1 os1 H1 _ P1 O1 h1 v r1 => ?_⟩
    obtain ⟨k', rfl, q⟩ := h1
    exact ⟨k', by unfold Rep at r1; exact r1, q⟩
  obtain ⟨ks, vs, es, n, K1, K2, h⟩ := im_gin g hx h'
  refine (pt_cmpR (op_in_kd K1) ha (pe_glob (pos := px) hg K2 (v := .ref (D.ad x)) rfl hd) (by rfl)).run pins s σ H Q I ?_
  obtain ⟨ρ, os, o, A, h⟩ := h
  refine ⟨ρ, os, o, A, h.mono fun d o1 os1 H1 _ P1 O1 h1 v r1 => ?_⟩
  obtain ⟨z, r, e1, e2, _, q⟩ := h1 v r1
  exact ⟨z, r, e1, rfl, e2, by rw [Bool.bne_false] at q; exact q⟩
theorem ge_gnin (g : Good D k ex X W Γ) (hx : x ∈ D.dics) (hg : Gl X x) (hd : (x == ("__debug__" : Str)) = false) (ha : PE X ea (tE (pmX D k ex X) X.K W a)) : PE X (.Compare ea [.NotIn] [.Name x px] pos) (tE (pmX D k ex X) X.K W (.gin true a x)) := by
  refine ⟨fun pins s σ H Q I h => ?_⟩
  obtain ⟨ks, vs, es, n, K1, K2, h⟩ := im_gin g hx h
  refine (pe_cmpR (op_notIn_kd K1) ha (pe_glob (pos := px) hg K2 (v := .ref (D.ad x)) rfl hd) (by rfl)).run pins s σ H Q I ?_
  obtain ⟨ρ, os, o, A, h⟩ := h
  refine ⟨ρ, os, o, A, h.mono fun d o1 os1 H1 _ P1 O1 h1 v r1 => ?_⟩
  obtain ⟨z, r, e1, e2, _, q⟩ := h1 v r1
  exact ⟨z, r, e1, rfl, e2, by rw [Bool.bne_true] at q; exact q⟩
theorem gt_gnin (g : Good D k ex X W Γ) (hx : x ∈ D.dics) (hg : Gl X x) (hd : (x == ("__debug__" : Str)) = false) (ha : PE X ea (tE (pmX D k ex X) X.K W a)) : PT X (.Compare ea [.NotIn] [.Name x px] pos) (tT (pmX D k ex X) X.K W (.gin true a x)) := by
  refine ⟨fun pins s σ H Q I h => ?_⟩
  have h' : tE (pmX D k ex X) X.K W (.gin true a x) σ H fun v H' => ∃ k, v = .bl k ∧ Q k H' := by
    obtain ⟨ρ, os, o, A, h⟩ := h
    refine ⟨ρ, os, o, A, h.mono fun d o1 os1 H1 _ P1 O1 h1 v r1 => ?_⟩
    obtain ⟨k', rfl, q⟩ := h1
    exact ⟨k', by unfold Rep at r1; exact r1, q⟩
  obtain ⟨ks, vs, es, n, K1, K2, h⟩ := im_gin g hx h'
  refine (pt_cmpR (op_notIn_kd K1) ha (pe_glob (pos := px) hg K2 (v := .ref (D.ad x)) rfl hd) (by rfl)).run pins s σ H Q I ?_
  obtain ⟨ρ, os, o, A, h⟩ := h
  refine ⟨ρ, os, o, A, h.mono fun d o1 os1 H1 _ P1 O1 h1 v r1 => ?_⟩
  obtain ⟨z, r, e1, e2, _, q⟩ := h1 v r1
  exact ⟨z, r, e1, rfl, e2, by rw [Bool.bne_true] at q; exact q⟩
/-- X[a] -/
theorem ix_kd {d : Addr} {es : Array DictEntry} {n : Nat} (D : KDict X.K X.w d es n) : IxR X (fun x y H Q => ∃ (z : Str) (u0 : Value) (v0 : V), x = .ref d ∧ y = .str z ∧ PySem.W.nsIn X.K d z = some (some u0) ∧ RelV v0 u0 ∧ Q v0 H) := by
  intro value slice pins s σ H x y v u Q I rx ry h hs
  obtain ⟨z, u0, v0, rfl, rfl, e, r, q⟩ := h
  cases rx
  obtain ⟨t, rfl⟩ := ry
  refine tail_any (kd_type D I) PySem.F.slot_dict_getitem.lookup ?_ hs
  exact wpAny_getItem_of (PySem.strKind_is X.prog X.w z t) (PySem.W.mapOf_K (prog := X.prog) I.kIn D.at_ D.lit) (PySem.W.find_K D.at_ e) ⟨v0, H, I.tok _, r, q⟩
theorem ge_gidx (g : Good D k ex X W Γ) (hx : x ∈ D.dics) (hg : Gl X x) (hd : (x == ("__debug__" : Str)) = false) (ha : PE X ea (tE (pmX D k ex X) X.K W a)) (hs : ∀ a b c d, ea ≠ .Slice a b c d) : PE X (.Subscript (.Name x px) ea pos) (tE (pmX D k ex X) X.K W (.gidx x a)) := by
  refine ⟨fun pins s σ H Q I ⟨ρ, os, o, A, h⟩ => ?_⟩
  have h : Out (pmX D k ex X) X.K W σ os H (match D.T.con x with
    | some d => ((pmX D k ex X).evE a ρ o).bind fun x o1 => .ofO (gidxD x d) o1
    | none => .stuck) _ := h
  split at h
  · rename_i d ed
    obtain ⟨ks, vs, rfl, hdd⟩ := g.ok.dic x hx d ed
    obtain ⟨es, n, K1, K2⟩ := hdd.kd g
    refine (pe_ix (ix_kd K1) (pe_glob (pos := px) hg (by rw [g.mg]; exact hdd.mg) (v := .ref (D.ad x)) rfl hd) ha (plainIx hs)).run pins s σ H Q I ?_
    refine ⟨ρ, os, o, A, h.bind.mono fun y o1 os1 H1 _ P1 O1 h1 v r1 => ?_⟩
    obtain ⟨d, e, h2⟩ := h1.ofO
    obtain ⟨z, rfl, e2⟩ := gidxD_some e
    have ev : v = .str z := by unfold Rep at r1; exact r1
    have hv := K2 z
    unfold DicV at hv
    rw [e2] at hv
    obtain ⟨u0, v0, e3, e4, e5⟩ := hv
    exact ⟨z, u0, v0, rfl, ev, e3, e4, h2.ok O1 v0 (e5 os1 H1)⟩
  · exact h.elim
/-- X.get(a, b) -/
theorem mt_kget {d : Addr} {es : Array DictEntry} {n : Nat} (D : KDict X.K X.w d es n) : MtR X "dict.get" (fun x vs H Q => ∃ (z : Str) (y : V) (r : Option Value), x = .ref d ∧ vs = [.str z, y] ∧ PySem.W.nsIn X.K d z = some r ∧ match r with
    | some u0 => ∃ v0, RelV v0 u0 ∧ Q v0 H
    | none => Q y H) := by
  intro pins s σ H x vs v us Q I rx rv h
  obtain ⟨z, y, r, rfl, rfl, e, q⟩ := h
  cases rx
  cases rv with
  | cons r1 rv =>
    obtain ⟨w, rfl, r2⟩ := Vals.one rv
    obtain ⟨t, rfl⟩ := r1
    have mo := PySem.W.mapOf_K (prog := X.prog) (w := X.w) I.kIn D.at_ D.lit
    refine call_meetsIn PySem.F.slot_dict_get (kd_type D I) PySem.F.entry_dict_get (PySem.F.args_dict_get_3 _ _ _) (meets_dict_get_default (PySem.strKind X.prog X.w) d (PySem.strKind_is X.prog X.w z t) D.low w) ⟨_, mo, ?_⟩
    rw [PySem.W.find_K D.at_ e]
    cases r with
    | some u0 =>
      obtain ⟨v0, r3, q⟩ := q
      exact ⟨v0, H, I.tok _, r3, q⟩
    | none => exact ⟨y, H, I.tok _, r2, q⟩
theorem ge_gget (g : Good D k ex X W Γ) (hx : x ∈ D.dics) (hg : Gl X x) (hd : (x == ("__debug__" : Str)) = false) (ha : PE X ea (tE (pmX D k ex X) X.K W a)) (hb : PE X eb (tE (pmX D k ex X) X.K W b)) (hsa : ∀ x y, ea ≠ .Starred x y) (hsb : ∀ x y, eb ≠ .Starred x y) (hl : (apos.endLine == cpos.line) = true) :
    PE X (.Call (.Attribute (.Name x px) "get" apos) [ea, eb] [] cpos) (tE (pmX D k ex X) X.K W (.gget x a b)) := by
  refine ⟨fun pins s σ H Q I ⟨ρ, os, o, A, h⟩ => ?_⟩
  have h : Out (pmX D k ex X) X.K W σ os H (match D.T.con x with
    | some d => ((pmX D k ex X).evE a ρ o).bind fun x o1 => ((pmX D k ex X).evE b ρ o1).bind fun y o2 => .ofO (ggetD x y d) o2
    | none => .stuck) _ := h
  split at h
  · rename_i d ed
    obtain ⟨ks, vs, rfl, hdd⟩ := g.ok.dic x hx d ed
    obtain ⟨es, n, K1, K2⟩ := hdd.kd g
    have hA : PA X [ea, eb] (tCons (tE (pmX D k ex X) X.K W a) (tCons (tE (pmX D k ex X) X.K W b) tNil)) := pa_cons ha (pa_cons hb pa_nil (starEach_ne _ hsb)) (starEach_ne _ hsa)
    have s1 : starEach [ea, eb] X.env = (false, eval ea X.env) :: starEach [eb] X.env := starEach_ne _ hsa
    have s2 : starEach [eb] X.env = (false, eval eb X.env) :: starEach [] X.env := starEach_ne _ hsb
    refine wpAny_Call_method_late (by rfl) (by rw [s1, s2]; rfl) hl rfl (thn ((pe_glob (pos := px) hg (by rw [g.mg]; exact hdd.mg) (v := .ref (D.ad x)) rfl hd).run pins s σ H (fun v H1 => v = .ref (D.ad x) ∧ H1 = H) I ⟨rfl, rfl⟩) fun v s1' ⟨vx, H1, I1, r1, e1, e2⟩ => ?_)
    subst e1 e2
    cases r1
    refine ⟨"dict", "dict.get", PySem.F.plainAttrs_dict, PySem.F.slot_dict_get, PySem.F.type_dict_get, kd_type K1 I1, fun b hb => ?_, ?_⟩
    · cases hb
      exact ⟨_, I1.kIn _ _ K1.at_, rfl⟩
    · have hA' := hA.run cpos pins s1' σ H1 (fun vs H2 => ∃ (z : Str) (y : V) (r : Option Value), vs = [.str z, y] ∧ PySem.W.nsIn X.K (D.ad x) z = some r ∧ match r with
        | some u0 => ∃ v0, RelV v0 u0 ∧ Q v0 H2
        | none => Q y H2) I1 ⟨ρ, os, o, A, h.bind.mono fun y o1 os1 H2 _ P1 O1 h1 v r1 => ⟨ρ, os1, o1, A.next P1 O1, h1.bind.mono fun y2 o2 os2 H3 _ P2 O2 h2 v2 r2 => ?_⟩⟩
      · rw [s1] at hA' ⊢
        refine Calls.callWith_builtin (by rw [s2]; rfl) (Calls.evalArgs_plain ?_)
        refine thn hA' fun us s2' ⟨vs', H2, I2, rv, z, y, r, ev, e1, q⟩ => ?_
        exact mt_kget K1 pins s2' σ H2 (.ref (D.ad x)) vs' (.ref (D.ad x)) us Q I2 rfl rv ⟨z, y, r, rfl, ev, e1, q⟩
      · obtain ⟨d, e, h3⟩ := h2.ofO
        obtain ⟨z, rfl, rfl⟩ := ggetD_some e
        have r1' := Rep.post P2 O1 _ r1
        have ev : v = .str z := by unfold Rep at r1'; exact r1'
        have hv := K2 z
        unfold DicV at hv
        cases e2 : dicAt ks vs z with
        | some d0 =>
          rw [e2] at hv h3
          obtain ⟨u0, v0, e3, e4, e5⟩ := hv
          exact ⟨z, v2, some u0, by rw [ev], e3, v0, e4, h3.ok O2 v0 (e5 os2 H3)⟩
        | none =>
          rw [e2] at hv h3
          exact ⟨z, v2, none, by rw [ev], hv, h3.ok O2 v2 r2⟩
  · exact h.elim
end
/-- a[::-1] -/
theorem Reps.rev {os : List Addr} {H : Hp} : ∀ {ds : List Ev.D} {xs : List V}, Reps K os H ds xs → Reps K os H ds.reverse xs.reverse
  | [], xs, h => by rw [h.inv0]; exact .nil
  | d :: ds, xs, h => by
    obtain ⟨x, r, rfl, h1, h2⟩ := h.inv
    rw [List.reverse_cons, List.reverse_cons]
    exact (Reps.rev h2).append (.cons h1 .nil)
theorem gm_rev {ea : Expr} {a : IE} {kk : Nat} {p1 p2 p3 pos : Pos} (ha : PE X ea (tB p X.K W a)) : PE X (.Subscript ea (.Slice none none (some (.UnaryOp .USub (.Constant (.int 1) kk p1) p2)) p3) pos) (tM p X.K W (.rev a)) :=
  pe_imp (pe_revL ha) fun σ H Q ⟨ρ, os, o, A, h⟩ => tB_of A h fun x o1 os1 H1 vx P1 A1 r1 h1 => by
    cases x with
    | lst ds =>
      obtain ⟨q, xs, e1, e2, e3⟩ := r1.lst
      exact ⟨q, xs, e1, e2, fun z hz => h1.ok A1.obs _ _ (.lst hz e3.rev)⟩
    | _ => exact h1.elim
theorem TyX_of {K : PySem.W.Frag} {os : List Addr} {H : Hp} {d : Ev.D} {v : V} {ty : String} {b : Bool} (h : RepB K os H d v) (e : isiD d ty = some b) : ∃ t, TyX K H v (.type t) ∧ kitB t ty = some b := by
  cases d with
  | non => rw [h.non]; exact ⟨_, .base .non, e⟩
  | bl x => rw [h.bl]; exact ⟨_, .base (.bl x), e⟩
  | int x => rw [h.int]; exact ⟨_, .base (.int x), e⟩
  | str x => rw [h.str]; exact ⟨_, .base (.str x), e⟩
  | tup ds =>
    obtain ⟨a, xs, rfl, h1, _⟩ := h.tup
    rcases h1 with (h1 | ⟨ob, h1⟩) | ⟨ob, its, n, h1, h2, _⟩
    · exact ⟨_, .base (.tup h1), e⟩
    · exact ⟨_, .fTuple h1, e⟩
    · exact ⟨_, .kTuple h1 h2, e⟩
  | kt ds =>
    obtain ⟨a, xs, rfl, h1, _⟩ := h.kt
    rcases h1 with (h1 | ⟨ob, h1⟩) | ⟨ob, its, n, h1, h2, _⟩
    · exact ⟨_, .base (.tup h1), e⟩
    · exact ⟨_, .fTuple h1, e⟩
    · exact ⟨_, .kTuple h1 h2, e⟩
  | lst ds =>
    obtain ⟨a, xs, rfl, h1, _⟩ := h.lstR
    rcases h1 with h1 | ⟨ob, h1⟩
    · exact ⟨_, .base (.lst h1), e⟩
    · exact ⟨_, .base (.frz h1), e⟩
  | dct ks vs =>
    have q := h.of_ne (fun _ e => nomatch e)
    unfold Rep at q
    obtain ⟨_, _, a, ob, rfl, h1⟩ := q
    exact ⟨_, .fDict h1, e⟩
  | obj i => cases e
theorem tyOf_boot {x : Str} {ty : String} (h : tyOf x = some ty) : bootBuiltins x = some (.type ty) ∧ x ≠ "__name__" ∧ x ∈ builtins := by
  unfold tyOf at h
  split at h
  · rename_i e; subst e; cases h; exact ⟨rfl, by decide, by decide⟩
  · split at h
    · rename_i e; subst e; cases h; exact ⟨rfl, by decide, by decide⟩
    · split at h
      · rename_i e; subst e; cases h; exact ⟨rfl, by decide, by decide⟩
      · split at h
        · rename_i e; subst e; cases h; exact ⟨rfl, by decide, by decide⟩
        · split at h
          · rename_i e; subst e; cases h; exact ⟨rfl, by decide, by decide⟩
          · split at h
            · rename_i e; subst e; cases h; exact ⟨rfl, by decide, by decide⟩
            · cases h
theorem ge_isi (F : Fits X Γ) {ea : Expr} {a : IE} {c : Str} {ty : String} {pn pc pos : Pos} (hg : Gl X "isinstance") (hc : Gl X c) (ht : tyOf c = some ty) (hd : (c == ("__debug__" : Str)) = false) (ha : PE X ea (tB p X.K W a)) (hs : ∀ x y, ea ≠ .Starred x y) :
    PE X (.Call (.Name "isinstance" pn) [ea, .Name c pc] [] pos) (tE p X.K W (.isi a ty)) := by
  obtain ⟨h1, h2, h3⟩ := tyOf_boot ht
  have hm := F.blt _ h3
  have hm2 := F.blt "isinstance" (by decide)
  have pn' : PE X (.Name c pc) (tC (.ty ty)) := pe_bltn hc hm h1 rfl h2 hd
  refine pe_imp (pe_callB (id := "isinstance") call_isi hg hm2 (by rfl) (pa_cons ha (pa_cons pn' pa_nil (by rfl)) (starEach_ne _ hs)) (by decide) (by decide) (starEach_ne _ hs) (by rfl)) fun σ H Q ⟨ρ, os, o, A, h⟩ => tB_of A h fun x o1 os1 H1 vx P1 A1 r1 q1 => ?_
  obtain ⟨d, e, q2⟩ := q1.ofO
  obtain ⟨b, e1, rfl⟩ := Option.map_eq_some_iff.mp e
  obtain ⟨t, t1, t2⟩ := TyX_of r1 e1
  exact ⟨vx, .ty ty, .type t, .type ty, b, rfl, .ty ty, t1, kit_ty t2, q2.ok A1.obs _ (.mkBl b)⟩
theorem ge_isx (g : Good D k ex X W Γ) (hx : Γ.isx = true) {i : Nat} {x c : Str} {pn px pc pos : Pos} (hg : Gl X "isinstance") (hN : X.N[i]? = some x) (hv : Vis X.env.scope x) (hd : (x == ("__debug__" : Str)) = false) (hcd : (x == ("__classdict__" : Str)) = false)
    (hc : Gl X c) (hcl : c ∈ D.clss ∨ c = "ValueError") (hok : okName c = true) : PE X (.Call (.Name "isinstance" pn) [.Name x px, .Name c pc] [] pos) (tE (pmX D k ex X) X.K W (.isx i c)) := by
  refine ⟨fun pins s σ H Q I ⟨ρ, os, o, A, h⟩ => ?_⟩
  have h : Out (pmX D k ex X) X.K W σ os H (match ρ[i]? with
    | some (.exc c' _) => Res.ok (Ev.D.bl (D.T.isa c' c)) o
    | _ => Res.stuck) _ := h
  split at h
  · rename_i c' xs e
    obtain ⟨a, e1, e2⟩ := A.env.exc i c' xs e
    obtain ⟨v, pv, hr⟩ := g.isx hx a c' c e2 hcl hc hok
    have hm2 := g.fit.blt "isinstance" (by decide)
    refine (pe_callB (id := "isinstance") (pos := pos) (p := pn) hr hg hm2 (by rfl) (pa_cons (pe_var (pos := px) hN hv hd hcd) (pa_cons (pv pc) pa_nil (by rfl)) (by rfl)) (by decide) (by decide) (by rfl) (by rfl)).run pins s σ H Q I ?_
    exact ⟨.ref a, e1, rfl, h.ok A.obs _ (.mkBl _)⟩
  · exact h.elim
/-! ### compile's lists -/
theorem cEs_nil {f : Expr → Option IE} {as : IEs} (h : cEs f [] = some as) : as = .nil := by unfold cEs at h; cases h; rfl
theorem cEs_cons {f : Expr → Option IE} {e : Expr} {r : List Expr} {as : IEs} (h : cEs f (e :: r) = some as) : ∃ a as', f e = some a ∧ cEs f r = some as' ∧ as = .cons a as' := by
  unfold cEs at h
  split at h
  · rename_i a as' h1 h2
    cases h
    exact ⟨a, as', h1, h2, rfl⟩
  · cases h
theorem cEs_val {f : Expr → Option IE} (hf : ∀ e a, f e = some a → PE X e (tE p X.K W a) ∧ ∀ x y, e ≠ .Starred x y) : ∀ {es : List Expr} {as : IEs}, cEs f es = some as → PA X es (tVs p X.K W as) ∧ ∀ e ∈ es, ∀ x y, e ≠ .Starred x y
  | [], as, h => by
    rw [cEs_nil h]
    exact ⟨ga_nil, fun e he => absurd he (by simp)⟩
  | e :: r, as, h => by
    obtain ⟨a, as', h1, h2, rfl⟩ := cEs_cons h
    obtain ⟨q1, q2⟩ := hf e a h1
    obtain ⟨q3, q4⟩ := cEs_val hf h2
    exact ⟨ga_cons q1 q3 q2, fun e' he => (List.mem_cons.mp he).elim (fun z => by rw [z]; exact q2) (q4 e')⟩
theorem cEs_bor {f : Expr → Option IE} (hf : ∀ e a, f e = some a → PE X e (tB p X.K W a) ∧ ∀ x y, e ≠ .Starred x y) : ∀ {es : List Expr} {as : IEs}, cEs f es = some as → PA X es (tBs p X.K W as) ∧ ∀ e ∈ es, ∀ x y, e ≠ .Starred x y
  | [], as, h => by
    rw [cEs_nil h]
    exact ⟨gb_nil, fun e he => absurd he (by simp)⟩
  | e :: r, as, h => by
    obtain ⟨a, as', h1, h2, rfl⟩ := cEs_cons h
    obtain ⟨q1, q2⟩ := hf e a h1
    obtain ⟨q3, q4⟩ := cEs_bor hf h2
    exact ⟨gb_cons q1 q3 q2, fun e' he => (List.mem_cons.mp he).elim (fun z => by rw [z]; exact q2) (q4 e')⟩
/-- what is said of an expression -/
structure Snd (p : Pm) (W : WX) (X : Cx) (e : Expr) (ie : IE) : Prop where
  val' : PE X e (tE p X.K W ie)
  new' : isNew ie = true → PE X e (tM p X.K W ie)
  test : PT X e (tT p X.K W ie)
/-- the test is the value's truth -/
def plainT (e : Expr) : Prop := ∀ env whole, isTrue e env whole = (do let v ← whole; standAt e.pos; holding [v] (truthy v))
theorem Snd.val {e : Expr} {ie : IE} (h : PE X e (tE p X.K W ie)) (n : isNew ie = false) (he : plainT e) : Snd p W X e ie := ⟨h, fun z => (by rw [n] at z; cases z), pt_plain h (he X.env)⟩
theorem Snd.new {e : Expr} {ie : IE} (h : PE X e (tM p X.K W ie)) (he : plainT e) : Snd p W X e ie := ⟨pe_M h, fun _ => h, pt_plain (pe_M h) (he X.env)⟩
/-- a borrowed operand -/
theorem cB_ok (F : Fits X Γ) {f : Expr → Option IE} (hf : ∀ e a, f e = some a → PE X e (tE p X.K W a) ∧ ∀ x y, e ≠ .Starred x y) {e : Expr} {a : IE} (h : cB Γ f e = some a) : PE X e (tB p X.K W a) ∧ ∀ x y, e ≠ .Starred x y := by
  unfold cB at h
  split at h
  · split at h
    · rename_i i e1
      cases h
      obtain ⟨h1, h2, h3⟩ := cSlot_some e1
      obtain ⟨d1, d2, _⟩ := okName_d h3
      exact ⟨ge_bor (by rw [F.N]; exact h1) (by rw [F.sc]; exact h2) d1 d2, fun x y z => by cases z⟩
    · obtain ⟨q1, q2⟩ := hf _ _ h
      exact ⟨pe_B q1, q2⟩
  · obtain ⟨q1, q2⟩ := hf _ _ h
    exact ⟨pe_B q1, q2⟩
end
end Ev

set_option maxHeartbeats 4000000
/-! EvP: expressions, all of them. -/
namespace Ev
open PySem PySem.Spec PyProof.Rows L2

section
variable {D : Wd} {k : Nat} {ex : Addr → Str → Prop} {X : Cx} {W : WX} {Γ : Scp} {p : Pm}
theorem cBool_and {f : Expr → Option IE} (hf : ∀ e a, f e = some a → Snd p W X e a) {pos : Pos} : ∀ {vs : List Expr} {ie : IE}, cBool .and f vs = some ie → Snd p W X (.BoolOp .And vs pos) ie ∧ PW X (.BoolOp .And vs pos) (tT p X.K W ie)
  | [], ie, h => by unfold cBool at h; cases h
  | [e], ie, h => by
    unfold cBool at h
    have s := hf e ie h
    exact ⟨⟨pe_one s.val', fun z => pe_one (s.new' z), (pw_and1 s.test).pt⟩, pw_and1 s.test⟩
  | e :: e2 :: r, ie, h => by
    unfold cBool at h
    split at h
    · rename_i a b h1 h2
      cases h
      have s := hf e a h1
      obtain ⟨s2, w2⟩ := cBool_and hf (pos := pos) h2
      have w := gw_and (pos := pos) s.test w2
      exact ⟨⟨ge_and s.val' s2.val', fun z => (by cases z), w.pt⟩, w⟩
    · cases h
theorem cBool_or {f : Expr → Option IE} (hf : ∀ e a, f e = some a → Snd p W X e a) {pos : Pos} : ∀ {vs : List Expr} {ie : IE}, cBool .or f vs = some ie → Snd p W X (.BoolOp .Or vs pos) ie ∧ PW X (.BoolOp .Or vs pos) (tT p X.K W ie)
  | [], ie, h => by unfold cBool at h; cases h
  | [e], ie, h => by
    unfold cBool at h
    have s := hf e ie h
    exact ⟨⟨pe_one s.val', fun z => pe_one (s.new' z), (pw_or1 s.test).pt⟩, pw_or1 s.test⟩
  | e :: e2 :: r, ie, h => by
    unfold cBool at h
    split at h
    · rename_i a b h1 h2
      cases h
      have s := hf e a h1
      obtain ⟨s2, w2⟩ := cBool_or hf (pos := pos) h2
      have w := gw_or (pos := pos) s.test w2
      exact ⟨⟨ge_or s.val' s2.val', fun z => (by cases z), w.pt⟩, w⟩
    · cases h
theorem cOpt_ok {f : Expr → Option IE} (hf : ∀ e a, f e = some a → PE X e (tE p X.K W a)) {e : Option Expr} {l : IEo} (h : cOpt f e = some l) : PO X e (tO p X.K W l) := by
  cases e with
  | none => unfold cOpt at h; cases h; exact go_none
  | some e =>
    unfold cOpt at h
    obtain ⟨a, e1, rfl⟩ := Option.map_eq_some_iff.mp h
    exact go_some (hf e a e1)
theorem tX_t {e : Expr} {a : IE} (h : PE X e (tB p X.K W a)) : PE X e (tX true p X.K W a) := h
theorem tX_f {m : Bool} {e : Expr} {a : IE} (h : PE X e (tE p X.K W a)) : PE X e (tX m p X.K W a) := by
  cases m with
  | true => exact pe_B h
  | false => exact h
theorem cBb_ok (F : Fits X Γ) {br : Bool} {f : Expr → Option IE} (hf : ∀ e a, f e = some a → PE X e (tE p X.K W a) ∧ ∀ x y, e ≠ .Starred x y) {e : Expr} {a : IE} (h : cBb br Γ f e = some a) : PE X e (tX br p X.K W a) ∧ ∀ x y, e ≠ .Starred x y := by
  unfold cBb at h
  split at h
  · rename_i hb
    subst hb
    exact cB_ok F hf h
  · obtain ⟨q1, q2⟩ := hf _ _ h
    exact ⟨tX_f q1, q2⟩
theorem isTupE_tup {e : Expr} (h : isTupE e = true) : ∃ es k pos, e = .Tuple es k pos := by
  cases e <;> first
    | exact ⟨_, _, _, rfl⟩
    | cases h
theorem cSrc_ok (F : Fits X Γ) {br : Bool} {f : Expr → Option IE} (hf : ∀ e a, f e = some a → PE X e (tE p X.K W a) ∧ ∀ x y, e ≠ .Starred x y) {tg iter : Expr} {s : ISrc} (h : cSrc Γ br f (isTupE tg) iter = some s) : PI X tg iter (tS br p X.K W s) := by
  have seq : ∀ {e : Expr} {s : ISrc}, (f e).map ISrc.seq = some s → PI X tg e (tS br p X.K W s) := fun {e s} h => by
    obtain ⟨a, e1, rfl⟩ := Option.map_eq_some_iff.mp h
    exact gs_seq (tX_f (hf e a e1).1)
  unfold cSrc at h
  split at h
  · rename_i g pn args pos
    split at h
    · rename_i hg
      rw [Bool.and_eq_true] at hg
      have gl := isGl_gl F hg.1
      split at h
      · rename_i e1
        subst e1
        have hm := F.blt "range" (by decide)
        split at h
        · obtain ⟨a, e1, rfl⟩ := Option.map_eq_some_iff.mp h
          obtain ⟨q1, q2⟩ := hf _ _ e1
          exact gs_range1 gl hm q1 q2
        · split at h
          · rename_i x y h1 h2
            cases h
            obtain ⟨q1, q2⟩ := hf _ _ h1
            obtain ⟨q3, q4⟩ := hf _ _ h2
            exact gs_range2 gl hm q1 q3 q2 q4
          · cases h
        · cases h
      · split at h
        · rename_i e1
          subst e1
          have hm := F.blt "zip" (by decide)
          split at h
          · rename_i ht
            obtain ⟨es, kk, tp, rfl⟩ := isTupE_tup ht
            split at h
            · rename_i x y h1 h2
              cases h
              obtain ⟨q1, q2⟩ := cBb_ok F hf h1
              obtain ⟨q3, q4⟩ := cBb_ok F hf h2
              exact gs_zip gl hm q1 q3 q2 q4
            · cases h
          · cases h
        · split at h
          · rename_i e1
            subst e1
            have hm := F.blt "enumerate" (by decide)
            split at h
            · rename_i ht
              obtain ⟨es, kk, tp, rfl⟩ := isTupE_tup ht
              obtain ⟨a, e1, rfl⟩ := Option.map_eq_some_iff.mp h
              obtain ⟨q1, q2⟩ := cBb_ok F hf e1
              exact gs_enum gl hm q1 q2
            · cases h
          · exact seq h
    · exact seq h
  · obtain ⟨a, e1, rfl⟩ := Option.map_eq_some_iff.mp h
    exact gs_seq (cBb_ok F hf e1).1
theorem fsi_plain {iter : Expr} (h : ∀ a b c, iter ≠ .Set a b c) (env : Env) : ∀ x, foldedSetIterable iter env x = pure x := by
  intro x
  cases iter <;> first
    | exact absurd rfl (h _ _ _)
    | rfl
theorem cE_set {n : Nat} {a b c} {ie : IE} (h : cE n Γ (.Set a b c) = some ie) : False := by
  cases n with
  | zero => cases h
  | succ n => rcases cE_cases h with h | h <;> cases h
theorem cSrc_set {n : Nat} {br : Bool} {t : Bool} {iter : Expr} {s : ISrc} (h : cSrc Γ br (cE n Γ) t iter = some s) : ∀ a b c, iter ≠ .Set a b c := fun a b c z => by
  subst z
  unfold cSrc at h
  obtain ⟨a, e1, _⟩ := Option.map_eq_some_iff.mp h
  unfold cBb at e1
  split at e1
  · unfold cB at e1
    exact cE_set e1
  · exact cE_set e1
theorem ite_some {c : Prop} [Decidable c] {b b' : Bif} {r : Option Bif} (h : (if c then some b' else r) = some b) : (c ∧ b' = b) ∨ r = some b := by
  by_cases hc : c
  · rw [if_pos hc] at h
    exact .inl ⟨hc, Option.some.inj h⟩
  · rw [if_neg hc] at h
    exact .inr h
theorem bifOf_n {x : Str} {n : Nat} {b : Bif} (h : bifOf x n = some b) : x = bifN b ∧ n ≠ 0 := by
  unfold bifOf at h
  iterate 14 (rcases ite_some h with ⟨e, rfl⟩ | h; · exact ⟨e.1, fun z => by rw [z] at e; exact absurd e.2 (by decide)⟩)
  cases h
theorem bifN_in (b : Bif) : bifN b ∈ builtins := by cases b <;> decide
/-- within a comprehension -/
theorem Good.blk (g : Good D k ex X W Γ) (hh : Γ.hot = false) (scope : Scope) (hk : scope.kind = .function) (s : Shared) (H : Hp) (C : Addr) (cl : List (Str × Addr)) (fp : List Addr) :
    Good D k ex (X.blk s H scope (compEnvC scope cl C X.env) fp) WF { Γ with sc := L2.relS scope Γ.sc, lam := false, isx := false, muts := [] } where
  fit := ⟨g.fit.N, g.fit.nd, hk, by show L2.relS scope X.env.scope = _; rw [g.fit.sc], g.fit.un, g.fit.calm, fun z => (by
    have z : Γ.hot = true := z
    rw [hh] at z
    cases z), g.fit.blt⟩
  ok := g.ok
  prog := g.prog
  w := g.w
  K := g.K
  mg := g.mg
  over := g.over
  tk := fun u s' ⟨_, _, _, _, _, _, _, _, _, _, _, _, _, _, _, _, z⟩ => z.elim
  room := g.room
  defs := g.defs
  clss := g.clss
  dics := g.dics
  lamT := fun z => by cases z
  isx := fun z => by cases z
theorem Good.blkH (g : Good D k ex X W Γ) {p : Addr × Obj} (h1 : L2H.Hot1 X.A p) (scope : Scope) (hk : scope.kind = .function) (s : Shared) (H : Hp) (C : Addr) (cl : List (Str × Addr)) (fp : List Addr) :
    Good D k ex (blkH X p s H scope (compEnvC scope cl C X.env) fp) WF { Γ with sc := L2.relS scope Γ.sc, lam := false, isx := false, muts := [] } where
  fit := ⟨g.fit.N, g.fit.nd, hk, by show L2.relS scope X.env.scope = _; rw [g.fit.sc], g.fit.un, g.fit.calm, fun _ => ⟨p, h1, List.mem_singleton_self p⟩, g.fit.blt⟩
  ok := g.ok
  prog := g.prog
  w := g.w
  K := g.K
  mg := g.mg
  over := g.over
  tk := fun u s' ⟨_, _, _, _, _, _, _, _, _, _, _, _, _, _, _, _, z⟩ => z.elim
  room := g.room
  defs := g.defs
  clss := g.clss
  dics := g.dics
  lamT := fun z => by cases z
  isx := fun z => by cases z
theorem cSrcH_ok (F : Fits X Γ) {f : Expr → Option IE} (hf : ∀ e a, f e = some a → PE X e (tE p X.K W a) ∧ ∀ x y, e ≠ .Starred x y) {tg iter : Expr} {s : ISrc} (hn : isNameE iter = true) (h : cSrc Γ true f (isTupE tg) iter = some s) : L2H.PIH X tg iter (tS true p X.K W s) := by
  cases iter <;> first
    | cases hn
    | skip
  unfold cSrc at h
  obtain ⟨a, e1, rfl⟩ := Option.map_eq_some_iff.mp h
  exact gs_seqH (cBb_ok F hf e1).1
/-- what a block stores -/
theorem sto_own (g : Good D k ex X W Γ) {scope : Scope} (ok : BlkOk X.N X.env.scope scope (ownOf Γ.N scope)) {s : Shared} {H : Hp} {C : Addr} {cl : List (Str × Addr)} {fp : List Addr} {i : Nat} (hi : i ∈ (ownOf Γ.N scope).map (·.2)) :
    Sto (X.blk s H scope (compEnvC scope cl C X.env) fp) { Γ with sc := L2.relS scope Γ.sc, lam := false, isx := false, muts := [] } i := fun x hx hl => by
  obtain ⟨q, hq, rfl⟩ := List.mem_map.mp hi
  have e1 := ok.ix q hq
  rw [g.fit.N] at e1
  have hx : Γ.N[q.2]? = some x := hx
  rw [hx] at e1
  obtain ⟨y, hy, ey⟩ := List.mem_filterMap.mp hq
  have u := ok.uniq y hy
  have ex : x = q.1 := Option.some.inj e1
  split at ey
  · rename_i ek
    obtain ⟨j, _, rfl⟩ := Option.map_eq_some_iff.mp ey
    rw [ek] at u
    right
    have z := lookup_relS_keep (sc := X.env.scope) (by decide) u
    rw [ex]
    exact z
  · rename_i ek
    obtain ⟨j, _, rfl⟩ := Option.map_eq_some_iff.mp ey
    rw [ek] at u
    left
    show (scope.names.lookup x == some NameKind.cell) = true
    rw [ex, u]
    rfl
  · cases ey
theorem cIfs_ok {f : Expr → Option IE} {Y : Cx} (hf : ∀ e a, f e = some a → PT Y e (tT p Y.K WF a)) {ifs : List Expr} {c : IEo} (h : cIfs f ifs = some c) : PTs Y ifs (tCd p Y.K WF c) := by
  unfold cIfs at h
  split at h
  · cases h; exact gd_none
  · obtain ⟨a, e1, rfl⟩ := Option.map_eq_some_iff.mp h
    exact gd_some (hf _ _ e1)
  · cases h
theorem behind_ok {n : Nat} {op : CmpOp} {e : Expr} {a : IE} (h : cB Γ (cE n Γ) e = some a) : behindInMarks op e = false := by
  cases e <;> first
    | rfl
    | (unfold cB at h
       exact (cE_set h).elim)
theorem last_ok {n : Nat} {op op' : CmpOp} {e e' : Expr} {a : IE} (h : cE n Γ e' = some a) : lastMarks [op, op'] [e, e'] = false := by
  cases e' <;> first
    | rfl
    | exact (cE_set h).elim
theorem args_ns {n : Nat} : ∀ {es : List Expr} {ias : IAs}, cAs Γ (cE n Γ) (cE n) es = some ias → ∀ e ∈ es, ∀ x y, e ≠ .Starred x y
  | [], _, _, e, he => absurd he (by simp)
  | e0 :: es, ias, h, e, he => by
    by_cases hl : ∃ a b c d, e0 = .Lambda a b c d
    · obtain ⟨a, body, scope, lpos, rfl⟩ := hl
      obtain ⟨_, r', _, _, _, _, _, hr, _⟩ := cAs_lam h
      rcases List.mem_cons.mp he with z | z
      · rw [z]; intro x y q; cases q
      · exact args_ns hr e z
    · obtain ⟨a, as, h1, h2, _⟩ := cAs_val (fun a b c d z => hl ⟨a, b, c, d, z⟩) h
      rcases List.mem_cons.mp he with z | z
      · rw [z]; exact cE_ns h1
      · exact args_ns h2 e z
theorem isDicN_ok (g : Good D k ex X W Γ) {x : Str} (h : isDicN Γ x = true) : x ∈ D.dics ∧ Gl X x ∧ (x == ("__debug__" : Str)) = false := by
  unfold isDicN at h
  rw [Bool.and_eq_true, Bool.and_eq_true] at h
  exact ⟨by rw [← g.dics]; simpa using h.1, isGl_gl g.fit h.2.1, (okName_d h.2.2).1⟩
theorem cN_ok (g : Good D k ex X W Γ) {f : Expr → Option IE} (hf : ∀ e a, f e = some a → Snd (pmX D k ex X) W X e a) (hn : ∀ e a, f e = some a → ∀ x y, e ≠ .Starred x y) {e : Expr} {ie : IE} (h : cN Γ f e = some ie) : Snd (pmX D k ex X) W X e ie := by
  unfold cN at h
  split at h
  · obtain ⟨a, e1, rfl⟩ := Option.map_eq_some_iff.mp h
    exact .new (gm_rev (cB_ok g.fit (fun e a q => ⟨(hf e a q).val', hn e a q⟩) e1).1) fun _ _ => rfl
  · split at h
    · rename_i hd
      obtain ⟨d1, d2, d3⟩ := isDicN_ok g hd
      obtain ⟨a, e1, rfl⟩ := Option.map_eq_some_iff.mp h
      exact ⟨ge_gin g d1 d2 d3 (hf _ _ e1).val', fun z => (by cases z), gt_gin g d1 d2 d3 (hf _ _ e1).val'⟩
    · cases h
  · split at h
    · rename_i hd
      obtain ⟨d1, d2, d3⟩ := isDicN_ok g hd
      obtain ⟨a, e1, rfl⟩ := Option.map_eq_some_iff.mp h
      exact ⟨ge_gnin g d1 d2 d3 (hf _ _ e1).val', fun z => (by cases z), gt_gnin g d1 d2 d3 (hf _ _ e1).val'⟩
    · cases h
  · split at h
    · rename_i hd
      obtain ⟨d1, d2, d3⟩ := isDicN_ok g hd
      split at h
      · cases h
      · rename_i hs
        obtain ⟨a, e1, rfl⟩ := Option.map_eq_some_iff.mp h
        exact .val (ge_gidx g d1 d2 d3 (hf _ _ e1).val' fun a b c d z => hs a b c d z) rfl fun _ _ => rfl
    · cases h
  · split at h
    · rename_i hd
      simp only [Bool.and_eq_true, decide_eq_true_eq, Bool.not_eq_true'] at hd
      obtain ⟨d1, d2, d3⟩ := isDicN_ok g hd.1
      split at h
      · rename_i x y h1 h2
        cases h
        obtain ⟨rfl, hl, _⟩ := hd.2
        exact .val (ge_gget g d1 d2 d3 (hf _ _ h1).val' (hf _ _ h2).val' (hn _ _ h1) (hn _ _ h2) hl) rfl fun _ _ => rfl
      · cases h
    · cases h
  · cases h
/-- THE EXPRESSIONS -/
theorem cE_ok (hF : CallsOk D k) (hC : CloOk D k) : ∀ (n : Nat) {X : Cx} {W : WX} {Γ : Scp} (g : Good D k ex X W Γ) (e : Expr) (ie : IE), cE n Γ e = some ie → Snd (pmX D k ex X) W X e ie
  | 0, X, W, Γ, g, e, ie, h => by unfold cE at h; cases h
  | n + 1, X, W, Γ, g, e, ie, h => by
    replace h := cE_cases h
    rcases h with h | h
    · exact cN_ok g (fun e a q => cE_ok hF hC n g e a q) (fun e a q => cE_ns q) h
    have ih : ∀ e a, cE n Γ e = some a → Snd (pmX D k ex X) W X e a := cE_ok hF hC n g
    have hE : ∀ e a, cE n Γ e = some a → PE X e (tE (pmX D k ex X) X.K W a) := fun e a q => (ih e a q).val'
    have hE' : ∀ e a, cE n Γ e = some a → PE X e (tE (pmX D k ex X) X.K W a) ∧ ∀ x y, e ≠ .Starred x y := fun e a q => ⟨hE e a q, cE_ns q⟩
    have hB : ∀ {e a}, cB Γ (cE n Γ) e = some a → PE X e (tB (pmX D k ex X) X.K W a) := fun q => (cB_ok g.fit hE' q).1
    have hu := g.fit.un
    cases e with
    | Constant c j pos =>
      cases c with
      | none => unfold cO at h; cases h; exact .val ge_non rfl fun _ _ => rfl
      | bool b => unfold cO at h; cases h; exact .val ge_bl rfl fun _ _ => rfl
      | int i => unfold cO at h; cases h; exact .val ge_int rfl fun _ _ => rfl
      | str x => unfold cO at h; cases h; exact .val ge_str rfl fun _ _ => rfl
      | _ => unfold cO at h; cases h
    | Name x pos =>
      unfold cO at h
      simp only at h
      split at h
      · rename_i i e1
        cases h
        obtain ⟨h1, h2, h3⟩ := cSlot_some e1
        obtain ⟨d1, d2, _⟩ := okName_d h3
        exact .val (ge_var (by rw [g.fit.N]; exact h1) (by rw [g.fit.sc]; exact h2) d1 d2) rfl fun _ _ => rfl
      · split at h
        · rename_i hg
          cases h
          rw [Bool.and_eq_true] at hg
          exact .val (ge_glob g (isGl_gl g.fit hg.1) (okName_d hg.2).1) rfl fun _ _ => rfl
        · cases h
    | BoolOp op vs pos =>
      cases op with
      | And => unfold cO at h; exact (cBool_and ih h).1
      | Or => unfold cO at h; exact (cBool_or ih h).1
    | BinOp a op b pos =>
      unfold cO at h
      simp only at h
      split at h
      · rename_i x y h1 h2
        cases h
        have m := ge_bin (op := op) (pos := pos) (hB h1) (hB h2)
        exact ⟨pe_M m, fun _ => m, pt_plain (pe_M m) fun _ => rfl⟩
      · cases h
    | UnaryOp op a pos =>
      cases op with
      | Not =>
        unfold cO at h
        obtain ⟨x, e1, rfl⟩ := Option.map_eq_some_iff.mp h
        have s := ih _ _ e1
        exact ⟨ge_not s.val', fun z => (by cases z), gt_not s.test⟩
      | USub =>
        unfold cO at h
        obtain ⟨x, e1, rfl⟩ := Option.map_eq_some_iff.mp h
        exact .val (ge_neg (hE _ _ e1)) rfl fun _ _ => rfl
      | _ => unfold cO at h; cases h
    | IfExp t a b pos =>
      unfold cO at h
      simp only at h
      split at h
      · rename_i x y z h1 h2 h3
        cases h
        have s1 := ih _ _ h1
        have s2 := ih _ _ h2
        have s3 := ih _ _ h3
        exact ⟨ge_ite s1.test s2.val' s3.val', fun z => (by cases z), gt_ite s1.test s2.test s3.test⟩
      · cases h
    | Tuple es kk pos =>
      unfold cO at h
      obtain ⟨as, e1, rfl⟩ := Option.map_eq_some_iff.mp h
      have m := gm_tup (pos := pos) (k := kk) (cEs_val hE' e1).1
      exact .val (pe_M m) rfl fun _ _ => rfl
    | List es pos =>
      unfold cO at h
      obtain ⟨as, e1, rfl⟩ := Option.map_eq_some_iff.mp h
      exact .new (gm_lst (cEs_val hE' e1).1) fun _ _ => rfl
    | Dict ks vs pos =>
      cases ks with
      | nil =>
        cases vs with
        | nil => unfold cO at h; cases h; exact .val ge_dnew rfl fun _ _ => rfl
        | cons => unfold cO at h; cases h
      | cons => unfold cO at h; cases h
    | Compare a ops bs pos =>
      cases ops with
      | nil => unfold cO at h; cases h
      | cons op ops =>
        cases ops with
        | nil =>
          cases bs with
          | nil => unfold cO at h; cases h
          | cons b bs =>
            cases bs with
            | cons => unfold cO at h; cases h
            | nil =>
              unfold cO at h
              simp only at h
              split at h
              · rename_i x y h1 h2
                cases h
                exact ⟨ge_cmp hu (hB h1) (hB h2) (behind_ok h2), fun z => (by cases z), gt_cmp hu (hB h1) (hB h2) (behind_ok h2)⟩
              · cases h
        | cons op' ops =>
          cases ops with
          | cons => unfold cO at h; cases h
          | nil =>
            cases bs with
            | nil => unfold cO at h; cases h
            | cons b bs =>
              cases bs with
              | nil => unfold cO at h; cases h
              | cons c bs =>
                cases bs with
                | cons => unfold cO at h; cases h
                | nil =>
                  unfold cO at h
                  simp only at h
                  split at h
                  · rename_i x y z h1 h2 h3
                    cases h
                    exact ⟨ge_chain hu (hE _ _ h1) (hE _ _ h2) (hE _ _ h3) (last_ok h3), fun z => (by cases z), gt_chain hu (hE _ _ h1) (hE _ _ h2) (hE _ _ h3) (last_ok h3)⟩
                  · cases h
    | Subscript a i pos =>
      by_cases hs : ∃ x y z w, i = .Slice x y z w
      · obtain ⟨lo, hi, st, p2, rfl⟩ := hs
        cases st with
        | some => unfold cO at h; cases h
        | none =>
          unfold cO at h
          simp only at h
          split at h
          · rename_i x l u h1 h2 h3
            cases h
            exact .new (gm_slc (hB h1) (cOpt_ok hE h2) (cOpt_ok hE h3)) fun _ _ => rfl
          · cases h
      · have key : ∀ (x y : Option IE), (match x, y with
            | some a, some b => some (IE.idx a b)
            | _, _ => none) = some ie → ∃ a b, x = some a ∧ y = some b ∧ ie = .idx a b := fun x y q => by
          cases x with
          | none => cases q
          | some a =>
            cases y with
            | none => cases q
            | some b =>
              have q : some (IE.idx a b) = some ie := q
              cases q
              exact ⟨a, b, rfl, rfl, rfl⟩
        have h' : ∃ x y, cB Γ (cE n Γ) a = some x ∧ cE n Γ i = some y ∧ ie = .idx x y := by
          cases i <;> first
            | exact absurd ⟨_, _, _, _, rfl⟩ hs
            | (unfold cO at h
               exact key _ _ h)
        obtain ⟨x, y, h1, h2, rfl⟩ := h'
        exact .val (ge_idx hu (hB h1) (hE _ _ h2) fun a b c d z => hs ⟨a, b, c, d, z⟩) rfl fun _ _ => rfl
    | ListComp elt gs scope pos =>
      cases gs with
      | nil => unfold cO at h; cases h
      | cons gen gs =>
        obtain ⟨tg, iter, ifs, as⟩ := gen
        by_cases has : gs = [] ∧ as = 0
        · obtain ⟨rfl, rfl⟩ := has
          · unfold cO at h
            simp only at h
            split at h
            · rename_i hg
              rw [Bool.and_eq_true, Bool.or_eq_true, Bool.not_eq_true'] at hg
              split at h
              · rename_i x t s c h1 h2 h3 h4
                split at h
                · rename_i hall
                  cases h
                  have ok : BlkOk X.N X.env.scope scope (ownOf Γ.N scope) := by
                    rw [g.fit.N, g.fit.sc]
                    exact blkOk_by hg.2
                  have hw : ∀ i ∈ tgS t, i ∈ (ownOf Γ.N scope).map (·.2) := fun i hi => by
                    have z := List.all_eq_true.mp hall i hi
                    simpa using z
                  cases hh : Γ.hot with
                  | false =>
                    have hc := g.fit.calm hh
                    refine .new (gm_comp hc (by rw [g.fit.N]; exact g.fit.nd) (cSrc_ok g.fit hE' h3) ok (fun s H C cl fp => ?_) (fun s H C cl fp => ?_) (fun s H C cl fp => ?_) (fsi_plain (cSrc_set h3) _) hw) fun _ _ => rfl
                    · exact tg_ok (p := pmX D k ex X) (g.blk hh scope ok.kind s H C cl fp).fit (.inl hc) 10 tg t h2 fun i hi => sto_own g ok (hw i hi)
                    · exact cIfs_ok (fun e a q => (cE_ok hF hC n (g.blk hh scope ok.kind s H C cl fp) e a q).test) h4
                    · exact (cE_ok hF hC n (g.blk hh scope ok.kind s H C cl fp) _ _ h1).val'
                  | true =>
                    obtain ⟨q, q1, q2⟩ := g.fit.hotc hh
                    have hnm := hg.1.resolve_left (by rw [hh]; exact Bool.noConfusion)
                    refine .new (gm_compH q1 q2 (by rw [g.fit.N]; exact g.fit.nd) (cSrcH_ok g.fit hE' hnm h3) ok ⟨fun s H C cl fp => ?_, fun s H C cl fp => ?_, fun s H C cl fp => ?_⟩ (fsi_plain (cSrc_set h3) _) hw) fun _ _ => rfl
                    · exact tg_ok (p := pmX D k ex X) (g.blkH q1 scope ok.kind s H C cl fp).fit (.inr ⟨q, q1, List.mem_singleton_self q⟩) 10 tg t h2 fun i hi => sto_own (cl := cl) (fp := fp) (s := s) (H := H) (C := C) g ok (hw i hi)
                    · exact cIfs_ok (fun e a z => (cE_ok hF hC n (g.blkH q1 scope ok.kind s H C cl fp) e a z).test) h4
                    · exact (cE_ok hF hC n (g.blkH q1 scope ok.kind s H C cl fp) _ _ h1).val'
                · cases h
              · cases h
            · cases h
        · exfalso
          cases gs with
          | nil =>
            cases as with
            | ofNat m =>
              cases m with
              | zero => exact has ⟨rfl, rfl⟩
              | succ m => unfold cO at h; cases h
            | negSucc m => unfold cO at h; cases h
          | cons =>
            cases as with
            | ofNat m =>
              cases m with
              | zero => unfold cO at h; cases h
              | succ m => unfold cO at h; cases h
            | negSucc m => unfold cO at h; cases h
    | Call f args kws pos =>
      cases f with
      | Name f pn =>
        cases kws with
        | cons => unfold cO at h; cases h
        | nil =>
          unfold cO at h
          simp only at h
          split at h
          · rename_i i e1
            obtain ⟨h1, h2, h3⟩ := cSlot_some e1
            obtain ⟨d1, d2, _⟩ := okName_d h3
            split at h
            · cases h
            · rename_i hh
              have hh : Γ.hot = false := by simpa using hh
              obtain ⟨as, e2, rfl⟩ := Option.map_eq_some_iff.mp h
              obtain ⟨q1, q2⟩ := cEs_val hE' e2
              exact .val (ge_callv g hh hC (by rw [g.fit.N]; exact h1) (by rw [g.fit.sc]; exact h2) d1 d2 q1 q2 fun z => by rw [z] at e2; exact cEs_nil e2) rfl fun _ _ => rfl
          · split at h
            · cases h
            · rename_i hg
              simp only [Bool.not_eq_true', Bool.not_eq_false, Bool.and_eq_true] at hg
              have gl := isGl_gl g.fit hg.1
              obtain ⟨d1, d2, d3⟩ := okName_d hg.2
              split at h
              · rename_i e1
                subst e1
                split at h
                · rename_i x px c pc
                  split at h
                  · rename_i i e2 hc
                    rw [Bool.and_eq_true] at hc
                    obtain ⟨h1, h2, h3⟩ := cSlot_some e2
                    obtain ⟨x1, x2, _⟩ := okName_d h3
                    have gc := isGl_gl g.fit hc.1
                    split at h
                    · rename_i ty e3
                      cases h
                      exact .val (ge_isi g.fit gl gc e3 (okName_d hc.2).1 (ge_bor (by rw [g.fit.N]; exact h1) (by rw [g.fit.sc]; exact h2) x1 x2) fun x y z => by cases z) rfl fun _ _ => rfl
                    · split at h
                      · rename_i hcl
                        cases h
                        rw [Bool.and_eq_true, Bool.or_eq_true] at hcl
                        refine .val (ge_isx g hcl.1 gl (by rw [g.fit.N]; exact h1) (by rw [g.fit.sc]; exact h2) x1 x2 gc (hcl.2.imp (fun z => ?_) fun z => of_decide_eq_true z) hc.2) rfl fun _ _ => rfl
                        rw [← g.clss]
                        simpa using z
                      · cases h
                  · cases h
                · rename_i ea c pc _
                  split at h
                  · rename_i x ty e2 hc e3
                    cases h
                    rw [Bool.and_eq_true] at hc
                    have gc := isGl_gl g.fit hc.1
                    exact .val (ge_isi g.fit gl gc e3 (okName_d hc.2).1 (pe_B (hE _ _ e2)) (cE_ns e2)) rfl fun _ _ => rfl
                  · cases h
                · cases h
              · split at h
                · rename_i b e2
                  split at h
                  · cases h
                  · rename_i hb
                    obtain ⟨as, e3, rfl⟩ := Option.map_eq_some_iff.mp h
                    obtain ⟨rfl, hz⟩ := bifOf_n e2
                    obtain ⟨q1, q2⟩ := cEs_bor (fun e a q => cB_ok g.fit hE' q) e3
                    have hc : X.calm = true ∨ bifHot b = true := by
                      cases hh : Γ.hot with
                      | false => exact .inl (g.fit.calm hh)
                      | true =>
                        rw [hh] at hb
                        right
                        simpa using hb
                    cases args with
                    | nil => exact absurd rfl hz
                    | cons e0 es =>
                      have m := gm_bif (pos := pos) (pn := pn) g.fit.un hc gl (g.fit.blt _ (bifN_in b)) q1 q2
                      exact ⟨pe_M m, fun _ => m, pt_plain (pe_M m) fun _ => rfl⟩
                · split at h
                  · cases h
                  · rename_i hb
                    simp only [Bool.or_eq_true, not_or, Bool.not_eq_true, Bool.not_eq_true', Bool.not_eq_false] at hb
                    obtain ⟨as, e3, rfl⟩ := Option.map_eq_some_iff.mp h
                    have hf : f ∈ D.defs := by
                      rw [← g.defs]
                      simpa using hb.2
                    exact .val (ge_call g hb.1 hF n hE gl d1 hf e3 (args_ns e3)) rfl fun _ _ => rfl
      | _ => unfold cO at h; cases h
    | _ => unfold cO at h; cases h
end
end Ev

set_option maxHeartbeats 4000000
/-! EvQ: statements. -/
namespace Ev
open PySem PySem.Spec PyProof.Rows L2

/-- what stays true since the entry -/
structure Ent (K : PySem.W.Frag) (T : Tbs) (E : List Addr → Hp → Prop) (fr : Addr → Prop) : Prop where
  step : ∀ {os H os' H' o}, E os H → OOk K os H o → Post T os H os' H' → E os' H'
  own : ∀ {os H a xs u}, E os H → fr a → H a = some (.lst xs) → E os (upd H a u)
  obj : ∀ {os H a m u}, E os H → a ∈ os → H a = some m → isMu m = true → isMu u = true → E os (upd H a u)
  new : ∀ {os H a}, E os H → H a = none → fr a
theorem ent_post {K : PySem.W.Frag} {T : Tbs} {os0 : List Addr} {H0 : Hp} : Ent K T (Post T os0 H0) (NoO H0) where
  step := fun e _ P => e.trans P
  own := fun {os H a xs u} e n h => by
    refine ⟨e.pre, fun b w q nb nt => ?_, fun b nb => ?_, fun t => tabs_st (stay_upd h) (e.tab t)⟩
    · rw [upd_ne]
      · exact e.keep b w q nb nt
      · rintro rfl
        obtain ⟨ps, z⟩ := n w q
        exact nt ps z
    · by_cases hb : b = a
      · rw [hb]; exact n
      · exact e.dom b fun w q => nb w (by rw [upd_ne hb]; exact q)
  obj := fun {os H a m u} e ha h hm hu => by
    refine ⟨e.pre, fun b w q nb nt => ?_, fun b nb => ?_, fun t => tabs_st (stay_mu h hm) (e.tab t)⟩
    · rw [upd_ne]
      · exact e.keep b w q nb nt
      · rintro rfl
        obtain ⟨new, rfl, hn⟩ := e.pre
        rcases List.mem_append.mp ha with z | z
        · exact nb z
        · obtain ⟨ps, z⟩ := hn _ z w q
          exact nt ps z
    · by_cases hb : b = a
      · subst hb
        obtain ⟨ps, z⟩ := nb _ upd_same
        rw [z] at hu
        cases hu
      · exact e.dom b fun w q => nb w (by rw [upd_ne hb]; exact q)
  new := fun {os H a} e h => e.dom a (.of h)
theorem ent_kp {K : PySem.W.Frag} {T : Tbs} {E : List Addr → Hp → Prop} {fr : Addr → Prop} (N : Ent K T E fr) {os1 : List Addr} {H1 : Hp} : Ent K T (fun os H => E os H ∧ Kp os1 H1 os H) fr where
  step := fun {os H os' H' o} e O P => by
    refine ⟨N.step e.1 O P, ?_, fun b u q nl nt => ?_⟩
    · obtain ⟨n1, e1⟩ := e.2.pre
      obtain ⟨n2, e2, _⟩ := P.pre
      exact ⟨n1 ++ n2, by rw [e2, e1, List.append_assoc]⟩
    · have q1 := e.2.keep b u q nl nt
      exact P.keep b u q1 (O.not q1 nl) nt
  own := fun {os H a xs u} e n h => by
    refine ⟨N.own e.1 n h, e.2.pre, fun b w q nl nt => ?_⟩
    have q1 := e.2.keep b w q nl nt
    rw [upd_ne]
    · exact q1
    · rintro rfl
      rw [h] at q1
      cases q1
      cases nl
  obj := fun {os H a m u} e ha h hm hu => by
    refine ⟨N.obj e.1 ha h hm hu, e.2.pre, fun b w q nl nt => ?_⟩
    have q1 := e.2.keep b w q nl nt
    rw [upd_ne]
    · exact q1
    · rintro rfl
      rw [h] at q1
      cases q1
      rw [hm] at nl
      cases nl
  new := fun e h => N.new e.1 h
structure AtF (p : Pm) (K : PySem.W.Frag) (E : List Addr → Hp → Prop) (fr : Addr → Prop) (os : List Addr) (H : Hp) (σ : L2.St) (ρ : Frm) (o : Objs) : Prop where
  at_ : At p K os H σ ρ o
  e : E os H
  fresh : ∀ (i : Nat) (d : D) (a : Addr), ρ[i]? = some (.own d) → σ[i]? = some (some (.ref a)) → fr a
def OutS (p : Pm) (K : PySem.W.Frag) (W : WX) (E : List Addr → Hp → Prop) (fr : Addr → Prop) (r : SRes) (Dn : Ends) : Prop := match r with
  | .nx ρ o => ∀ os H σ, AtF p K E fr os H σ ρ o → Dn.nx σ H
  | .ret d o => ∀ os H v, E os H → OOk K os H o → LamX.Tabs p.T H → Rep K os H d v → Dn.rt v H
  | .brk ρ o => ∀ os H σ, AtF p K E fr os H σ ρ o → Dn.bk σ H
  | .cnt ρ o => ∀ os H σ, AtF p K E fr os H σ ρ o → Dn.ct σ H
  | .err c xs ρ o => ∀ os H σ cls d, AtF p K E fr os H σ ρ o → ExR p K os H c xs cls d → W cls d σ H
  | .stuck => False
/-- statements -/
def tSt (p : Pm) (K : PySem.W.Frag) (W : WX) (is : ISs) : TS := fun Dn σ H => ∃ E fr, Ent K p.T E fr ∧ ∃ ρ os o, AtF p K E fr os H σ ρ o ∧ OutS p K W E fr (exSs p.F p.C p.G p.isa p.L is ρ o) Dn
abbrev Pm.exS (p : Pm) (s : IS) (ρ : Frm) (o : Objs) : SRes := Ev.exS p.F p.C p.G p.isa p.L s ρ o
abbrev Pm.exSs (p : Pm) (s : ISs) (ρ : Frm) (o : Objs) : SRes := Ev.exSs p.F p.C p.G p.isa p.L s ρ o
section
variable {X : Cx} {p : Pm} {K : PySem.W.Frag} {W : WX} {E : List Addr → Hp → Prop} {fr : Addr → Prop} {os os' : List Addr} {H H' : Hp} {o o' : Objs} {σ : L2.St} {ρ : Frm} {α : Type} {Dn : Ends}
theorem AtF.next (A : AtF p K E fr os H σ ρ o) (N : Ent K p.T E fr) (P : Post p.T os H os' H') (O : OOk K os' H' o') : AtF p K E fr os' H' σ ρ o' :=
  ⟨A.at_.next P O, N.step A.e A.at_.obs P, A.fresh⟩
/-- an expression in a statement -/
theorem OutS.st {r : Res α} {f : α → Objs → SRes} (N : Ent K p.T E fr) (A : AtF p K E fr os H σ ρ o) (h : OutS p K W E fr (r.st ρ f) Dn) : Out p K W σ os H r fun a o' os' H' => OutS p K W E fr (f a o') Dn := by
  cases r with
  | ok a o' => exact fun _ _ _ _ => h
  | err c xs o' => exact fun os' H' cls d P O x => h os' H' σ cls d (A.next N P O) x
  | stuck => exact h
theorem OutS.nx {o1 : Objs} {ρ1 : Frm} (h : OutS p K W E fr (.nx ρ1 o1) Dn) {os1 : List Addr} {H1 : Hp} {σ1 : L2.St} (A : AtF p K E fr os1 H1 σ1 ρ1 o1) : Dn.nx σ1 H1 := h os1 H1 σ1 A
/-- one after another -/
theorem OutS.seq {r : SRes} {f : Frm → Objs → SRes} (h : OutS p K W E fr (r.seq f) Dn) (u : TS) (hu : ∀ os H σ ρ o, AtF p K E fr os H σ ρ o → OutS p K W E fr (f ρ o) Dn → u Dn σ H) : OutS p K W E fr r { Dn with nx := u Dn } := by
  cases r with
  | nx ρ o => exact fun os H σ A => hu os H σ ρ o A h
  | _ => exact h
theorem exSs_app {a b : List IS} {ρ : Frm} {o : Objs} : p.exSs (seqS (a ++ b)) ρ o = (p.exSs (seqS a) ρ o).seq fun ρ' o' => p.exSs (seqS b) ρ' o' := by
  induction a generalizing ρ o with
  | nil => rfl
  | cons s r ih =>
    show (p.exS s ρ o).seq (fun ρ' o' => p.exSs (seqS (r ++ b)) ρ' o') = ((p.exS s ρ o).seq fun ρ' o' => p.exSs (seqS r) ρ' o').seq _
    cases p.exS s ρ o with
    | nx ρ' o' => exact ih
    | _ => rfl
theorem exSs_one {s : IS} {ρ : Frm} {o : Objs} : p.exSs (seqS [s]) ρ o = p.exS s ρ o := by
  show (p.exS s ρ o).seq (fun ρ' o' => .nx ρ' o') = _
  cases p.exS s ρ o <;> rfl
theorem gss_nil : PSs X [] (tSt p X.K W (seqS [])) := pss_imp pss_nil fun Dn σ H ⟨E, fr, N, ρ, os, o, A, h⟩ => h.nx A
theorem gss_cons {st : Stmt} {r : List Stmt} {a b : List IS} (h1 : PS X st (tSt p X.K W (seqS a))) (h2 : PSs X r (tSt p X.K W (seqS b))) : PSs X (st :: r) (tSt p X.K W (seqS (a ++ b))) :=
  pss_imp (pss_cons h1 h2) fun Dn σ H ⟨E, fr, N, ρ, os, o, A, h⟩ => by
    have h : OutS p X.K W E fr (p.exSs (seqS (a ++ b)) ρ o) Dn := h
    rw [exSs_app] at h
    exact ⟨E, fr, N, ρ, os, o, A, h.seq (tSt p X.K W (seqS b)) fun os H σ ρ o A h => ⟨E, fr, N, ρ, os, o, A, h⟩⟩
/-! ### lists become values -/
theorem AtF.lock1 {pins : List (Addr × Obj)} {s : Shared} {i : Nat} {d : D} (N : Ent X.K p.T E fr) (I : Inv X pins σ H s) (A : AtF p X.K E fr os H σ ρ o) (e : ρ[i]? = some (.own d)) : ∃ H', Inv X pins σ H' s ∧ AtF p X.K E fr os H' σ (ρ.set i (.val d)) o := by
  obtain ⟨ds, a, xs, rfl, e1, n, e2, r⟩ := A.at_.env.own i d e
  obtain ⟨od, I'⟩ := I.lock e2 True.intro
  have hi : i < ρ.length := (List.getElem?_eq_some_iff.mp e).1
  have sy : Stay H (upd H a (.frz od (.lst xs))) := stay_upd e2
  have O := A.at_.obs.upd n e2 (u := .frz od (.lst xs))
  have rep : Rep X.K os (upd H a (.frz od (.lst xs))) (.lst ds) (.ref a) := by
    unfold Rep
    exact ⟨a, xs, rfl, ⟨od, upd_same⟩, Reps.stay sy ds r⟩
  refine ⟨_, I', ⟨⟨?_, O, tabs_st sy A.at_.tab⟩, N.own A.e (A.fresh i _ a e e1) e2, fun j d' b q q2 => ?_⟩⟩
  · have E := A.at_.env
    refine ⟨by rw [List.length_set]; exact E.len, fun j d' q => ?_, fun j d' q => ?_, fun j l d' e' b hjl q1 q2 q3 => ?_, fun j np nl b cap q => ?_, fun j c xs' q => ?_⟩
    · by_cases hj : i = j
      · subst hj
        rw [List.getElem?_set_self hi] at q
        cases q
        exact ⟨_, e1, rep⟩
      · rw [List.getElem?_set_ne hj] at q
        obtain ⟨v, q1, q2⟩ := E.val j d' q
        exact ⟨v, q1, Rep.stay sy d' q2⟩
    · have hj := set_ne q (fun z => by cases z)
      rw [List.getElem?_set_ne hj] at q
      obtain ⟨ds', b, ys, z1, z2, z3, z4, z5⟩ := E.own j d' q
      refine ⟨ds', b, ys, z1, z2, z3, ?_, Reps.stay sy ds' z5⟩
      rw [upd_ne]
      · exact z4
      · rintro rfl
        exact E.dis i j _ d' b hj e q e1 z2
    · have hj := set_ne q1 (fun z => by cases z)
      have hl := set_ne q2 (fun z => by cases z)
      rw [List.getElem?_set_ne hj] at q1
      rw [List.getElem?_set_ne hl] at q2
      exact E.dis j l d' e' b hjl q1 q2 q3
    · have hj := set_ne q (fun z => by cases z)
      rw [List.getElem?_set_ne hj] at q
      obtain ⟨f, vs, c', q', z1, z2, z3, z4⟩ := E.clo j np nl b cap q
      exact ⟨f, vs, c', q', z1, z2, Reps.stay sy cap z3, sy _ _ z4 (by unfold LamX.CodeO; rfl)⟩
    · have hj := set_ne q (fun z => by cases z)
      rw [List.getElem?_set_ne hj] at q
      exact E.exc j c xs' q
  · have hj := set_ne q (fun z => by cases z)
    rw [List.getElem?_set_ne hj] at q
    exact A.fresh j d' b q q2
theorem AtF.lock {pins : List (Addr × Obj)} {s : Shared} (N : Ent X.K p.T E fr) : ∀ (is : List Nat) {H : Hp} {ρ : Frm}, Inv X pins σ H s → AtF p X.K E fr os H σ ρ o → ∃ H', Inv X pins σ H' s ∧ AtF p X.K E fr os H' σ (frzF ρ is) o
  | [], H, ρ, I, A => ⟨H, I, A⟩
  | i :: is, H, ρ, I, A => by
    unfold frzF
    split
    · rename_i d e
      obtain ⟨H1, I1, A1⟩ := A.lock1 N I e
      exact AtF.lock N is I1 A1
    · exact AtF.lock N is I A
theorem gs_frz {st : Stmt} {is : List IS} {vs : List Nat} (h : PS X st (tSt p X.K W (seqS is))) : PS X st (tSt p X.K W (seqS (.frz vs :: is))) := by
  refine ⟨fun pins s σ H Dn I ⟨E, fr, N, ρ, os, o, A, hw⟩ => ?_⟩
  obtain ⟨H', I', A'⟩ := AtF.lock N vs I A
  exact h.run pins s σ H' Dn I' ⟨E, fr, N, _, os, o, A', hw⟩
theorem gs_pre {Γ : Scp} {st : Stmt} {s : IS} {vs : List Nat} (h : PS X st (tSt p X.K W (seqS [s]))) : PS X st (tSt p X.K W (seqS (frzOf Γ vs ++ [s]))) := by
  unfold frzOf
  simp only
  split
  · exact h
  · exact gs_frz h
/-! ### the small ones -/
theorem g1 {st : Stmt} {t : TS} {s : IS} (h : PS X st t) (m : ∀ E fr, Ent X.K p.T E fr → ∀ ρ os o Dn σ H, AtF p X.K E fr os H σ ρ o → OutS p X.K W E fr (p.exS s ρ o) Dn → t Dn σ H) : PS X st (tSt p X.K W (seqS [s])) :=
  ps_imp h fun Dn σ H ⟨E, fr, N, ρ, os, o, A, h⟩ => by
    have h : OutS p X.K W E fr (p.exSs (seqS [s]) ρ o) Dn := h
    rw [exSs_one] at h
    exact m E fr N ρ os o Dn σ H A h
variable {e : Expr} {ie : IE} {pos : Pos}
theorem gs_pass : PS X (.Pass pos) (tSt p X.K W (seqS [.pass])) := g1 ps_pass fun E fr N ρ os o Dn σ H A h => h.nx A
theorem gs_doc {x j pos'} : PS X (.Expr (.Constant (.str x) j pos) pos') (tSt p X.K W (seqS [.pass])) := g1 ps_doc fun E fr N ρ os o Dn σ H A h => h.nx A
theorem gs_expr (he : PE X e (tE p X.K W ie)) (hs : swapsWith e none pos.line X.env = pure false) : PS X (.Expr e pos) (tSt p X.K W (seqS [.expr ie])) := g1 (ps_expr he hs) fun E fr N ρ os o Dn σ H A h =>
  ⟨ρ, os, o, A.at_, (OutS.st N A h).mono fun d o' os' H' _ P O q v r => q.nx (A.next N P O)⟩
theorem gs_ret (he : PE X e (tE p X.K W ie)) : PS X (.Return (some e) pos) (tSt p X.K W (seqS [.ret ie])) := g1 (ps_ret he) fun E fr N ρ os o Dn σ H A h =>
  ⟨ρ, os, o, A.at_, (OutS.st N A h).mono fun d o' os' H' _ P O q v r => q os' H' v (N.step A.e A.at_.obs P) O (P.tab A.at_.tab) r⟩
theorem gs_retN : PS X (.Return none pos) (tSt p X.K W (seqS [.retN])) := g1 ps_retN fun E fr N ρ os o Dn σ H A h => h os H .non A.e A.at_.obs A.at_.tab .mkNon
end
end Ev

set_option maxHeartbeats 4000000
/-! EvR: stores, loops. -/
namespace Ev
open PySem PySem.Spec PyProof.Rows L2

mutual
theorem bindT_at : ∀ {t : Tg} {d : D} {ρ ρ' : Frm}, bindT t d ρ = some ρ' → ∀ (i : Nat) (s : Slot), ρ'[i]? = some s → (∃ x, s = .val x) ∨ (ρ[i]? = some s ∧ i ∉ tgS t)
  | .name j, d, ρ, ρ', h, i, s, e => by
    unfold bindT at h
    cases h
    by_cases hj : j = i
    · subst hj
      have hl : j < ρ.length := by simpa using (List.getElem?_eq_some_iff.mp e).1
      rw [List.getElem?_set_self hl] at e
      cases e
      exact .inl ⟨d, rfl⟩
    · rw [List.getElem?_set_ne hj] at e
      refine .inr ⟨e, ?_⟩
      unfold tgS
      simp
      exact fun z => hj z.symm
  | .tup ts, d, ρ, ρ', h, i, s, e => by
    cases d with
    | tup ds =>
      unfold bindT at h
      have q := bindTs_at h i s e
      unfold tgS
      exact q
    | _ => unfold bindT at h; cases h
theorem bindTs_at : ∀ {ts : List Tg} {ds : List D} {ρ ρ' : Frm}, bindTs ts ds ρ = some ρ' → ∀ (i : Nat) (s : Slot), ρ'[i]? = some s → (∃ x, s = .val x) ∨ (ρ[i]? = some s ∧ i ∉ tgSs ts)
  | [], [], ρ, ρ', h, i, s, e => by
    unfold bindTs at h
    cases h
    exact .inr ⟨e, by unfold tgSs; simp⟩
  | t :: ts, d :: ds, ρ, ρ', h, i, s, e => by
    unfold bindTs at h
    split at h
    · rename_i ρ1 e1
      rcases bindTs_at h i s e with q | ⟨q1, q2⟩
      · exact .inl q
      · rcases bindT_at e1 i s q1 with q | ⟨q3, q4⟩
        · exact .inl q
        · refine .inr ⟨q3, ?_⟩
          unfold tgSs
          simp only [List.mem_append, not_or]
          exact ⟨q4, q2⟩
    · cases h
  | [], _ :: _, _, _, h, _, _, _ => by unfold bindTs at h; cases h
  | _ :: _, [], _, _, h, _, _, _ => by unfold bindTs at h; cases h
end
section
variable {X : Cx} {p : Pm} {K : PySem.W.Frag} {W : WX} {E : List Addr → Hp → Prop} {fr : Addr → Prop} {os os' : List Addr} {H H' : Hp} {o o' : Objs} {σ : L2.St} {ρ : Frm} {α : Type} {Dn : Ends} {e : Expr} {ie : IE} {pos : Pos}
theorem AtF.bind {t : Tg} {d : D} {ρ' : Frm} {σ' : L2.St} (A : AtF p K E fr os H σ ρ o) (e : bindT t d ρ = some ρ') (A' : At p K os H σ' ρ' o) (ag : ∀ i, i ∉ tgS t → σ'[i]? = σ[i]?) : AtF p K E fr os H σ' ρ' o := by
  refine ⟨A', A.e, fun i d' a q1 q2 => ?_⟩
  rcases bindT_at e i _ q1 with ⟨x, z⟩ | ⟨z1, z2⟩
  · cases z
  · exact A.fresh i d' a z1 (by rw [← ag i z2]; exact q2)
theorem AtF.set {d : D} {v : V} (A : AtF p K E fr os H σ ρ o) (r : Rep K os H d v) (i : Nat) : AtF p K E fr os H (σ.set i (some v)) (ρ.set i (.val d)) o :=
  A.bind (t := .name i) (d := d) (by unfold bindT; rfl) (A.at_.set r i) fun j hj => List.getElem?_set_ne (by unfold tgS at hj; simp at hj; exact fun z => hj z.symm)
/-- target = value -/
theorem gs_asg {tg : Expr} {t : Tg} (he : PE X e (tE p X.K W ie)) (hg : PG X tg (gTg p X.K t)) (hs : swapsWithSole [tg] e pos.line X.env = pure false) (hw : swappedStores [tg] e X.env = pure none) (h1 : (assignEach [tg] X.env).map (·.2) = [assign tg X.env]) :
    PS X (.Assign [tg] e pos) (tSt p X.K W (seqS [.set t ie])) := g1 (ps_asg he hg hs hw h1) fun E fr N ρ os o Dn σ H A h =>
  ⟨ρ, os, o, A.at_, (OutS.st N A h).mono fun d o' os' H' _ P O q v r => by
    cases eb : bindT t d ρ with
    | none => rw [eb] at q; exact q.elim
    | some ρ' =>
      rw [eb] at q
      have A2 := A.next N P O
      exact ⟨ρ, os', o', d, ρ', A2.at_, r, eb, fun σ' A' ag => q.nx (A2.bind eb A' ag)⟩⟩
/-- name = value -/
theorem gs_setn {st : Stmt} {i : Nat} (h : PS X st (tAsg (tE p X.K W ie) (gName i))) : PS X st (tSt p X.K W (seqS [.set (.name i) ie])) := g1 h fun E fr N ρ os o Dn σ H A h =>
  ⟨ρ, os, o, A.at_, (OutS.st N A h).mono fun d o' os' H' _ P O q v r => by
    have q : OutS p X.K W E fr (.nx (ρ.set i (.val d)) o') Dn := q
    exact q.nx ((A.next N P O).set r i)⟩
/-- .. what is made is locked -/
theorem ps_lkS {st : Stmt} {t : TS} (h : PS X st t) : PS X st (fun Dn σ H => t { Dn with nx := fun σ' H' => Dn.nx σ' H' ∨ ∃ a u, H' a = some u ∧ Mut (some u) ∧ ∀ od, Dn.nx σ' (upd H' a (.frz od u)) } σ H) := by
  refine ⟨fun pins s σ H Dn I hw => thn (h.run pins s σ H _ I hw) fun f s1 q => ?_⟩
  cases f with
  | next =>
    obtain ⟨σ', H', I1, q⟩ := q
    rcases q with q | ⟨a, u, e1, m, q⟩
    · exact ⟨σ', H', I1, q⟩
    · obtain ⟨od, I2⟩ := I1.lock e1 m
      exact ⟨σ', _, I2, q od⟩
  | ret v => exact q
  | brk => exact q
  | cont => exact q
theorem gs_setM {st : Stmt} {i : Nat} (h : PS X st (tAsg (tM p X.K W ie) (gName i))) : PS X st (tSt p X.K W (seqS [.set (.name i) ie])) := g1 (ps_lkS h) fun E fr N ρ os o Dn σ H A h =>
  ⟨ρ, os, o, A.at_, (OutS.st N A h).more fun d o' os' H' _ P O q v H2 m => by
    have go : ∀ H3, Same H' H3 → Rep X.K os' H3 d v → Dn.nx (σ.set i (some v)) H3 := fun H3 s3 r => by
      have q3 : OutS p X.K W E fr (.nx (ρ.set i (.val d)) o') Dn := q os' H3 (.same s3) (O.same s3)
      exact q3.nx ((A.next N (P.trans (.same s3)) (O.same s3)).set r i)
    rcases m.fin O with r | ⟨b, xs, rfl, e1, h2⟩
    · exact .inl (go H2 m.same r)
    · exact .inr ⟨b, _, e1, True.intro, fun od => go _ (h2 od).1 (h2 od).2⟩⟩
/-- .. a list of the frame's own -/
theorem AtF.setOwn {ds : List D} {a : Addr} {xs : List V} (N : Ent K p.T E fr) (A : AtF p K E fr os H σ ρ o) (hn : H a = none) (r : Reps K os H ds xs) (i : Nat) : AtF p K E fr os (upd H a (.lst xs)) (σ.set i (some (.ref a))) (ρ.set i (.own (.lst ds))) o := by
  have s1 := same_upd (o := .lst xs) hn
  have A2 := A.next N (.same s1) (A.at_.obs.same s1)
  have O := A.at_.obs.same s1
  have E := A2.at_.env
  have na : a ∉ os := fun hm => by
    obtain ⟨ys, z, _⟩ := A.at_.obs.mem hm
    rw [hn] at z; cases z
  have old : ∀ (j : Nat) (d' : D) (b : Addr), ρ[j]? = some (Slot.own d') → σ[j]? = some (some (V.ref b)) → b ≠ a := fun j d' b q1 q2 z => by
    obtain ⟨ds', b', ys, z1, z2, z3, z4, z5⟩ := A.at_.env.own j d' q1
    rw [q2] at z2
    cases z2
    rw [z, hn] at z4
    cases z4
  have get : ∀ {j : Nat} {s : Slot}, (ρ.set i (.own (.lst ds)))[j]? = some s → (i = j ∧ s = .own (.lst ds) ∧ (σ.set i (some (V.ref a)))[j]? = some (some (.ref a))) ∨ (i ≠ j ∧ ρ[j]? = some s ∧ (σ.set i (some (V.ref a)))[j]? = σ[j]?) := fun {j s} e => by
    by_cases hj : i = j
    · subst hj
      have hl : i < ρ.length := by simpa using (List.getElem?_eq_some_iff.mp e).1
      rw [List.getElem?_set_self hl] at e
      cases e
      exact .inl ⟨rfl, rfl, by rw [List.getElem?_set_self (by rw [E.len]; exact hl)]⟩
    · rw [List.getElem?_set_ne hj] at e
      exact .inr ⟨hj, e, List.getElem?_set_ne hj⟩
  refine ⟨⟨⟨by rw [List.length_set, List.length_set]; exact E.len, fun j d q => ?_, fun j d q => ?_, fun j l d e b hjl q1 q2 q3 => ?_, fun j np nl b cap q => ?_, fun j c ys q => ?_⟩, O, A2.at_.tab⟩, A2.e, fun j d b q1 q2 => ?_⟩
  · rcases get q with ⟨_, z, _⟩ | ⟨_, z, z2⟩
    · cases z
    · rw [z2]; exact E.val j d z
  · rcases get q with ⟨_, z, z2⟩ | ⟨_, z, z2⟩
    · cases z
      exact ⟨ds, a, xs, rfl, z2, na, upd_same, r.same A.at_.obs s1⟩
    · rw [z2]; exact E.own j d z
  · rcases get q1 with ⟨e1, z, z2⟩ | ⟨n1, z, z2⟩
    · rcases get q2 with ⟨e2, y, y2⟩ | ⟨n2, y, y2⟩
      · exact absurd (e1.symm.trans e2) hjl
      · rw [y2]
        intro w
        rw [z2] at q3
        cases q3
        exact old l e a y w rfl
    · rcases get q2 with ⟨e2, y, y2⟩ | ⟨n2, y, y2⟩
      · rw [y2]
        intro w
        cases w
        rw [z2] at q3
        exact old j d a z q3 rfl
      · rw [y2]
        rw [z2] at q3
        exact E.dis j l d e b hjl z y q3
  · rcases get q with ⟨_, z, _⟩ | ⟨_, z, z2⟩
    · cases z
    · rw [z2]; exact E.clo j np nl b cap z
  · rcases get q with ⟨_, z, _⟩ | ⟨_, z, z2⟩
    · cases z
    · rw [z2]; exact E.exc j c ys z
  · rcases get q1 with ⟨_, z, z2⟩ | ⟨_, z, z2⟩
    · rw [z2] at q2
      cases q2
      exact N.new A.e hn
    · rw [z2] at q2
      exact A.fresh j d b z q2
theorem gs_own {st : Stmt} {i : Nat} (h : PS X st (tAsg (tM p X.K W ie) (gName i))) : PS X st (tSt p X.K W (seqS [.setOwn i ie])) := g1 h fun E fr N ρ os o Dn σ H A h =>
  ⟨ρ, os, o, A.at_, (OutS.st N A h).more fun d o' os' H' _ P O q v H2 m => by
    rcases m.rep with ⟨nl, r⟩ | ⟨ds, a, xs, rfl, rfl, hn, rfl, r⟩
    · have e : ownS d = .val d := by
        cases d <;> first
          | rfl
          | exact absurd rfl (nl _)
      have q3 : OutS p X.K W E fr (.nx (ρ.set i (ownS d)) o') Dn := q os' H2 m.post (O.same m.same)
      rw [e] at q3
      exact q3.nx ((A.next N (P.trans m.post) (O.same m.same)).set r i)
    · have q3 : OutS p X.K W E fr (.nx (ρ.set i (.own (.lst ds))) o') Dn := q os' H' .refl O
      exact q3.nx ((A.next N P O).setOwn N hn r i)⟩
/-! ### own lists are changed -/
theorem AtF.mutOwn {ds ds' : List D} {a : Addr} {xs xs' : List V} {i : Nat} (N : Ent K p.T E fr) (A : AtF p K E fr os H σ ρ o) (e : ρ[i]? = some (.own (.lst ds))) (e1 : σ[i]? = some (some (.ref a))) (e2 : H a = some (.lst xs)) (n : a ∉ os) (r : Reps K os H ds' xs') :
    AtF p K E fr os (upd H a (.lst xs')) σ (ρ.set i (.own (.lst ds'))) o := by
  have sy : Stay H (upd H a (.lst xs')) := stay_upd e2
  have O := A.at_.obs.upd n e2 (u := .lst xs')
  have hi : i < ρ.length := (List.getElem?_eq_some_iff.mp e).1
  have E := A.at_.env
  have get : ∀ {j : Nat} {s : Slot}, (ρ.set i (.own (.lst ds')))[j]? = some s → (i = j ∧ s = .own (.lst ds')) ∨ (i ≠ j ∧ ρ[j]? = some s) := fun {j s} q => by
    by_cases hj : i = j
    · subst hj
      rw [List.getElem?_set_self hi] at q
      cases q
      exact .inl ⟨rfl, rfl⟩
    · rw [List.getElem?_set_ne hj] at q
      exact .inr ⟨hj, q⟩
  have own : ∀ {j : Nat} {d : D}, (ρ.set i (.own (.lst ds')))[j]? = some (.own d) → ∃ d', ρ[j]? = some (.own d') := fun {j d} q => by
    rcases get q with ⟨rfl, z⟩ | ⟨_, z⟩
    · exact ⟨_, e⟩
    · exact ⟨_, z⟩
  refine ⟨⟨⟨by rw [List.length_set]; exact E.len, fun j d q => ?_, fun j d q => ?_, fun j l d e' b hjl q1 q2 q3 => ?_, fun j np nl b cap q => ?_, fun j c ys q => ?_⟩, O, tabs_st sy A.at_.tab⟩, N.own A.e (A.fresh i _ a e e1) e2, fun j d b q1 q2 => ?_⟩
  · rcases get q with ⟨_, z⟩ | ⟨_, z⟩
    · cases z
    · obtain ⟨v, z1, z2⟩ := E.val j d z
      exact ⟨v, z1, Rep.stay sy d z2⟩
  · rcases get q with ⟨rfl, z⟩ | ⟨hj, z⟩
    · cases z
      exact ⟨ds', a, xs', rfl, e1, n, upd_same, Reps.stay sy ds' r⟩
    · obtain ⟨ds2, b, ys, z1, z2, z3, z4, z5⟩ := E.own j d z
      refine ⟨ds2, b, ys, z1, z2, z3, ?_, Reps.stay sy ds2 z5⟩
      rw [upd_ne]
      · exact z4
      · rintro rfl
        exact E.dis i j _ d b hj e z e1 z2
  · obtain ⟨d1, y1⟩ := own q1
    obtain ⟨d2, y2⟩ := own q2
    exact E.dis j l d1 d2 b hjl y1 y2 q3
  · rcases get q with ⟨_, z⟩ | ⟨_, z⟩
    · cases z
    · obtain ⟨f, vs, c', q', z1, z2, z3, z4⟩ := E.clo j np nl b cap z
      exact ⟨f, vs, c', q', z1, z2, Reps.stay sy cap z3, sy _ _ z4 (by unfold LamX.CodeO; rfl)⟩
  · rcases get q with ⟨_, z⟩ | ⟨_, z⟩
    · cases z
    · exact E.exc j c ys z
  · obtain ⟨d1, y1⟩ := own q1
    exact A.fresh j d1 b y1 q2
/-- name.append(e) -/
theorem gs_append {i : Nat} {x : Str} {px apos cpos : Pos} (hN : X.N[i]? = some x) (hv : Vis X.env.scope x) (hd : (x == ("__debug__" : Str)) = false) (hcd : (x == ("__classdict__" : Str)) = false) (he : PE X e (tE p X.K W ie)) (hs : ∀ x y, e ≠ .Starred x y) (hl : (apos.endLine == cpos.line) = true) :
    PS X (.Expr (.Call (.Attribute (.Name x px) "append" apos) [e] [] cpos) pos) (tSt p X.K W (seqS [.append i ie])) := by
  have ha : PA X [e] (tCons (tE p X.K W ie) tNil) := pa_cons he pa_nil (starEach_ne _ hs)
  have hb := pe_bm (apos := apos) (cpos := cpos) PySem.F.plainAttrs_list PySem.F.slot_list_append PySem.F.type_list_append mt_append (pe_var (pos := px) hN hv hd hcd) ha (by rfl) (by rw [starEach_ne _ hs]; rfl) hl (starEach_ne _ hs) (by rfl)
  refine g1 (ps_expr (pos := pos) hb (by rfl)) fun E fr N ρ os o Dn σ H A h => ?_
  have h : OutS p X.K W E fr (match ρ[i]? with
    | some (.own (.lst ds)) => (p.evE ie ρ o).st ρ fun d o1 => if decide (ds.length < sizeLine) then SRes.nx (ρ.set i (.own (.lst (ds ++ [d])))) o1 else .stuck
    | _ => .stuck) Dn := h
  split at h
  · rename_i ds eρ
    obtain ⟨ds', a, xs, eds, e1, n, e2, r⟩ := A.at_.env.own i _ eρ
    cases eds
    refine ⟨.ref a, e1, .inl ⟨rfl, xs, .of e2⟩, ρ, os, o, A.at_, (OutS.st N A h).mono fun d o' os' H' _ P O q v rv => ?_⟩
    have A2 := A.next N P O
    have e3 := P.keep _ _ e2 n (fun _ z => by cases z)
    have n3 : a ∉ os' := (P.del n e2).2.1
    have r3 := Reps.post P A.at_.obs ds r
    split at q
    · rename_i hz
      have hz := of_decide_eq_true hz
      rw [← r3.length] at hz
      exact ⟨a, xs, v, rfl, rfl, e3, hz, q.nx (A2.mutOwn N eρ e1 e3 n3 (r3.append (.cons rv .nil)))⟩
    · exact q.elim
  · exact h.elim
/-- name.extend(e), e a new list -/
theorem gs_extend {i : Nat} {x : Str} {px apos cpos : Pos} (hN : X.N[i]? = some x) (hv : Vis X.env.scope x) (hd : (x == ("__debug__" : Str)) = false) (hcd : (x == ("__classdict__" : Str)) = false) (he : PE X e (tM p X.K W ie)) (hs : ∀ x y, e ≠ .Starred x y) (hl : (apos.endLine == cpos.line) = true) :
    PS X (.Expr (.Call (.Attribute (.Name x px) "extend" apos) [e] [] cpos) pos) (tSt p X.K W (seqS [.extend i ie])) := by
  have ha : PA X [e] (tCons (tM p X.K W ie) tNil) := pa_cons he pa_nil (starEach_ne _ hs)
  have hb := pe_bm (apos := apos) (cpos := cpos) PySem.F.plainAttrs_list PySem.F.slot_list_extend PySem.F.type_list_extend mt_extend (pe_var (pos := px) hN hv hd hcd) ha (by rfl) (by rw [starEach_ne _ hs]; rfl) hl (starEach_ne _ hs) (by rfl)
  refine g1 (ps_expr (pos := pos) hb (by rfl)) fun E fr N ρ os o Dn σ H A h => ?_
  have h : OutS p X.K W E fr (match ρ[i]? with
    | some (.own (.lst ds)) => (p.evE ie ρ o).st ρ fun d o1 => match d with
      | .lst es => if sz (ds.length + es.length) then SRes.nx (ρ.set i (.own (.lst (ds ++ es)))) o1 else .stuck
      | _ => .stuck
    | _ => .stuck) Dn := h
  split at h
  · rename_i ds eρ
    obtain ⟨ds', a, xs, eds, e1, n, e2, r⟩ := A.at_.env.own i _ eρ
    cases eds
    refine ⟨.ref a, e1, .inl ⟨rfl, xs, .of e2⟩, ρ, os, o, A.at_, (OutS.st N A h).more fun d o' os' H' _ P O q v H2 m => ?_⟩
    rcases m.rep with ⟨nl, r'⟩ | ⟨es, b, zs, rfl, rfl, hn, rfl, r'⟩
    · have q := q os' H' .refl O
      cases d with
      | lst ds => exact absurd rfl (nl _)
      | _ => exact q.elim
    · have s1 : Same H' (upd H' b (.lst zs)) := same_upd hn
      have q := q os' _ (.same s1) (O.same s1)
      have A2 := A.next N (P.trans (.same s1)) (O.same s1)
      have e3 := P.keep _ _ e2 n (fun _ z => by cases z)
      have ne : a ≠ b := fun z => by rw [z, hn] at e3; cases e3
      have e4 : upd H' b (.lst zs) a = some (.lst xs) := by rw [upd_ne ne]; exact e3
      have n3 : a ∉ os' := (P.del n e2).2.1
      have r3 := Reps.post (P.trans (.same s1)) A.at_.obs ds r
      have r4 := r'.same O s1
      have q : OutS p X.K W E fr (if sz (ds.length + es.length) then SRes.nx (ρ.set i (.own (.lst (ds ++ es)))) o' else .stuck) Dn := q
      split at q
      · rename_i hz
        have hz := of_decide_eq_true hz
        rw [← r3.length, ← r4.length] at hz
        exact ⟨a, b, xs, zs, rfl, rfl, e4, upd_same, hz, q.nx (A2.mutOwn N eρ e1 e4 n3 (r3.append r4))⟩
      · exact q.elim
  · exact h.elim
/-! ### name.pop() -/
theorem Reps.dropLast {ds : List D} {xs : List V} (h : Reps K os H ds xs) : Reps K os H ds.dropLast xs.dropLast := by
  rw [List.dropLast_eq_take, List.dropLast_eq_take, h.length]
  exact h.take _
theorem last_at {α : Type} {l : List α} {d : α} (h : l.getLast? = some d) : l[l.length - 1]? = some d := by
  rw [List.getLast?_eq_getElem?] at h
  exact h
theorem pe_pop {i : Nat} {x : Str} {px apos cpos : Pos} (hN : X.N[i]? = some x) (hv : Vis X.env.scope x) (hd : (x == ("__debug__" : Str)) = false) (hcd : (x == ("__classdict__" : Str)) = false) (hl : (apos.endLine == cpos.line) = true) :
    PE X (.Call (.Attribute (.Name x px) "pop" apos) [] [] cpos) (tBM0 X.K "list" rPop (tVar i)) :=
  pe_bm0 PySem.F.plainAttrs_list PySem.F.slot_list_pop PySem.F.type_list_pop mt_pop (pe_var (pos := px) hN hv hd hcd) (by rfl) hl
/-- what is popped, what is left -/
theorem AtF.pop {i : Nat} {ds : List D} {d : D} (N : Ent K p.T E fr) (A : AtF p K E fr os H σ ρ o) (eρ : ρ[i]? = some (.own (.lst ds))) (el : ds.getLast? = some d) : ∃ a xs y, σ[i]? = some (some (.ref a)) ∧ H a = some (.lst xs) ∧ xs[xs.length - 1]? = some y ∧ Rep K os (upd H a (.lst xs.dropLast)) d y ∧
    AtF p K E fr os (upd H a (.lst xs.dropLast)) σ (ρ.set i (.own (.lst ds.dropLast))) o := by
  obtain ⟨ds', a, xs, eds, e1, n, e2, r⟩ := A.at_.env.own i _ eρ
  cases eds
  obtain ⟨y, e3, r3⟩ := r.get (last_at el)
  rw [← r.length] at e3
  exact ⟨a, xs, y, e1, e2, e3, Rep.stay (stay_upd e2) d r3, A.mutOwn N eρ e1 e2 n r.dropLast⟩
theorem gs_pop {i : Nat} {x : Str} {px apos cpos : Pos} {tg : Expr} {t : Tg} (hN : X.N[i]? = some x) (hv : Vis X.env.scope x) (hd : (x == ("__debug__" : Str)) = false) (hcd : (x == ("__classdict__" : Str)) = false) (hl : (apos.endLine == cpos.line) = true)
    (hg : PG X tg (gTg p X.K t)) (hs : swapsWithSole [tg] (.Call (.Attribute (.Name x px) "pop" apos) [] [] cpos) pos.line X.env = pure false) (hw : swappedStores [tg] (.Call (.Attribute (.Name x px) "pop" apos) [] [] cpos) X.env = pure none) (h1 : (assignEach [tg] X.env).map (·.2) = [assign tg X.env]) :
    PS X (.Assign [tg] (.Call (.Attribute (.Name x px) "pop" apos) [] [] cpos) pos) (tSt p X.K W (seqS [.popT i t])) := g1 (ps_asg (pe_pop (px := px) hN hv hd hcd hl) hg hs hw h1) fun E fr N ρ os o Dn σ H A h => by
  have h : OutS p X.K W E fr (match ρ[i]? with
    | some (.own (.lst ds)) => match ds.getLast? with
      | some d => match bindT t d (ρ.set i (.own (.lst ds.dropLast))) with
        | some ρ' => SRes.nx ρ' o
        | none => .stuck
      | none => .stuck
    | _ => .stuck) Dn := h
  split at h
  · rename_i ds eρ
    split at h
    · rename_i d el
      split at h
      · rename_i ρ' eb
        obtain ⟨a, xs, y, e1, e2, e3, r, A2⟩ := A.pop N eρ el
        exact ⟨.ref a, e1, .inl ⟨rfl, xs, .of e2⟩, a, xs, y, rfl, rfl, e2, e3, _, os, o, d, ρ', A2.at_, r, eb, fun σ' A' ag => h.nx (A2.bind eb A' ag)⟩
      · exact h.elim
    · exact h.elim
  · exact h.elim
/-- t = x.pop(), e -/
theorem gs_pop2 {i : Nat} {x : Str} {px apos cpos vp : Pos} {k2} {tg : Expr} {t : Tg} (hN : X.N[i]? = some x) (hv : Vis X.env.scope x) (hd : (x == ("__debug__" : Str)) = false) (hcd : (x == ("__classdict__" : Str)) = false) (hl : (apos.endLine == cpos.line) = true)
    (he : PE X e (tE p X.K W ie)) (hse : ∀ x y, e ≠ .Starred x y) (hg : PG X tg (gTg p X.K t)) (hs : swapsWithSole [tg] (.Tuple [.Call (.Attribute (.Name x px) "pop" apos) [] [] cpos, e] k2 vp) pos.line X.env = pure false) (hw : swappedStores [tg] (.Tuple [.Call (.Attribute (.Name x px) "pop" apos) [] [] cpos, e] k2 vp) X.env = pure none) (h1 : (assignEach [tg] X.env).map (·.2) = [assign tg X.env]) :
    PS X (.Assign [tg] (.Tuple [.Call (.Attribute (.Name x px) "pop" apos) [] [] cpos, e] k2 vp) pos) (tSt p X.K W (seqS [.popT2 i ie t])) := by
  have hA : PA X [.Call (.Attribute (.Name x px) "pop" apos) [] [] cpos, e] (tCons (tBM0 X.K "list" rPop (tVar i)) (tCons (tE p X.K W ie) tNil)) := pa_cons (pe_pop hN hv hd hcd hl) (pa_cons he pa_nil (starEach_ne _ hse)) (starEach_ne _ fun _ _ z => by cases z)
  refine g1 (ps_asg (pe_tup hA) hg hs hw h1) fun E fr N ρ os o Dn σ H A h => ?_
  have h : OutS p X.K W E fr (match ρ[i]? with
    | some (.own (.lst ds)) => match ds.getLast? with
      | some d => (p.evE ie (ρ.set i (.own (.lst ds.dropLast))) o).st (ρ.set i (.own (.lst ds.dropLast))) fun y o1 => match bindT t (.tup [d, y]) (ρ.set i (.own (.lst ds.dropLast))) with
        | some ρ' => SRes.nx ρ' o1
        | none => .stuck
      | none => .stuck
    | _ => .stuck) Dn := h
  split at h
  · rename_i ds eρ
    split at h
    · rename_i d el
      obtain ⟨a, xs, y, e1, e2, e3, r, A2⟩ := A.pop N eρ el
      refine ⟨.ref a, e1, .inl ⟨rfl, xs, .of e2⟩, a, xs, y, rfl, rfl, e2, e3, _, os, o, A2.at_, (OutS.st N A2 h).more fun y' o1 os1 H1 _ P O q vy r1 => ⟨(Nat.le_of_ble_eq_true rfl : 2 ≤ sizeLine), fun pz hz => ?_⟩⟩
      have s1 : Same H1 (upd H1 pz (.tup [y, vy])) := same_upd hz
      have q := q os1 _ (.same s1) (O.same s1)
      have A3 := A2.next N (P.trans (.same s1)) (O.same s1)
      have rr : Rep X.K os1 (upd H1 pz (.tup [y, vy])) (.tup [d, y']) (.ref pz) := by
        unfold Rep
        exact ⟨pz, [y, vy], rfl, .inl (.inl upd_same), .cons (Rep.post (P.trans (.same s1)) A2.at_.obs d r) (.cons (Rep.post (T := p.T) (.same s1) O y' r1) .nil), fun _ => upd_same⟩
      split at q
      · rename_i ρ' eb
        exact ⟨_, os1, o1, _, ρ', A3.at_, rr, eb, fun σ' A' ag => q.nx (A3.bind eb A' ag)⟩
      · exact q.elim
    · exact h.elim
  · exact h.elim
end
end Ev

set_option maxHeartbeats 4000000
/-! EvS: o[i] = v, op=, pairs, if, while, for, a shared list is returned. -/
namespace Ev
open PySem PySem.Spec PyProof.Rows L2
section
variable {X : Cx} {p : Pm} {K : PySem.W.Frag} {W : WX} {E : List Addr → Hp → Prop} {fr : Addr → Prop} {os os' : List Addr} {H H' : Hp} {o o' : Objs} {σ : L2.St} {ρ : Frm} {α : Type} {Dn : Ends} {e : Expr} {ie : IE} {pos : Pos}
theorem putD_some {ds ds' : List D} {j : Int} {d : D} (h : putD ds j d = some ds') : ∃ n, ixN ds.length j = some n ∧ ds' = ds.set n d := by
  unfold putD at h
  obtain ⟨n, e, rfl⟩ := Option.map_eq_some_iff.mp h
  exact ⟨n, e, rfl⟩
/-- a shared object is changed -/
theorem AtF.mutObj {so so' : SObj} {a : Addr} {m u : HO} {n : Nat} (N : Ent K p.T E fr) (A : AtF p K E fr os H σ ρ o) (e : o[n]? = some so) (e1 : os[n]? = some a) (e2 : H a = some m) (hm : isMu m = true) (hu : isMu u = true) (r : ObjAt K os (upd H a u) a so') :
    AtF p K E fr os (upd H a u) σ ρ (o.set n so') := by
  have sy : Stay H (upd H a u) := stay_mu e2 hm
  have ha : a ∈ os := List.mem_of_getElem? e1
  have O := A.at_.obs
  have En := A.at_.env
  refine ⟨⟨⟨En.len, fun j d q => ?_, fun j d q => ?_, En.dis, fun j np nl b cap q => ?_, En.exc⟩, ⟨by rw [List.length_set]; exact O.len, fun j so q => ?_, O.nd⟩, tabs_st sy A.at_.tab⟩, N.obj A.e ha e2 hm hu, A.fresh⟩
  · obtain ⟨v, z1, z2⟩ := En.val j d q
    exact ⟨v, z1, Rep.stay sy d z2⟩
  · obtain ⟨ds2, b, ys, z1, z2, z3, z4, z5⟩ := En.own j d q
    refine ⟨ds2, b, ys, z1, z2, z3, ?_, Reps.stay sy ds2 z5⟩
    rw [upd_ne (by rintro rfl; exact z3 ha)]
    exact z4
  · obtain ⟨f, vs, c', q', z1, z2, z3, z4⟩ := En.clo j np nl b cap q
    exact ⟨f, vs, c', q', z1, z2, Reps.stay sy cap z3, sy _ _ z4 (by unfold LamX.CodeO; rfl)⟩
  · by_cases hj : n = j
    · subst hj
      have hl : n < o.length := (List.getElem?_eq_some_iff.mp e).1
      rw [List.getElem?_set_self hl] at q
      cases q
      exact ⟨a, e1, r⟩
    · rw [List.getElem?_set_ne hj] at q
      obtain ⟨b, z1, z2⟩ := O.at_ j so q
      refine ⟨b, z1, z2.stay sy fun w z _ => ?_⟩
      rw [upd_ne]
      · exact z
      · rintro rfl
        have h1 := (List.getElem?_eq_some_iff.mp e1)
        have h2 := (List.getElem?_eq_some_iff.mp z1)
        obtain ⟨l1, g1⟩ := h1
        obtain ⟨l2, g2⟩ := h2
        exact hj ((List.getElem_inj O.nd).mp (g1.trans g2.symm))
/-- d[k] = v, d a shared dict -/
theorem putO_dput {so so' : SObj} {y d : D} {q : Addr} {vy v : V} (ho : ObjAt K os H q so) (hn : ∀ ds, so ≠ .lst ds) (hy : Rep K os H y vy) (hv : Rep K os H d v) (h : putO so y d = some so') : ∃ m u, H q = some m ∧ isMu m = true ∧ isMu u = true ∧ DPut H q vy v (upd H q u) ∧ ObjAt K os (upd H q u) q so' := by
  cases so with
  | lst ds => exact absurd rfl (hn ds)
  | dK kvs =>
    obtain ⟨kvs', e1, e2, e3⟩ := ho
    have h : (match keyK y with | some k => if decide (kvs.length < sizeLine) = true then some (SObj.dK (putKV kvs k d)) else none | none => none) = some so' := h
    cases ek : keyK y with
    | none => rw [ek] at h; cases h
    | some k =>
      rw [ek] at h
      have h : (if decide (kvs.length < sizeLine) = true then _ else none) = some so' := h
      by_cases hz : decide (kvs.length < sizeLine) = true
      case neg => rw [if_neg hz] at h; cases h
      rw [if_pos hz] at h
      cases h
      obtain ⟨i1, i2⟩ := kv_put (k := k) hv e2 e3
      have hl : kvs'.length = kvs.length := by
        have := congrArg List.length e2
        rwa [List.length_map, List.length_map] at this
      have sy : Stay H (upd H q (.dK (putK kvs' k v))) := stay_mu e1 rfl
      exact ⟨_, _, e1, rfl, rfl, .inl ⟨kvs', k, e1, keyK_some ek hy, by rw [hl]; exact of_decide_eq_true hz, rfl⟩, _, upd_same, i1, Reps.stay sy _ i2⟩
  | dT kvs =>
    obtain ⟨kvs', e1, e2, e3⟩ := ho
    have h : (match keyT y with | some k => if decide (kvs.length < sizeLine) = true then some (SObj.dT (putKV kvs k d)) else none | none => none) = some so' := h
    cases ek : keyT y with
    | none => rw [ek] at h; cases h
    | some k =>
      rw [ek] at h
      have h : (if decide (kvs.length < sizeLine) = true then _ else none) = some so' := h
      by_cases hz : decide (kvs.length < sizeLine) = true
      case neg => rw [if_neg hz] at h; cases h
      rw [if_pos hz] at h
      cases h
      obtain ⟨i1, i2⟩ := kv_put (k := k) hv e2 e3
      have hl : kvs'.length = kvs.length := by
        have := congrArg List.length e2
        rwa [List.length_map, List.length_map] at this
      have sy : Stay H (upd H q (.dT (putK kvs' k v))) := stay_mu e1 rfl
      obtain ⟨b, e5, e6⟩ := keyT_some ek hy
      exact ⟨_, _, e1, rfl, rfl, .inr ⟨kvs', k, b, e1, e5, e6, by rw [hl]; exact of_decide_eq_true hz, rfl⟩, _, upd_same, i1, Reps.stay sy _ i2⟩
theorem set_both (hu : X.A.units + 64 < cLine) : PSet X (fun o i v H Q => rSetL o i v H Q ∨ rSetD o i v H Q) := by
  intro pins s σ H o i v ov iv u Q I ro ri rv h
  rcases h with h | h
  · exact set_list pins s σ H o i v ov iv u Q I ro ri rv h
  · exact set_dict (by have : X.A.units + 64 < cLine := hu; omega) pins s σ H o i v ov iv u Q I ro ri rv h
theorem gs_setIdx (hu : X.A.units + 64 < cLine) {i : Nat} {x : Str} {px spos : Pos} {ei : Expr} {k : IE} (hN : X.N[i]? = some x) (hv : Vis X.env.scope x) (hd : (x == ("__debug__" : Str)) = false) (hcd : (x == ("__classdict__" : Str)) = false) (he : PE X e (tE p X.K W ie)) (hk : PE X ei (tE p X.K W k))
    (hs : swapsWithSole [.Subscript (.Name x px) ei spos] e pos.line X.env = pure false) (hw : swappedStores [.Subscript (.Name x px) ei spos] e X.env = pure none) (hsl : ∀ a b c d, ei ≠ .Slice a b c d) :
    PS X (.Assign [.Subscript (.Name x px) ei spos] e pos) (tSt p X.K W (seqS [.setIdx (.bor i) k ie])) := by
  have hg := pg_sub (pos := spos) (pe_var (pos := px) hN hv hd hcd) hk (set_both hu) (by intro v; cases ei <;> first | exact absurd rfl (hsl _ _ _ _) | rfl)
  refine g1 (ps_asg he hg hs hw (by rfl)) fun E fr N ρ os o Dn σ H A h => ?_
  have h : OutS p X.K W E fr (match ρ[i]? with
      | some (.own (.lst ds)) => (p.evE ie ρ o).st ρ fun d o1 => (p.evE k ρ o1).st ρ fun kd o2 => match kd with
        | .int j => match putD ds j d with
          | some ds' => SRes.nx (ρ.set i (.own (.lst ds'))) o2
          | none => .stuck
        | _ => .stuck
      | some (.val (.obj n)) => (p.evE ie ρ o).st ρ fun d o1 => (p.evE k ρ o1).st ρ fun kd o2 => match o2[n]? with
        | some so => match putO so kd d with
          | some so' => SRes.nx ρ (o2.set n so')
          | none => .stuck
        | none => .stuck
      | _ => .stuck) Dn := h
  split at h
  · rename_i ds eρ
    obtain ⟨ds0, a, xs, eds, e1, n, e2, r⟩ := A.at_.env.own i _ eρ
    cases eds
    refine ⟨ρ, os, o, A.at_, (OutS.st N A h).mono fun d o1 os1 H1 _ P1 O1 q v rv => ⟨.ref a, e1, ?_⟩⟩
    have A1 := A.next N P1 O1
    refine ⟨ρ, os1, o1, A1.at_, (OutS.st N A1 q).mono fun kd o2 os2 H2 _ P2 O2 q2 kv rk => ?_⟩
    have P := P1.trans P2
    have A2 := A1.next N P2 O2
    have e3 := P.keep _ _ e2 n (fun _ z => by cases z)
    have n3 : a ∉ os2 := (P.del n e2).2.1
    have r3 := Reps.post P A.at_.obs ds r
    cases kd with
    | int j =>
      obtain rfl := rk.int
      cases ep : putD ds j d with
      | none => have q2 : OutS p X.K W E fr (match putD ds j d with | some ds' => SRes.nx (ρ.set i (.own (.lst ds'))) o2 | none => .stuck) Dn := q2; rw [ep] at q2; exact q2.elim
      | some ds' =>
        have q2 : OutS p X.K W E fr (match putD ds j d with | some ds' => SRes.nx (ρ.set i (.own (.lst ds'))) o2 | none => .stuck) Dn := q2
        rw [ep] at q2
        obtain ⟨m, em, rfl⟩ := putD_some ep
        rw [← r3.length] at em
        exact .inl ⟨a, xs, j, m, rfl, rfl, e3, em, q2.nx (A2.mutOwn N eρ e1 e3 n3 (r3.set m (Rep.post P2 O1 d rv)))⟩
    | _ => exact q2.elim
  · rename_i n eρ
    obtain ⟨v0, e1, r0⟩ := A.at_.env.val i _ eρ
    refine ⟨ρ, os, o, A.at_, (OutS.st N A h).mono fun d o1 os1 H1 _ P1 O1 q v rv => ⟨v0, e1, ?_⟩⟩
    have A1 := A.next N P1 O1
    refine ⟨ρ, os1, o1, A1.at_, (OutS.st N A1 q).mono fun kd o2 os2 H2 _ P2 O2 q2 kv rk => ?_⟩
    have P := P1.trans P2
    have A2 := A1.next N P2 O2
    have r2 := Rep.post P A.at_.obs _ r0
    unfold Rep at r2
    obtain ⟨a, ea, rfl⟩ := r2
    have q2 : OutS p X.K W E fr (match o2[n]? with
        | some so => match putO so kd d with
          | some so' => SRes.nx ρ (o2.set n so')
          | none => .stuck
        | none => .stuck) Dn := q2
    split at q2
    · rename_i so eo
      obtain ⟨a', ea', ho⟩ := O2.at_ n _ eo
      rw [ea] at ea'
      cases ea'
      split at q2
      · rename_i so' ep
        by_cases hl : ∃ ds, so = .lst ds
        · obtain ⟨ds, rfl⟩ := hl
          obtain ⟨xs, ex, rx⟩ := ho
          cases kd with
          | int j =>
            obtain rfl := rk.int
            obtain ⟨ds', ep', rfl⟩ := Option.map_eq_some_iff.mp (show (putD ds j d).map SObj.lst = some so' from ep)
            obtain ⟨m, em, rfl⟩ := putD_some ep'
            rw [← rx.length] at em
            have sy : Stay H2 (upd H2 a (.lst (xs.set m v))) := stay_upd ex
            exact .inl ⟨a, xs, j, m, rfl, rfl, ex, em, q2.nx (A2.mutObj N eo ea ex rfl rfl ⟨_, upd_same, Reps.stay sy _ (rx.set m (Rep.post P2 O1 d rv))⟩)⟩
          | _ => cases ep
        · obtain ⟨m, u, e1', hm, hu', dp, ob⟩ := putO_dput ho (fun ds z => hl ⟨ds, z⟩) rk (Rep.post P2 O1 d rv) ep
          exact .inr ⟨a, _, rfl, dp, q2.nx (A2.mutObj N eo ea e1' hm hu' ob)⟩
      · exact q2.elim
    · exact q2.elim
  · exact h.elim
/-- name op= e -/
theorem gs_aug {i : Nat} {x : Str} {op : Operator} {pos' : Pos} (hop : op = .Add ∨ op = .Sub) (hN : X.N.Nodup) (hi : X.N[i]? = some x) (hx : Loc X.env.scope x) (he : PE X e (tE p X.K W ie)) (hf : X.fn x = true ∨ X.env.scope.names.lookup x = some .local) :
    PS X (.AugAssign (.Name x pos') op e pos) (tSt p X.K W (seqS [.aug i op ie])) := by
  have ho : PIp X op fun vx vy H Q => ∃ x y d, vx = V.int x ∧ vy = V.int y ∧ augD op (.int x) (.int y) = some d ∧ ∀ v, Rep X.K [] H d v → Q v H := by
    rcases hop with rfl | rfl
    · rintro pins s σ H _ _ v u Q I r1 r2 ⟨x, y, d, rfl, rfl, ed, q⟩
      cases ed
      exact ip_add pins s σ H _ _ v u Q I r1 r2 ⟨x, y, rfl, rfl, q _ (.mkInt _)⟩
    · rintro pins s σ H _ _ v u Q I r1 r2 ⟨x, y, d, rfl, rfl, ed, q⟩
      cases ed
      exact ip_sub pins s σ H _ _ v u Q I r1 r2 ⟨x, y, rfl, rfl, q _ (.mkInt _)⟩
  refine g1 (ps_aug hN hi hx he ho hf) fun E fr N ρ os o Dn σ H A h => ?_
  have h : OutS p X.K W E fr (match getV ρ i with
    | some x => (p.evE ie ρ o).st ρ fun y o1 => match augD op x y with
      | some d => SRes.nx (ρ.set i (.val d)) o1
      | none => .stuck
    | none => .stuck) Dn := h
  split at h
  · rename_i dx ex
    obtain ⟨vx, e1, rx⟩ := A.at_.env.val i dx (getV_some ex)
    refine ⟨vx, e1, ρ, os, o, A.at_, (OutS.st N A h).mono fun dy o1 os1 H1 _ P1 O1 q vy ry => ?_⟩
    cases ea : augD op dx dy with
    | none => rw [ea] at q; exact q.elim
    | some d =>
      rw [ea] at q
      have rx' := Rep.post P1 A.at_.obs dx rx
      have A1 := A.next N P1 O1
      unfold augD at ea
      split at ea
      · cases ea
        exact ⟨_, _, _, rx'.int, ry.int, rfl, fun v rv => q.nx (A1.set (by rw [rv.int]; exact .mkInt _) i)⟩
      · cases ea
        exact ⟨_, _, _, rx'.int, ry.int, rfl, fun v rv => q.nx (A1.set (by rw [rv.int]; exact .mkInt _) i)⟩
      · cases ea
  · exact h.elim
/-- a, b = x, y stored from the right -/
theorem gs_par2 {i j : Nat} {st : Stmt} {ta : TA} {es : IEs} {c : List Expr} (ha : PA X c (tVs p X.K W es)) (h : PS X st (tPar i j (tVs p X.K W es))) : PS X st (tSt p X.K W (seqS [.par [i, j] es])) := g1 h fun E fr N ρ os o Dn σ H A h =>
  ⟨ρ, os, o, A.at_, (OutS.st N A h).mono fun ds o1 os1 H1 _ P1 O1 q vs r => by
    have A1 := A.next N P1 O1
    cases ds with
    | nil => exact q.elim
    | cons d1 ds =>
      cases ds with
      | nil => exact q.elim
      | cons d2 ds =>
        cases ds with
        | cons => exact q.elim
        | nil =>
          obtain ⟨v1, r', rfl, r1, r2⟩ := r.inv
          obtain ⟨v2, r'', rfl, r3, r4⟩ := r2.inv
          obtain rfl := r4.inv0
          have q : OutS p X.K W E fr (.nx ((ρ.set i (.val d1)).set j (.val d2)) o1) Dn := q
          exact ⟨v1, v2, rfl, q.nx ((A1.set r1 i).set r3 j)⟩⟩
theorem gs_par3 {i j l : Nat} {st : Stmt} {ta : TA} {es : IEs} {c : List Expr} (ha : PA X c (tVs p X.K W es)) (h : PS X st (tPar3 i j l (tVs p X.K W es))) : PS X st (tSt p X.K W (seqS [.par [i, j, l] es])) := g1 h fun E fr N ρ os o Dn σ H A h =>
  ⟨ρ, os, o, A.at_, (OutS.st N A h).mono fun ds o1 os1 H1 _ P1 O1 q vs r => by
    have A1 := A.next N P1 O1
    cases ds with
    | nil => exact q.elim
    | cons d1 ds =>
      cases ds with
      | nil => exact q.elim
      | cons d2 ds =>
        cases ds with
        | nil => exact q.elim
        | cons d3 ds =>
          cases ds with
          | cons => exact q.elim
          | nil =>
            obtain ⟨v1, r', rfl, r1, r2⟩ := r.inv
            obtain ⟨v2, r'', rfl, r3, r4⟩ := r2.inv
            obtain ⟨v3, r''', rfl, r5, r6⟩ := r4.inv
            obtain rfl := r6.inv0
            have q : OutS p X.K W E fr (.nx (((ρ.set i (.val d1)).set j (.val d2)).set l (.val d3)) o1) Dn := q
            exact ⟨v1, v2, v3, rfl, q.nx (((A1.set r1 i).set r3 j).set r5 l)⟩⟩
/-! ### tests -/
theorem tT_st {f : Bool → Objs → SRes} {R : Bool → Hp → Prop} (N : Ent K p.T E fr) (A : AtF p K E fr os H σ ρ o) (h : OutS p K W E fr ((p.evT ie ρ o).st ρ f) Dn)
    (hR : ∀ k o' os' H', AtF p K E fr os' H' σ ρ o' → OutS p K W E fr (f k o') Dn → R k H') : tT p K W ie σ H R := by
  refine ⟨ρ, os, o, A.at_, ?_⟩
  have e : (p.evT ie ρ o).st ρ f = (p.evE ie ρ o).st ρ fun d o1 => match d with
      | .bl b => f b o1
      | _ => .stuck := by
    show ((p.evE ie ρ o).bind fun d o1 => match d with | .bl b => Res.ok b o1 | _ => .stuck).st ρ f = _
    cases p.evE ie ρ o with
    | ok d o1 => cases d <;> rfl
    | err => rfl
    | stuck => rfl
  rw [e] at h
  refine (OutS.st N A h).mono fun d o1 os1 H1 _ P1 O1 q => ?_
  cases d with
  | bl k => exact ⟨k, rfl, hR k o1 os1 H1 (A.next N P1 O1) q⟩
  | _ => exact q.elim
theorem gs_if {c : Expr} {a b : List Stmt} {ic : IE} {ia ib : ISs} (hc : PT X c (tT p X.K W ic)) (ha : PSs X a (tSt p X.K W ia)) (hb : PSs X b (tSt p X.K W ib)) : PS X (.If c a b pos) (tSt p X.K W (seqS [.ife ic ia ib])) :=
  g1 (ps_if hc ha hb) fun E fr N ρ os o Dn σ H A h => tT_st N A h fun k o1 os1 H1 A1 q => by
    cases k with
    | true => exact ⟨E, fr, N, ρ, os1, o1, A1, q⟩
    | false => exact ⟨E, fr, N, ρ, os1, o1, A1, q⟩
theorem gs_while {c : Expr} {b : List Stmt} {ic : IE} {ib : ISs} (hp : PassesOwn (model X.prog X.w) X.A X.env X.xe) (hc : PT X c (tT p X.K W ic)) (hb : PSs X b (tSt p X.K W ib)) : PS X (.While c b [] pos) (tSt p X.K W (seqS [.whl ic ib])) :=
  g1 (ps_while hp hc hb) fun E fr N ρ os o Dn σ H A h => by
    refine ⟨fun n σ H => ∃ ρ os o, AtF p X.K E fr os H σ ρ o ∧ OutS p X.K W E fr (loopW (fun ρ o => p.evT ic ρ o) (fun ρ o => p.exSs ib ρ o) n ρ o) Dn, ⟨p.L, ρ, os, o, A, h⟩, ?_⟩
    rintro n σ H ⟨ρ, os, o, A, h⟩
    cases n with
    | zero => exact h.elim
    | succ n =>
      refine tT_st N A h fun k o1 os1 H1 A1 q => ?_
      cases k with
      | false => exact OutS.nx q A1
      | true =>
        refine ⟨fun σ' H' => ∃ ρ os o, AtF p X.K E fr os H' σ' ρ o ∧ OutS p X.K W E fr (loopW (fun ρ o => p.evT ic ρ o) (fun ρ o => p.exSs ib ρ o) n ρ o) Dn, fun σ' H' z => ⟨n, Nat.lt_succ_self n, z⟩, E, fr, N, ρ, os1, o1, A1, ?_⟩
        have q : OutS p X.K W E fr (match p.exSs ib ρ o1 with
          | .nx ρ' o' => loopW (fun ρ o => p.evT ic ρ o) (fun ρ o => p.exSs ib ρ o) n ρ' o'
          | .cnt ρ' o' => loopW (fun ρ o => p.evT ic ρ o) (fun ρ o => p.exSs ib ρ o) n ρ' o'
          | .brk ρ' o' => .nx ρ' o'
          | r => r) Dn := q
        show OutS p X.K W E fr (p.exSs ib ρ o1) _
        cases er : p.exSs ib ρ o1 with
        | nx ρ' o' => rw [er] at q; exact fun os2 H2 σ2 A2 => ⟨ρ', os2, o', A2, q⟩
        | cnt ρ' o' => rw [er] at q; exact fun os2 H2 σ2 A2 => ⟨ρ', os2, o', A2, q⟩
        | brk ρ' o' => rw [er] at q; exact q
        | ret d o' => rw [er] at q; exact q
        | err c xs ρ' o' => rw [er] at q; exact q
        | stuck => rw [er] at q; exact q
theorem AtF.imp {E' : List Addr → Hp → Prop} (A : AtF p K E fr os H σ ρ o) (h : E' os H) : AtF p K E' fr os H σ ρ o := ⟨A.at_, h, A.fresh⟩
theorem gs_for {tg iter : Expr} {b : List Stmt} {t : Tg} {src : ISrc} {ib : ISs} (hp : PassesOwn (model X.prog X.w) X.A X.env X.xe) (hc : X.calm = true) (hi : PI X tg iter (tS false p X.K W src)) (hg : PG X tg (gTg p X.K t)) (hb : PSs X b (tSt p X.K W ib)) (hs : ∀ x, foldedSetIterable iter X.env x = pure x) :
    PS X (.For tg iter b [] pos) (tSt p X.K W (seqS [.for t src ib])) :=
  g1 (ps_for hp hc hi hg hb hs) fun E fr N ρ os o Dn σ H A h => by
    refine ⟨ρ, os, o, A.at_, (OutS.st N A h).mono fun ds o1 os1 H1 _ P1 O1 q J yl => ?_⟩
    have A1 := A.next N P1 O1
    let E2 : List Addr → Hp → Prop := fun os H => E os H ∧ Kp os1 H1 os H
    have N2 : Ent X.K p.T E2 fr := ent_kp N
    have k0 : Kp os1 H1 os1 H1 := ⟨⟨[], by simp⟩, fun b u e _ _ => e⟩
    refine ⟨fun i m σ H => m = ds.length - i ∧ i ≤ ds.length ∧ ∃ ρ os o, AtF p X.K E2 fr os H σ ρ o ∧ OutS p X.K W E fr (loopF (fun d ρ => bindT t d ρ) (fun ρ o => p.exSs ib ρ o) (ds.drop i) ρ o) Dn, ⟨ds.length, by simp, Nat.zero_le _, ρ, os1, o1, A1.imp ⟨A1.e, k0⟩, q⟩, ?_⟩
    rintro i m σ H ⟨rfl, hi', ρ, os, o, A, h⟩
    have y := yl os H o A.e.2 A.at_.obs i
    by_cases hlt : i < ds.length
    · refine .inr ⟨(y.1 hlt).1, fun σ' H' => ∃ ρ os o, AtF p X.K E2 fr os H' σ' ρ o ∧ OutS p X.K W E fr (loopF (fun d ρ => bindT t d ρ) (fun ρ o => p.exSs ib ρ o) (ds.drop (i + 1)) ρ o) Dn, fun σ' H' nx => ⟨ds.length - (i + 1), by omega, rfl, hlt, nx⟩, fun x H3 hy => ?_⟩
      obtain ⟨s3, d, ed, rd⟩ := (y.1 hlt).2 x H3 hy
      have A3 := A.next N2 (.same s3) (A.at_.obs.same s3)
      have edrop : ds.drop i = d :: ds.drop (i + 1) := by
        rw [List.drop_eq_getElem_cons hlt]
        rw [List.getElem?_eq_getElem hlt] at ed
        cases ed
        rfl
      rw [edrop] at h
      have h : OutS p X.K W E fr (match bindT t d ρ with
        | none => .stuck
        | some ρ1 => match p.exSs ib ρ1 o with
          | .nx ρ' o' => loopF (fun d ρ => bindT t d ρ) (fun ρ o => p.exSs ib ρ o) (ds.drop (i + 1)) ρ' o'
          | .cnt ρ' o' => loopF (fun d ρ => bindT t d ρ) (fun ρ o => p.exSs ib ρ o) (ds.drop (i + 1)) ρ' o'
          | .brk ρ' o' => .nx ρ' o'
          | r => r) Dn := h
      cases eb : bindT t d ρ with
      | none => rw [eb] at h; exact h.elim
      | some ρ1 =>
        rw [eb] at h
        refine ⟨ρ, os, o, d, ρ1, A3.at_, rd, eb, fun σ4 A4 ag => ⟨E2, fr, N2, ρ1, os, o, A3.bind eb A4 ag, ?_⟩⟩
        have h : OutS p X.K W E fr (match p.exSs ib ρ1 o with
          | .nx ρ' o' => loopF (fun d ρ => bindT t d ρ) (fun ρ o => p.exSs ib ρ o) (ds.drop (i + 1)) ρ' o'
          | .cnt ρ' o' => loopF (fun d ρ => bindT t d ρ) (fun ρ o => p.exSs ib ρ o) (ds.drop (i + 1)) ρ' o'
          | .brk ρ' o' => .nx ρ' o'
          | r => r) Dn := h
        show OutS p X.K W E2 fr (p.exSs ib ρ1 o) _
        cases er : p.exSs ib ρ1 o with
        | nx ρ' o' => rw [er] at h; exact fun os2 H2 σ2 A2 => ⟨ρ', os2, o', A2, h⟩
        | cnt ρ' o' => rw [er] at h; exact fun os2 H2 σ2 A2 => ⟨ρ', os2, o', A2, h⟩
        | brk ρ' o' => rw [er] at h; exact fun os2 H2 σ2 A2 => OutS.nx h (A2.imp A2.e.1)
        | ret d o' => rw [er] at h; exact fun os2 H2 v z => h os2 H2 v z.1
        | err c xs ρ' o' => rw [er] at h; exact fun os2 H2 σ2 cls d A2 => h os2 H2 σ2 cls d (A2.imp A2.e.1)
        | stuck => rw [er] at h; exact h
    · have ei : i = ds.length := by omega
      refine .inl ⟨y.2 (by omega), ?_⟩
      rw [ei, List.drop_length] at h
      exact OutS.nx h (A.imp A.e.1)
/-! ### a, b = x, y: some are lists of the frame's own -/
def usedBy (σ : L2.St) (ρ : Frm) (a : Addr) : Prop := ∃ (j : Nat) (d : D), ρ[j]? = some (Slot.own d) ∧ σ[j]? = some (some (V.ref a))
/-- a value that waits for its slot -/
def Pend (K : PySem.W.Frag) (fr used : Addr → Prop) (os : List Addr) (H : Hp) (f : Bool) (d : D) (v : V) : Prop :=
  (slotF f d = .val d ∧ Rep K os H d v) ∨ (∃ ds a xs, slotF f d = .own (.lst ds) ∧ v = .ref a ∧ H a = some (.lst xs) ∧ a ∉ os ∧ fr a ∧ ¬ used a ∧ Reps K os H ds xs)
theorem Pend.post {T : Tbs} {used : Addr → Prop} {f : Bool} {d : D} {v : V} (P : Post T os H os' H') (O : OOk K os H o) (h : Pend K fr used os H f d v) : Pend K fr used os' H' f d v := by
  rcases h with ⟨e, r⟩ | ⟨ds, a, xs, e, ev, e1, na, hf, hu, r⟩
  · exact .inl ⟨e, Rep.post P O d r⟩
  · exact .inr ⟨ds, a, xs, e, ev, P.keep _ _ e1 na (fun _ z => by cases z), (P.del na e1).2.1, hf, hu, Reps.post P O ds r⟩
theorem AtF.adopt {ds : List D} {a : Addr} {xs : List V} (A : AtF p K E fr os H σ ρ o) (e : H a = some (.lst xs)) (na : a ∉ os) (hf : fr a) (hu : ¬ usedBy σ ρ a) (r : Reps K os H ds xs) (i : Nat) : AtF p K E fr os H (σ.set i (some (.ref a))) (ρ.set i (.own (.lst ds))) o := by
  have E := A.at_.env
  have get : ∀ {j : Nat} {s : Slot}, (ρ.set i (.own (.lst ds)))[j]? = some s → (i = j ∧ s = .own (.lst ds) ∧ (σ.set i (some (V.ref a)))[j]? = some (some (.ref a))) ∨ (i ≠ j ∧ ρ[j]? = some s ∧ (σ.set i (some (V.ref a)))[j]? = σ[j]?) := fun {j s} e => by
    by_cases hj : i = j
    · subst hj
      have hl : i < ρ.length := by simpa using (List.getElem?_eq_some_iff.mp e).1
      rw [List.getElem?_set_self hl] at e
      cases e
      exact .inl ⟨rfl, rfl, by rw [List.getElem?_set_self (by rw [E.len]; exact hl)]⟩
    · rw [List.getElem?_set_ne hj] at e
      exact .inr ⟨hj, e, List.getElem?_set_ne hj⟩
  refine ⟨⟨⟨by rw [List.length_set, List.length_set]; exact E.len, fun j d q => ?_, fun j d q => ?_, fun j l d e b hjl q1 q2 q3 => ?_, fun j np nl b cap q => ?_, fun j c ys q => ?_⟩, A.at_.obs, A.at_.tab⟩, A.e, fun j d b q1 q2 => ?_⟩
  · rcases get q with ⟨_, z, _⟩ | ⟨_, z, z2⟩
    · cases z
    · rw [z2]; exact E.val j d z
  · rcases get q with ⟨_, z, z2⟩ | ⟨_, z, z2⟩
    · cases z
      exact ⟨ds, a, xs, rfl, z2, na, e, r⟩
    · rw [z2]; exact E.own j d z
  · rcases get q1 with ⟨e1, z, z2⟩ | ⟨n1, z, z2⟩
    · rcases get q2 with ⟨e2, y, y2⟩ | ⟨n2, y, y2⟩
      · exact absurd (e1.symm.trans e2) hjl
      · rw [y2]
        intro w
        rw [z2] at q3
        cases q3
        exact hu ⟨l, e, y, w⟩
    · rcases get q2 with ⟨e2, y, y2⟩ | ⟨n2, y, y2⟩
      · rw [y2]
        intro w
        cases w
        rw [z2] at q3
        exact hu ⟨j, d, z, q3⟩
      · rw [y2]
        rw [z2] at q3
        exact E.dis j l d e b hjl z y q3
  · rcases get q with ⟨_, z, _⟩ | ⟨_, z, z2⟩
    · cases z
    · rw [z2]; exact E.clo j np nl b cap z
  · rcases get q with ⟨_, z, _⟩ | ⟨_, z, z2⟩
    · cases z
    · rw [z2]; exact E.exc j c ys z
  · rcases get q1 with ⟨_, z, z2⟩ | ⟨_, z, z2⟩
    · rw [z2] at q2
      cases q2
      exact hf
    · rw [z2] at q2
      exact A.fresh j d b z q2
theorem AtF.put {f : Bool} {d : D} {v : V} (A : AtF p K E fr os H σ ρ o) (h : Pend K fr (usedBy σ ρ) os H f d v) (i : Nat) : AtF p K E fr os H (σ.set i (some v)) (ρ.set i (slotF f d)) o := by
  rcases h with ⟨e, r⟩ | ⟨ds, a, xs, e, rfl, e1, na, hf, hu, r⟩
  · rw [e]
    exact A.set r i
  · rw [e]
    exact A.adopt e1 na hf hu r i
theorem used_set {i : Nat} {s : Slot} {v : V} {a : Addr} (h : usedBy (σ.set i (some v)) (ρ.set i s) a) (hl : σ.length = ρ.length) : usedBy σ ρ a ∨ ((∃ d, s = .own d) ∧ v = .ref a) := by
  obtain ⟨j, d, h1, h2⟩ := h
  by_cases hj : i = j
  · subst hj
    have hi : i < ρ.length := by simpa using (List.getElem?_eq_some_iff.mp h1).1
    rw [List.getElem?_set_self hi] at h1
    rw [List.getElem?_set_self (by rw [hl]; exact hi)] at h2
    cases h1
    cases h2
    exact .inr ⟨⟨d, rfl⟩, rfl⟩
  · rw [List.getElem?_set_ne hj] at h1 h2
    exact .inl ⟨j, d, h1, h2⟩
def tF (p : Pm) (K : PySem.W.Frag) (W : WX) (f : Bool) (ie : IE) : TE := if f then tM p K W ie else tE p K W ie
/-- one of them -/
theorem tF_of {f : Bool} {Q : VK} {Qd : D → Objs → List Addr → Hp → Prop} (N : Ent K p.T E fr) (A : AtF p K E fr os H σ ρ o) (h : Out p K W σ os H (p.evE ie ρ o) Qd)
    (m : ∀ d o1 os1 H1 v, Post p.T os H os1 H1 → OOk K os1 H1 o1 → Pend K fr (usedBy σ ρ) os1 H1 f d v → (∀ b u, H b = some u → b ∉ os → (∀ ps, u ≠ .tbl ps) → slotF f d ≠ .val d → v ≠ .ref b) → (∀ os2 H2, Post p.T os1 H1 os2 H2 → OOk K os2 H2 o1 → Qd d o1 os2 H2) → Q v H1) : tF p K W f ie σ H Q := by
  cases f with
  | false => exact ⟨ρ, os, o, A.at_, h.more fun d o1 os1 H1 _ P O q v r => m d o1 os1 H1 v P O (.inl ⟨rfl, r⟩) (fun _ _ _ _ _ z => absurd rfl z) q⟩
  | true =>
    refine ⟨ρ, os, o, A.at_, h.more fun d o1 os1 H1 _ P O q v H2 mk => ?_⟩
    have q2 : ∀ os2 H3, Post p.T os1 H2 os2 H3 → OOk K os2 H3 o1 → Qd d o1 os2 H3 := fun os2 H3 P2 O2 => q os2 H3 ((Post.same mk.same).trans P2) O2
    rcases mk.rep with ⟨nl, r⟩ | ⟨ds, a, xs, rfl, rfl, hn, rfl, r⟩
    · have e : slotF true d = .val d := by
        cases d <;> first
          | rfl
          | exact absurd rfl (nl _)
      exact m d o1 os1 H2 v (P.trans mk.post) (O.same mk.same) (.inl ⟨e, r⟩) (fun _ _ _ _ _ z => absurd e z) q2
    · have nos : a ∉ os1 := fun hm => by
        obtain ⟨u, z, _⟩ := O.mem hm
        rw [hn] at z; cases z
      refine m _ o1 os1 _ _ (P.trans mk.post) (O.same mk.same) (.inr ⟨ds, a, xs, rfl, rfl, upd_same, nos, N.new (N.step A.e A.at_.obs P) hn, ?_, r.same O mk.same⟩) (fun b u e nb nt _ z => ?_) q2
      · rintro ⟨j, d, h1, h2⟩
        obtain ⟨ds2, b, ys, z1, z2, z3, z4, z5⟩ := A.at_.env.own j d h1
        rw [h2] at z2
        cases z2
        have := P.keep _ _ z4 z3 (fun _ z => by cases z)
        rw [hn] at this; cases this
      · cases z
        have := P.keep _ _ e nb nt
        rw [hn] at this; cases this
theorem gs_parO2 {i j : Nat} {st : Stmt} {f1 f2 : Bool} {ie1 ie2 : IE} (h : PS X st (tPar i j (tCons (tF p X.K W f1 ie1) (tCons (tF p X.K W f2 ie2) tNil)))) : PS X st (tSt p X.K W (seqS [.parO [i, j] [f1, f2] (.cons ie1 (.cons ie2 .nil))])) := g1 h fun E fr N ρ os o Dn σ H A h => by
  have h := OutS.st N A (show OutS p X.K W E fr ((p.evEs (.cons ie1 (.cons ie2 .nil)) ρ o).st ρ fun ds o1 => match setsO ρ [i, j] [f1, f2] ds with
    | some ρ' => .nx ρ' o1
    | none => .stuck) Dn from h)
  have h : Out p X.K W σ os H ((p.evE ie1 ρ o).bind fun d1 o1 => (p.evEs (.cons ie2 .nil) ρ o1).bind fun ds o2 => .ok (d1 :: ds) o2) _ := h
  refine tF_of N A h.bind fun d1 o1 os1 H1 v1 P1 O1 pd1 _ q1 => ?_
  have A1 := A.next N P1 O1
  have h1 : Out p X.K W σ os1 H1 (((p.evE ie2 ρ o1).bind fun d2 o2 => (p.evEs .nil ρ o2).bind fun ds o3 => .ok (d2 :: ds) o3).bind fun ds o2 => .ok (d1 :: ds) o2) _ := q1 os1 H1 .refl O1
  refine tF_of N A1 h1.bind.bind fun d2 o2 os2 H2 v2 P2 O2 pd2 nw q2 => ?_
  have A2 := A1.next N P2 O2
  have h2 := q2 os2 H2 .refl O2
  have h3 : OutS p X.K W E fr (.nx ((ρ.set i (slotF f1 d1)).set j (slotF f2 d2)) o2) Dn := (h2.bind.ok (a := []) O2).ok O2 |>.ok O2
  have pd1' := pd1.post P2 O1
  have A3 := A2.put pd1' i
  have pd2' : Pend X.K fr (usedBy (σ.set i (some v1)) (ρ.set i (slotF f1 d1))) os2 H2 f2 d2 v2 := by
    rcases pd2 with z | ⟨ds, a, xs, e, rfl, e1, na, hf, hu, r⟩
    · exact .inl z
    · refine .inr ⟨ds, a, xs, e, rfl, e1, na, hf, fun hus => ?_, r⟩
      rcases used_set hus A2.at_.env.len with z | ⟨⟨d, z1⟩, z2⟩
      · exact hu z
      · rcases pd1 with ⟨y, _⟩ | ⟨ds1, a1, xs1, y1, y2, y3, y4, _⟩
        · rw [y] at z1; cases z1
        · rw [y2] at z2
          cases z2
          exact nw _ _ y3 y4 (fun _ z => by cases z) (by rw [e]; intro z; cases z) rfl
  exact ⟨v1, v2, rfl, h3.nx (A3.put pd2' j)⟩
/-- a shared object is made -/
theorem OOk.push {K : PySem.W.Frag} {T : Tbs} {os : List Addr} {H : Hp} {o : Objs} {a : Addr} {u : HO} {so : SObj} (O : OOk K os H o) (hn : H a = none) (hb : ObjAt K (os ++ [a]) (L2.upd H a u) a so) : Post T os H (os ++ [a]) (L2.upd H a u) ∧ OOk K (os ++ [a]) (L2.upd H a u) (o ++ [so]) := by
  have s1 := same_upd (o := u) hn
  have na : a ∉ os := fun hm => by
    obtain ⟨ys, w, _⟩ := O.mem hm
    rw [hn] at w; cases w
  have P : Post T os H (os ++ [a]) (L2.upd H a u) :=
    ⟨⟨[a], rfl, fun b hb => by rw [List.mem_singleton.mp hb]; exact .of hn⟩, fun b u e _ _ => s1 b u e, fun b e u w => e u (s1 b u w), fun t => LamX.Tabs.ext t s1⟩
  refine ⟨P, by simp [O.len], fun i so e => ?_, ?_⟩
  · by_cases hi : i < o.length
    · rw [List.getElem?_append_left hi] at e
      obtain ⟨b, e1, e2⟩ := O.at_ i so e
      refine ⟨b, by rw [List.getElem?_append_left (by rw [O.len]; exact hi)]; exact e1, ?_⟩
      cases so with
      | lst es =>
        obtain ⟨ys, z1, z2⟩ := e2
        exact ⟨ys, s1 _ _ z1, Reps.post P O es z2⟩
      | dK kvs =>
        obtain ⟨ys, z1, zk, z2⟩ := e2
        exact ⟨ys, s1 _ _ z1, zk, Reps.post P O _ z2⟩
      | dT kvs =>
        obtain ⟨ys, z1, zk, z2⟩ := e2
        exact ⟨ys, s1 _ _ z1, zk, Reps.post P O _ z2⟩
    · rw [List.getElem?_append_right (by omega)] at e
      have hi0 : i - o.length = 0 := by
        by_cases h0 : i - o.length = 0
        · exact h0
        · rw [List.getElem?_eq_none (by simp; omega)] at e; cases e
      rw [hi0] at e
      cases e
      have ei : i = o.length := by omega
      subst ei
      refine ⟨a, ?_, hb⟩
      rw [← O.len]
      simp
  · rw [List.nodup_append]
    exact ⟨O.nd, by simp, fun b hm c hc => by rw [List.mem_singleton.mp hc]; rintro rfl; exact na hm⟩
/-- {}, shared -/
def tDNewB (tk : Bool) : TE := fun _ H Q => ∀ a, H a = none → Q (.ref a) (upd H a (if tk then .dT [] else .dK []))
theorem pe_dnewB {tk : Bool} {dp : Pos} : PE X (.Dict [] [] dp) (tDNewB tk) := by
  cases tk with
  | true => exact pe_dnewT
  | false => exact pe_dnewK
theorem gs_newDic {st : Stmt} {i : Nat} {tk : Bool} (h : PS X st (tAsg (tDNewB tk) (gName i))) : PS X st (tSt p X.K W (seqS [.newDic i tk])) := g1 h fun E fr N ρ os o Dn σ H A h => fun a hn => by
  have hb : ObjAt X.K (os ++ [a]) (upd H a (if tk then .dT [] else .dK [])) a (if tk then .dT [] else .dK []) := by
    cases tk with
    | true => exact ⟨[], upd_same, rfl, .nil⟩
    | false => exact ⟨[], upd_same, rfl, .nil⟩
  obtain ⟨P, O2⟩ := A.at_.obs.push (T := p.T) hn hb
  have A2 := A.next N P O2
  have h : OutS p X.K W E fr (.nx (ρ.set i (.val (.obj o.length))) (o ++ [if tk then .dT [] else .dK []])) Dn := h
  refine h.nx (A2.set ?_ i)
  unfold Rep
  exact ⟨a, by rw [← A.at_.obs.len]; simp, rfl⟩
/-- return [..], a list that is shared from then on -/
theorem gs_retObj {es : List Expr} {as : IEs} {lp : Pos} (ha : PA X es (tVs p X.K W as)) : PS X (.Return (some (.List es lp)) pos) (tSt p X.K W (seqS [.retObj as])) := g1 (ps_ret (pe_lst ha)) fun E fr N ρ os o Dn σ H A h =>
  ⟨ρ, os, o, A.at_, (OutS.st N A h).mono fun ds o1 os1 H1 _ P1 O1 q vs r => by
    have A1 := A.next N P1 O1
    have q : OutS p X.K W E fr (if sz ds.length then .ret (.obj o1.length) (o1 ++ [.lst ds]) else .stuck) Dn := q
    split at q
    · rename_i hz
      have z := szP hz
      rw [← r.length] at z
      refine ⟨z, fun a hn => ?_⟩
      have s1 := same_upd (o := .lst vs) hn
      have P0 : Post p.T os1 H1 (os1 ++ [a]) (upd H1 a (.lst vs)) :=
        ⟨⟨[a], rfl, fun b hb => by rw [List.mem_singleton.mp hb]; exact .of hn⟩, fun b u e _ _ => s1 b u e, fun b e u w => e u (s1 b u w), fun t => LamX.Tabs.ext t s1⟩
      obtain ⟨P, O2⟩ := O1.push (T := p.T) (u := .lst vs) (so := .lst ds) hn ⟨vs, upd_same, Reps.post P0 O1 ds r⟩
      refine q (os1 ++ [a]) _ (.ref a) (N.step A1.e O1 P) O2 (P.tab A1.at_.tab) ?_
      unfold Rep
      exact ⟨a, by rw [← O1.len]; simp, rfl⟩
    · exact q.elim⟩
end
end Ev

set_option maxHeartbeats 4000000
/-! EvT: raise, try; all statements. -/
namespace Ev
open PySem PySem.Spec PyProof.Rows L2
section
variable {X : Cx} {p : Pm} {K : PySem.W.Frag} {W : WX} {E : List Addr → Hp → Prop} {fr : Addr → Prop} {os os' : List Addr} {H H' : Hp} {o o' : Objs} {σ : L2.St} {ρ : Frm} {α : Type} {Dn : Ends} {e : Expr} {ie : IE} {pos : Pos}
/-- C() -/
theorem pmk0 {C : Addr} {bmB : List Value} {B newId initId : String} {x : Str} {pn pos : Pos} (F : ExcBaseFacts B newId initId bmB) (q : PySem.W.excIn X.K C bmB newId = true) (gC : X.mg x = some (.ref C)) (kC : PySem.W.keepIn X.K (.ref C) = true) (r : Raises X (.ref C)) (hg : Gl X x) (hdb : (x == ("__debug__" : Str)) = false) :
    L2N.PMk X (.Call (.Name x pn) [] [] pos) (fun _ H Q => Q (.ref C) none H) := by
  intro pins s σ H Q I h
  refine wpAny_Call_Name_kw (ld_glob I hg gC ?_ hdb)
  refine PySem.W.callWith_K0 I.kIn kC ?_
  show wpAny _ _ (call (.ref C) []) _ _ _
  obtain ⟨bm, N, nm, qn, bs, hdct, sn, sub, ab, col, dd, k0, k1, k2, k3, k5, mN, hC, hN, hni, T⟩ := exc_obj I.kIn q
  exact wpAny_call_exc_subT F T hC hN hni (fun h' e hm => L2N.mk_of I hm r h (I.hok.gone hm.new)) (by show 0 ≤ sizeLine; exact Nat.zero_le _)
variable {D : Wd} {k : Nat} {ex : Addr → Str → Prop} {Γ : Scp}
theorem gs_raise (g : Good D k ex X W Γ) (hh : Γ.hot = false) {c : Str} {pn cp : Pos} (hg : Gl X c) (hd : (c == ("__debug__" : Str)) = false) (hc : c ∈ D.clss) : PS X (.Raise (some (.Call (.Name c pn) [] [] cp)) none pos) (tSt (pmX D k ex X) X.K W (seqS [.raise c .none])) := by
  obtain ⟨B, newId, initId, bmB, F, q, hm, hk, h1, h2, _⟩ := g.ok.exc c hc
  rw [← g.K] at q hk h1 h2
  rw [← g.mg] at hm
  refine g1 (L2N.ps_raise (g.fit.calm hh) g.tk (pmk0 F q hm hk (raises_own h1 h2) hg hd)) fun E fr N ρ os o Dn σ H A h => ?_
  have h : OutS (pmX D k ex X) X.K W E fr (.err c [] ρ o) Dn := h
  exact h os H σ _ _ A ⟨rfl, hc, .inl ⟨rfl, rfl⟩⟩
/-! ### try -/
/-- what is caught in the suite: the exception at a, of the class cls -/
def exOf (D : Wd) (a : Addr) (cls : Value) (d : Option Addr) : Addr → Str → Prop := fun a' c => a' = a ∧ cls = .ref (D.ad c) ∧ d = none ∧ c ∈ D.clss
structure GoodS (D : Wd) (k : Nat) (ex : Addr → Str → Prop) (X : Cx) (W : WX) (Γ : Scp) : Prop where
  g : Good D k ex X W Γ
  st : X.stack = X.env :: X.outer
  fm : X.env.frame = some X.env.locals
  fn : ∀ x, X.fn x = true
  own : Γ.hot = false → PassesOwn (model X.prog X.w) X.A X.env X.xe
  noX : Γ.hot = false → ∀ a c, ¬ ex a c
theorem GoodS.tr (g : GoodS D k ex X W Γ) (hh : Γ.hot = false) {W' : WX} {pn : List (Addr × Obj)} {xe : Value → Shared → Prop} (tk : L2N.Takes (X.tr pn xe) W') (ow : PassesOwn (model X.prog X.w) X.A X.env xe) (hx : Γ.isx = true → ∀ a c, ¬ ex a c) : GoodS D k ex (X.tr pn xe) W' Γ where
  g := ⟨⟨g.g.fit.N, g.g.fit.nd, g.g.fit.kind, g.g.fit.sc, g.g.fit.un, g.g.fit.calm, fun z => (by rw [hh] at z; cases z), g.g.fit.blt⟩, g.g.ok, g.g.prog, g.g.w, g.g.K, g.g.mg, g.g.over, tk, g.g.room, g.g.defs, g.g.clss, g.g.dics, g.g.lamT, fun h a c' c z => absurd z (hx h a c')⟩
  st := g.st
  fm := g.fm
  fn := g.fn
  own := fun _ => ow
  noX := g.noX
theorem hotc_suite {a : Addr} {oe : Obj} {cls : Value} {d : Option Addr} {pn : List (Addr × Obj)} (hz : L2N.Zn cls d oe) (hf : ∃ vs, oe.data = .fields vs) : L2H.HotC (X.suite a ((a, oe) :: pn)) := by
  obtain ⟨vs, e⟩ := hf
  exact ⟨(a, oe), ⟨rfl, vs, e, hz.2.2 vs e⟩, List.mem_cons_self⟩
theorem GoodS.suite (g : GoodS D k ex X W Γ) {a : Addr} {oe : Obj} {cls : Value} {d : Option Addr} {pn : List (Addr × Obj)} (hz : L2N.Zn cls d oe) (hf : ∃ vs, oe.data = .fields vs) : GoodS D k (exOf D a cls d) (X.suite a ((a, oe) :: pn)) WF { Γ with hot := true } where
  g := by
    refine ⟨⟨g.g.fit.N, g.g.fit.nd, g.g.fit.kind, g.g.fit.sc, g.g.fit.un, fun z => (by cases z), fun _ => hotc_suite hz hf, g.g.fit.blt⟩, g.g.ok, g.g.prog, g.g.w, g.g.K, g.g.mg, g.g.over, fun u s' ⟨_, _, _, _, _, _, _, _, _, _, _, _, _, _, _, _, z⟩ => z.elim, fun z => (by cases z), g.g.defs, g.g.clss, g.g.dics, g.g.lamT, fun _ a' c' c z hc hgl hok => ?_⟩
    obtain ⟨rfl, rfl, rfl, hc'⟩ := z
    obtain ⟨_, _, _, _, _, _, _, _, _, _, xc⟩ := g.g.ok.exc c' hc'
    rw [← g.g.K] at xc
    have ci := call_isE (X := X) (a := a') (pn := pn) xc hz.zc hf
    have hd := okName_d hok
    rcases hc with hc | rfl
    · obtain ⟨_, _, _, _, _, _, hm, _⟩ := g.g.ok.exc c hc
      rw [← g.g.mg] at hm
      refine ⟨.ref (D.ad c), fun pos => pe_glob hgl hm rfl hd.1, fun pins s σ H xs us Q I r h => ?_⟩
      obtain ⟨rfl, q⟩ := h
      have z := (g.g.ok.exm c' hc' c hc).2
      rw [← g.g.K] at z
      exact ci pins s σ H _ us Q I r ⟨.ref (D.ad c), .ref (D.ad c), _, rfl, fun u z => z, z, q⟩
    · have hm := g.g.fit.blt "ValueError" (by decide)
      refine ⟨.ty "ValueError", fun pos => pe_bltn hgl hm (by rfl) rfl (by decide) (by decide), fun pins s σ H xs us Q I r h => ?_⟩
      obtain ⟨rfl, q⟩ := h
      have z := g.g.ok.exv c' hc'
      rw [← g.g.K] at z
      exact ci pins s σ H _ us Q I r ⟨.ty "ValueError", .type "ValueError", _, rfl, fun u z => z, z, q⟩
  st := g.st
  fm := g.fm
  fn := g.fn
  own := fun z => by cases z
  noX := fun z => by cases z
/-! #### the frame within the suite, and behind it -/
theorem clrX_get {ρ : Frm} {i j : Nat} {s : Slot} (h : (clrX ρ i)[j]? = some s) (n : s ≠ .none) : ρ[j]? = some s ∧ i ≠ j ∧ ∀ c xs, s ≠ .exc c xs := by
  unfold clrX at h
  have hj : i ≠ j := set_ne h (fun z => n z.symm)
  rw [List.getElem?_set_ne hj, List.getElem?_map] at h
  cases e : ρ[j]? with
  | none => rw [e] at h; cases h
  | some s0 =>
    rw [e] at h
    have h : some (noX s0) = some s := h
    cases h
    cases s0 with
    | exc c xs => exact absurd rfl n
    | _ => exact ⟨rfl, hj, fun c xs z => by cases z⟩
theorem AtF.inSuite {c' : Str} {a : Addr} {cls : Value} {i : Nat} (nx : ∀ a c, ¬ ex a c) (hx : exOf D a cls none a c') (A : AtF (pmX D k ex X) K E fr os H σ ρ o) : AtF (pmX D k (exOf D a cls none) X) K E fr os H (σ.set i (some (.ref a))) (ρ.set i (.exc c' [])) o := by
  have En := A.at_.env
  refine ⟨⟨⟨by rw [List.length_set, List.length_set]; exact En.len, fun j d q => ?_, fun j d q => ?_, fun j l d e b hjl q1 q2 q3 => ?_, fun j np nl b cap q => ?_, fun j c xs q => ?_⟩, A.at_.obs, A.at_.tab⟩, A.e, fun j d b q1 q2 => ?_⟩
  · have hj := set_ne q (fun z => by cases z)
    rw [List.getElem?_set_ne hj] at q ⊢
    exact En.val j d q
  · have hj := set_ne q (fun z => by cases z)
    rw [List.getElem?_set_ne hj] at q ⊢
    exact En.own j d q
  · have hj := set_ne q1 (fun z => by cases z)
    have hl := set_ne q2 (fun z => by cases z)
    rw [List.getElem?_set_ne hj] at q1 q3
    rw [List.getElem?_set_ne hl] at q2 ⊢
    exact En.dis j l d e b hjl q1 q2 q3
  · have hj := set_ne q (fun z => by cases z)
    rw [List.getElem?_set_ne hj] at q ⊢
    exact En.clo j np nl b cap q
  · by_cases hj : i = j
    · subst hj
      have hi : i < ρ.length := by simpa using (List.getElem?_eq_some_iff.mp q).1
      rw [List.getElem?_set_self hi] at q
      cases q
      exact ⟨a, by rw [List.getElem?_set_self (by rw [En.len]; exact hi)], hx⟩
    · rw [List.getElem?_set_ne hj] at q
      obtain ⟨b, _, z⟩ := En.exc j c xs q
      exact absurd z (nx b c)
  · have hj := set_ne q1 (fun z => by cases z)
    rw [List.getElem?_set_ne hj] at q1 q2
    exact A.fresh j d b q1 q2
theorem AtF.behind {ex' : Addr → Str → Prop} {i : Nat} (A : AtF (pmX D k ex' X) K E fr os H σ ρ o) : AtF (pmX D k ex X) K E fr os H (σ.set i none) (clrX ρ i) o := by
  have En := A.at_.env
  refine ⟨⟨⟨by unfold clrX; rw [List.length_set, List.length_set, List.length_map]; exact En.len, fun j d q => ?_, fun j d q => ?_, fun j l d e b hjl q1 q2 q3 => ?_, fun j np nl b cap q => ?_, fun j c xs q => ?_⟩, A.at_.obs, A.at_.tab⟩, A.e, fun j d b q1 q2 => ?_⟩
  · obtain ⟨z, hj, _⟩ := clrX_get q (fun z => by cases z)
    rw [List.getElem?_set_ne hj]
    exact En.val j d z
  · obtain ⟨z, hj, _⟩ := clrX_get q (fun z => by cases z)
    rw [List.getElem?_set_ne hj]
    exact En.own j d z
  · obtain ⟨z, hj, _⟩ := clrX_get q1 (fun z => by cases z)
    obtain ⟨y, hl, _⟩ := clrX_get q2 (fun z => by cases z)
    rw [List.getElem?_set_ne hj] at q3
    rw [List.getElem?_set_ne hl]
    exact En.dis j l d e b hjl z y q3
  · obtain ⟨z, hj, _⟩ := clrX_get q (fun z => by cases z)
    rw [List.getElem?_set_ne hj]
    exact En.clo j np nl b cap z
  · obtain ⟨z, hj, n⟩ := clrX_get q (fun z => by cases z)
    exact absurd rfl (n c xs)
  · obtain ⟨z, hj, _⟩ := clrX_get q1 (fun z => by cases z)
    rw [List.getElem?_set_ne hj] at q2
    exact A.fresh j d b z q2
theorem gs_try (g : GoodS D k ex X W Γ) (hh : Γ.hot = false) {i : Nat} {n c : Str} {body suite : List Stmt} {b₀ : Stmt} {np pos' pos : Pos} {ib ih : ISs} (hi : Γ.N[i]? = some n) (hln : X.env.scope.names.lookup n = some .local) (hg : Gl X c) (hd : (c == ("__debug__" : Str)) = false) (hc : c ∈ D.clss)
    (hb : ∀ {W' : WX} {pn : List (Addr × Obj)} {xe : Value → Shared → Prop}, GoodS D k ex (X.tr pn xe) W' Γ → PSs (X.tr pn xe) body (tSt (pmX D k ex X) X.K W' ib))
    (hsu : ∀ {ex' : Addr → Str → Prop} {a : Addr} {pn : List (Addr × Obj)}, GoodS D k ex' (X.suite a pn) WF { Γ with hot := true } → PSs (X.suite a pn) (b₀ :: suite) (tSt (pmX D k ex' X) X.K WF ih)) :
    PS X (.Try body [.ExceptHandler (some (.Name c np)) (some n) (b₀ :: suite) pos'] [] [] pos) (tSt (pmX D k ex X) X.K W (seqS [.tryAs ib c i ih])) := by
  obtain ⟨_, _, _, _, _, _, hm, _⟩ := g.g.ok.exc c hc
  rw [← g.g.mg] at hm
  have nx := g.noX hh
  refine g1 (L2N.ps_try_as (tb := fun W' => tSt (pmX D k ex X) X.K W' ib) (ts := fun a cls d => tSt (pmX D k (exOf D a cls d) X) X.K WF ih) g.st g.fm (by rw [g.g.fit.N]; exact g.g.fit.nd) (by rw [g.g.fit.N]; exact hi) hln ⟨hg, hd, .inl hm⟩ g.g.tk
    (fun W' pn xe tk ow => hb (g.tr hh tk ow fun _ => nx)) fun a oe cls d pn hz hf => hsu (g.suite hz hf)) fun E fr N ρ os o Dn σ H A h => ?_
  refine ⟨E, fr, N, ρ, os, o, A, ?_⟩
  have h : OutS (pmX D k ex X) X.K W E fr (match (pmX D k ex X).exSs ib ρ o with
    | .err c' xs ρ' o' => if D.T.isa c' c then match xs with
        | [] => match (pmX D k ex X).exSs ih (ρ'.set i (.exc c' [])) o' with
          | .nx ρ2 o2 => SRes.nx (clrX ρ2 i) o2
          | .brk ρ2 o2 => .brk (clrX ρ2 i) o2
          | .cnt ρ2 o2 => .cnt (clrX ρ2 i) o2
          | .ret d o2 => .ret d o2
          | _ => .stuck
        | _ => .stuck
      else .err c' xs ρ' o'
    | r => r) Dn := h
  show OutS (pmX D k ex X) X.K _ E fr ((pmX D k ex X).exSs ib ρ o) Dn
  have hiρ : i < Γ.N.length := (List.getElem?_eq_some_iff.mp hi).1
  cases er : (pmX D k ex X).exSs ib ρ o with
  | err c' xs ρ' o' =>
    rw [er] at h
    intro os1 H1 σ1 cls d A1 x
    obtain ⟨rfl, hc', x⟩ := x
    have hm' := (g.g.ok.exm c' hc' c hc).1
    rw [← g.g.K] at hm'
    refine ⟨D.T.isa c' c, hm', fun hy a ha => ?_, fun hn => ?_⟩
    · dsimp only at h
      rw [if_pos hy] at h
      cases xs with
      | cons => exact h.elim
      | nil =>
        have hd0 : d = none := by
          rcases x with ⟨_, z⟩ | ⟨_, _, _, z, _⟩
          · exact z
          · cases z
        subst hd0
        have h : OutS (pmX D k ex X) X.K W E fr (match (pmX D k ex X).exSs ih (ρ'.set i (.exc c' [])) o' with
          | .nx ρ2 o2 => SRes.nx (clrX ρ2 i) o2
          | .brk ρ2 o2 => .brk (clrX ρ2 i) o2
          | .cnt ρ2 o2 => .cnt (clrX ρ2 i) o2
          | .ret d o2 => .ret d o2
          | _ => .stuck) Dn := h
        refine ⟨E, fr, N, ρ'.set i (.exc c' []), os1, o', A1.inSuite nx ⟨rfl, rfl, rfl, hc'⟩, ?_⟩
        show OutS _ X.K WF E fr ((pmX D k ex X).exSs ih (ρ'.set i (.exc c' [])) o') _
        cases er2 : (pmX D k ex X).exSs ih (ρ'.set i (.exc c' [])) o' with
        | nx ρ2 o2 => rw [er2] at h; exact fun os2 H2 σ2 A2 => h os2 H2 _ A2.behind
        | brk ρ2 o2 => rw [er2] at h; exact fun os2 H2 σ2 A2 => h os2 H2 _ A2.behind
        | cnt ρ2 o2 => rw [er2] at h; exact fun os2 H2 σ2 A2 => h os2 H2 _ A2.behind
        | ret d o2 => rw [er2] at h; exact h
        | err c xs ρ o => rw [er2] at h; exact h.elim
        | stuck => rw [er2] at h; exact h.elim
    · dsimp only at h
      rw [if_neg (by rw [hn]; exact Bool.false_ne_true)] at h
      exact h os1 H1 σ1 _ d A1 ⟨rfl, hc', x⟩
  | nx ρ' o' => rw [er] at h; exact h
  | brk ρ' o' => rw [er] at h; exact h
  | cnt ρ' o' => rw [er] at h; exact h
  | ret d o' => rw [er] at h; exact h
  | stuck => rw [er] at h; exact h
end
end Ev

set_option maxHeartbeats 4000000
/-! EvU: all statements. -/
namespace Ev
open PySem PySem.Spec PyProof.Rows L2
section
variable {D : Wd} {k : Nat} {ex : Addr → Str → Prop} {X : Cx} {W : WX} {Γ : Scp}
theorem sw_plain {e : Expr} (h : isComp e = false) (t : Option Expr) (l : Nat) (env : Env) : swapsWith e t l env = pure false := by
  cases e <;> first
    | rfl
    | cases h
theorem block_fn (g : Fits X Γ) : X.env.blockKind = .function := by
  unfold Env.blockKind
  rw [g.sc, g.kind]
  rfl
theorem sw_par (g : Fits X Γ) {ts vs : List Expr} {k1 k2} {p1 p2 : Pos} {r : Option (List Str)} (h : parN Γ ts vs = some r) : swappedStores [.Tuple ts k1 p1] (.Tuple vs k2 p2) X.env = pure r := by
  have hk := block_fn g
  have hs : ∀ x, X.env.kindOf x = Γ.sc.names.lookup x := fun x => by
    show X.env.scope.names.lookup x = _
    rw [g.sc]
  unfold parN at h
  unfold swappedStores
  simp only [hk, hs]
  split at h
  · rename_i hc
    cases h
    refine (if_pos ?_).trans rfl
    rw [hc]
    rfl
  · rename_i hc
    refine (if_neg ?_).trans ?_
    · intro z
      apply hc
      simpa using z
    split at h
    · cases h
    · rename_i hc2
      refine (if_neg ?_).trans ?_
      · exact hc2
      simp only at h
      split at h
      · rename_i hc3
        cases h
        refine (if_pos ?_).trans rfl
        exact hc3
      · rename_i hc3
        refine (if_neg ?_).trans ?_
        · exact hc3
        split at h
        · rename_i hc4
          cases h
          exact (if_pos hc4).trans rfl
        · rename_i hc4
          refine (if_neg hc4).trans ?_
          split at h
          · cases h
          · rename_i hc5
            cases h
            exact (if_neg hc5).trans rfl
theorem sw_none {ts : List Expr} {k1} {p1 : Pos} {e : Expr} (h : ∀ a b c, e ≠ .Tuple a b c) : swappedStores [.Tuple ts k1 p1] e X.env = pure none := by
  cases e <;> first
    | exact absurd rfl (h _ _ _)
    | rfl
/-- a comprehension whose store is exchanged -/
theorem comp_set (hF : CallsOk D k) (hC : CloOk D k) {n : Nat} (g : Good D k ex X W Γ) (hfn : ∀ x, X.fn x = true) {elt : Expr} {gs : List Comprehension} {scope : Scope} {pos spos py : Pos} {ie : IE} {i : Nat} {y : Str} (h : cE n Γ (.ListComp elt gs scope pos) = some ie)
    (hy : X.N[i]? = some y) (hyl : Loc X.env.scope y) : PS X (.Assign [.Name y py] (.ListComp elt gs scope pos) spos) (tAsg (tM (pmX D k ex X) X.K W ie) (gName i)) ∧ isNew ie = true := by
  have hM := cE_ok (ex := ex) hF hC n g _ _ h
  have hND : X.N.Nodup := by rw [g.fit.N]; exact g.fit.nd
  cases n with
  | zero => unfold cE at h; cases h
  | succ n =>
    replace h := cE_cases h
    rcases h with h | h
    · cases h
    cases gs with
    | nil => unfold cO at h; cases h
    | cons gen gs =>
      obtain ⟨tg, iter, ifs, as⟩ := gen
      by_cases has : gs = [] ∧ as = 0
      · obtain ⟨rfl, rfl⟩ := has
        have hsw : ∃ b, swapsWith (.ListComp elt [⟨tg, iter, ifs, 0⟩] scope pos) (some (.Name y py)) spos.line X.env = pure b ∧ (b = true → X.env.scope.names.lookup y = some .local) := by
          refine ⟨(X.env.blockKind == .function && X.env.kindOf y == some .local && py.line == pos.line && !(scope.names.any fun (n, k) => n == y && (k == .local || k == .cell))), rfl, fun z => ?_⟩
          simp only [Bool.and_eq_true] at z
          have w : (X.env.scope.names.lookup y == some NameKind.local) = true := z.1.1.2
          simpa using w
        obtain ⟨b, hb, hbl⟩ := hsw
        have hE' : ∀ e a, cE n Γ e = some a → PE X e (tE (pmX D k ex X) X.K W a) ∧ ∀ x y, e ≠ .Starred x y := fun e a q => ⟨(cE_ok hF hC n g e a q).val', cE_ns q⟩
        unfold cO at h
        simp only at h
        split at h
        · rename_i hg
          rw [Bool.and_eq_true, Bool.or_eq_true, Bool.not_eq_true'] at hg
          split at h
          · rename_i x t s c h1 h2 h3 h4
            split at h
            · rename_i hall
              cases h
              refine ⟨?_, rfl⟩
              cases b with
              | false => exact ps_set hND hy hyl (hM.new' rfl) hb (.inl (hfn y))
              | true =>
                have hloc := hbl rfl
                have ok : BlkOk X.N X.env.scope scope (ownOf Γ.N scope) := by
                  rw [g.fit.N, g.fit.sc]
                  exact blkOk_by hg.2
                have hw : ∀ i ∈ tgS t, i ∈ (ownOf Γ.N scope).map (·.2) := fun i hi => by
                  have z := List.all_eq_true.mp hall i hi
                  simpa using z
                cases hh : Γ.hot with
                | false =>
                  have hc := g.fit.calm hh
                  refine gm_setLc hc hND hy hloc hb (cSrc_ok g.fit hE' h3) ok (fun s H C cl fp => ?_) (fun s H C cl fp => ?_) (fun s H C cl fp => ?_) (fsi_plain (cSrc_set h3) _) hw
                  · exact tg_ok (p := pmX D k ex X) (g.blk hh scope ok.kind s H C cl fp).fit (.inl hc) 10 tg t h2 fun i hi => sto_own g ok (hw i hi)
                  · exact cIfs_ok (fun e a q => (cE_ok hF hC n (g.blk hh scope ok.kind s H C cl fp) e a q).test) h4
                  · exact (cE_ok hF hC n (g.blk hh scope ok.kind s H C cl fp) _ _ h1).val'
                | true =>
                  obtain ⟨q, q1, q2⟩ := g.fit.hotc hh
                  have hnm := hg.1.resolve_left (by rw [hh]; exact Bool.noConfusion)
                  refine gm_setLcH q1 q2 hND hy hloc hb (cSrcH_ok g.fit hE' hnm h3) ok ⟨fun s H C cl fp => ?_, fun s H C cl fp => ?_, fun s H C cl fp => ?_⟩ (fsi_plain (cSrc_set h3) _) hw
                  · exact tg_ok (p := pmX D k ex X) (g.blkH q1 scope ok.kind s H C cl fp).fit (.inr ⟨q, q1, List.mem_singleton_self q⟩) 10 tg t h2 fun i hi => sto_own (cl := cl) (fp := fp) (s := s) (H := H) (C := C) g ok (hw i hi)
                  · exact cIfs_ok (fun e a z => (cE_ok hF hC n (g.blkH q1 scope ok.kind s H C cl fp) e a z).test) h4
                  · exact (cE_ok hF hC n (g.blkH q1 scope ok.kind s H C cl fp) _ _ h1).val'
            · cases h
          · cases h
        · cases h
      · exfalso
        cases gs with
        | nil =>
          cases as with
          | ofNat m =>
            cases m with
            | zero => exact has ⟨rfl, rfl⟩
            | succ m => unfold cO at h; cases h
          | negSucc m => unfold cO at h; cases h
        | cons =>
          cases as with
          | ofNat m =>
            cases m with
            | zero => unfold cO at h; cases h
            | succ m => unfold cO at h; cases h
          | negSucc m => unfold cO at h; cases h
end
end Ev

set_option maxHeartbeats 8000000
/-! EvV: statements: the code tree's meaning is what the program does. -/
namespace Ev
open PySem PySem.Spec PyProof.Rows L2
section
variable {D : Wd} {k : Nat} {ex : Addr → Str → Prop} {X : Cx} {W : WX} {Γ : Scp}
theorem cSs_ok {p : Pm} {f : Stmt → Option (List IS)} (hf : ∀ st is, f st = some is → PS X st (tSt p X.K W (seqS is))) : ∀ {b : List Stmt} {is : List IS}, cSs f b = some is → PSs X b (tSt p X.K W (seqS is))
  | [], is, h => by unfold cSs at h; cases h; exact gss_nil
  | s :: r, is, h => by
    unfold cSs at h
    split at h
    · rename_i a b h1 h2
      cases h
      exact gss_cons (hf s a h1) (cSs_ok hf h2)
    · cases h
      exact ⟨fun pins s' σ H Dn I ⟨E, fr, N, ρ, os, o, A, hw⟩ => hw.elim⟩
theorem ne_cons {α : Type} {l : List α} (h : (!l.isEmpty) = true) : ∃ b r, l = b :: r := by
  cases l with
  | nil => cases h
  | cons b r => exact ⟨b, r, rfl⟩
/-- name = value -/
theorem set_ok (hF : CallsOk D k) (hC : CloOk D k) (g : GoodS D k ex X W Γ) {n : Nat} {x : Str} {py pos : Pos} {v : Expr} {i : Nat} {e : IE} (h1 : cStore Γ x = some i) (h2 : cE n Γ v = some e) :
    PS X (.Assign [.Name x py] v pos) (tSt (pmX D k ex X) X.K W (seqS [if Γ.muts.contains i && isNew e then .setOwn i e else .set (.name i) e])) := by
  obtain ⟨s1, s2, s3⟩ := cStore_some h1
  have hN : X.N[i]? = some x := by rw [g.g.fit.N]; exact s1
  have hND : X.N.Nodup := by rw [g.g.fit.N]; exact g.g.fit.nd
  have hl : Loc X.env.scope x := by rw [g.g.fit.sc]; exact isLoc_loc s2
  have sn := cE_ok (ex := ex) hF hC n g.g v e h2
  have key : (isNew e = true → PS X (.Assign [.Name x py] v pos) (tAsg (tM (pmX D k ex X) X.K W e) (gName i))) ∧ (isNew e = false → PS X (.Assign [.Name x py] v pos) (tAsg (tE (pmX D k ex X) X.K W e) (gName i))) := by
    by_cases hv : isComp v = true
    · cases v with
      | ListComp elt gs scope cp =>
        obtain ⟨q, q2⟩ := comp_set (py := py) (spos := pos) hF hC g.g g.fn h2 hN hl
        exact ⟨fun _ => q, fun z => by rw [q2] at z; cases z⟩
      | SetComp =>
        exfalso
        cases n with
        | zero => cases h2
        | succ n => rcases cE_cases h2 with h2 | h2 <;> cases h2
      | DictComp =>
        exfalso
        cases n with
        | zero => cases h2
        | succ n => rcases cE_cases h2 with h2 | h2 <;> cases h2
      | _ => cases hv
    · have hv : isComp v = false := by simpa using hv
      exact ⟨fun z => ps_set hND hN hl (sn.new' z) (sw_plain hv _ _ _) (.inl (g.fn x)), fun _ => ps_set hND hN hl sn.val' (sw_plain hv _ _ _) (.inl (g.fn x))⟩
  cases hn : isNew e with
  | false =>
    rw [Bool.and_false]
    exact gs_setn (key.2 hn)
  | true =>
    rw [Bool.and_true]
    cases Γ.muts.contains i with
    | true => exact gs_own (key.1 hn)
    | false => exact gs_setM (key.1 hn)
theorem sws_plain {e t : Expr} {l : Nat} {env : Env} (h : isComp e = false) : swapsWithSole [t] e l env = pure false := sw_plain h (some t) l env
theorem parN_some {ts vs : List Expr} {ns : List Str} (h : parN Γ ts vs = some (some ns)) : vs.length = ts.length ∧ ns.length = ts.length ∧ ns = ts.filterMap fun
    | .Name id pos => if Γ.sc.names.lookup id == some .local && pos.line == (ts.head?.map (·.pos.line)).getD 0 then some id else none
    | _ => none := by
  unfold parN at h
  split at h
  · cases h
  · rename_i h1
    split at h
    · cases h
    · simp only at h
      split at h
      · cases h
      · rename_i h3
        split at h
        · cases h
        · split at h
          · cases h
          · cases h
            simp only [Bool.or_eq_true, not_or, bne_iff_ne, ne_eq, Decidable.not_not] at h1 h3
            exact ⟨h1.2, h3.1, rfl⟩
theorem ite_id {c : Bool} {x y : Str} (h : (if c = true then some x else none) = some y) : c = true ∧ x = y := by
  cases c with
  | true => exact ⟨rfl, Option.some.inj h⟩
  | false => cases h
theorem loc_of {x : Str} {b : Bool} (h : (Γ.sc.names.lookup x == some NameKind.local && b) = true) : Γ.sc.names.lookup x = some .local := by
  rw [Bool.and_eq_true] at h
  simpa using h.1
theorem par2 {x y : Str} {px py : Pos} {vs : List Expr} {ns : List Str} (h : parN Γ [.Name x px, .Name y py] vs = some (some ns)) : ns = [x, y] ∧ Γ.sc.names.lookup x = some .local ∧ Γ.sc.names.lookup y = some .local ∧ vs.length = 2 := by
  obtain ⟨h1, h2, h3⟩ := parN_some h
  simp only [List.filterMap_cons, List.filterMap_nil] at h3
  split at h3
  · split at h3
    · rw [h3] at h2; cases h2
    · rw [h3] at h2; cases h2
  · rename_i a ea
    split at h3
    · rw [h3] at h2; cases h2
    · rename_i b eb
      obtain ⟨c1, rfl⟩ := ite_id ea
      obtain ⟨c2, rfl⟩ := ite_id eb
      exact ⟨h3, loc_of c1, loc_of c2, h1⟩
theorem par3 {x y z : Str} {px py pz : Pos} {vs : List Expr} {ns : List Str} (h : parN Γ [.Name x px, .Name y py, .Name z pz] vs = some (some ns)) : ns = [x, y, z] ∧ Γ.sc.names.lookup x = some .local ∧ Γ.sc.names.lookup y = some .local ∧ Γ.sc.names.lookup z = some .local ∧ vs.length = 3 := by
  obtain ⟨h1, h2, h3⟩ := parN_some h
  simp only [List.filterMap_cons, List.filterMap_nil] at h3
  split at h3
  · split at h3
    · split at h3 <;> (rw [h3] at h2; cases h2)
    · split at h3 <;> (rw [h3] at h2; cases h2)
  · rename_i a ea
    split at h3
    · split at h3 <;> (rw [h3] at h2; cases h2)
    · rename_i b eb
      split at h3
      · rw [h3] at h2; cases h2
      · rename_i c ec
        obtain ⟨c1, rfl⟩ := ite_id ea
        obtain ⟨c2, rfl⟩ := ite_id eb
        obtain ⟨c3, rfl⟩ := ite_id ec
        exact ⟨h3, loc_of c1, loc_of c2, loc_of c3, h1⟩
theorem par_ok (hF : CallsOk D k) (hC : CloOk D k) (g : GoodS D k ex X W Γ) (hh : Γ.hot = false) {ts vs : List Expr} {k1 k2} {p1 p2 pos : Pos} {ns : List Str} {is : List Nat} {es : IEs} (h1 : parN Γ ts vs = some (some ns)) (h2 : parIs Γ ts = some is) (h3 : cEs (cE 40 Γ) vs = some es) :
    PS X (.Assign [.Tuple ts k1 p1] (.Tuple vs k2 p2) pos) (tSt (pmX D k ex X) X.K W (seqS [.par is es])) := by
  have F := g.g.fit
  have hND : X.N.Nodup := by rw [F.N]; exact F.nd
  have hsc := F.sc
  have hc := F.calm hh
  have ha := (cEs_val (p := pmX D k ex X) (W := W) (X := X) (fun e a q => ⟨(cE_ok (ex := ex) hF hC _ g.g e a q).val', cE_ns q⟩) h3).1
  have sw := sw_par F h1 (k1 := k1) (k2 := k2) (p1 := p1) (p2 := p2)
  unfold parIs at h2
  split at h2
  · rename_i x px y py
    split at h2
    · rename_i i j e1 e2
      split at h2
      · cases h2
      · rename_i hij
        cases h2
        obtain ⟨rfl, l1, l2, hl⟩ := par2 h1
        obtain ⟨s1, _, _⟩ := cStore_some e1
        obtain ⟨s2, _, _⟩ := cStore_some e2
        cases vs with
        | nil => cases hl
        | cons a vs =>
          cases vs with
          | nil => cases hl
          | cons b vs =>
            cases vs with
            | cons => cases hl
            | nil => exact gs_par2 (ta := tNil) ha (ps_par hc hND (by rw [F.N]; exact s1) (by rw [F.N]; exact s2) (by simpa using hij) (by rw [hsc]; exact l1) (by rw [hsc]; exact l2) ha sw (by rfl))
    · cases h2
  · rename_i x px y py z pz
    split at h2
    · rename_i i j l e1 e2 e3
      split at h2
      · cases h2
      · rename_i hij
        cases h2
        obtain ⟨rfl, l1, l2, l3, hl⟩ := par3 h1
        obtain ⟨s1, _, _⟩ := cStore_some e1
        obtain ⟨s2, _, _⟩ := cStore_some e2
        obtain ⟨s3, _, _⟩ := cStore_some e3
        simp only [Bool.or_eq_true, not_or, beq_iff_eq] at hij
        cases vs with
        | nil => cases hl
        | cons a vs =>
          cases vs with
          | nil => cases hl
          | cons b vs =>
            cases vs with
            | nil => cases hl
            | cons c vs =>
              cases vs with
              | cons => cases hl
              | nil => exact gs_par3 (ta := tNil) ha (ps_par3 hc hND (by rw [F.N]; exact s1) (by rw [F.N]; exact s2) (by rw [F.N]; exact s3) hij.1 hij.2.1 hij.2.2 (by rw [hsc]; exact l1) (by rw [hsc]; exact l2) (by rw [hsc]; exact l3) ha sw (by rfl))
    · cases h2
  · cases h2
theorem pe_tF (g : GoodS D k ex X W Γ) {e : Expr} {ie : IE} {f : Bool} (s : Snd (pmX D k ex X) W X e ie) (hf : f = true → isNew ie = true) : PE X e (tF (pmX D k ex X) X.K W f ie) := by
  cases f with
  | true => exact s.new' (hf rfl)
  | false => exact s.val'
theorem par_okS (hF : CallsOk D k) (hC : CloOk D k) (g : GoodS D k ex X W Γ) (hh : Γ.hot = false) {ts vs : List Expr} {k1 k2} {p1 p2 pos : Pos} {ns : List Str} {is : List Nat} {es : IEs} (h1 : parN Γ ts vs = some (some ns)) (h2 : parIs Γ ts = some is) (h3 : cEs (cE 40 Γ) vs = some es) :
    PS X (.Assign [.Tuple ts k1 p1] (.Tuple vs k2 p2) pos) (tSt (pmX D k ex X) X.K W (seqS [parS Γ is es])) := by
  have old := par_ok hF hC g hh (k1 := k1) (k2 := k2) (p1 := p1) (p2 := p2) (pos := pos) h1 h2 h3
  unfold parS
  split
  · rename_i i j e1 e2
    split
    · have F := g.g.fit
      have hND : X.N.Nodup := by rw [F.N]; exact F.nd
      have hsc := F.sc
      have hc := F.calm hh
      have sw := sw_par F h1 (k1 := k1) (k2 := k2) (p1 := p1) (p2 := p2)
      unfold parIs at h2
      split at h2
      · rename_i x px y py
        split at h2
        · rename_i i' j' q1 q2
          split at h2
          · cases h2
          · rename_i hij
            cases h2
            obtain ⟨rfl, l1, l2, hl⟩ := par2 h1
            obtain ⟨s1, _, _⟩ := cStore_some q1
            obtain ⟨s2, _, _⟩ := cStore_some q2
            cases vs with
            | nil => cases hl
            | cons a vs =>
              cases vs with
              | nil => cases hl
              | cons b vs =>
                cases vs with
                | cons => cases hl
                | nil =>
                  obtain ⟨a1, as1, c1, c2, c3⟩ := cEs_cons h3
                  obtain ⟨a2, as2, c4, c5, c6⟩ := cEs_cons c2
                  have c7 := cEs_nil c5
                  subst c7 c6
                  cases c3
                  have sn1 := cE_ok (ex := ex) hF hC _ g.g a e1 c1
                  have sn2 := cE_ok (ex := ex) hF hC _ g.g b e2 c4
                  have ha := pa_cons (pe_tF g (f := Γ.muts.contains i && isNew e1) sn1 fun z => by rw [Bool.and_eq_true] at z; exact z.2) (pa_cons (pe_tF g (f := Γ.muts.contains j && isNew e2) sn2 fun z => by rw [Bool.and_eq_true] at z; exact z.2) pa_nil (starEach_ne _ (cE_ns c4))) (starEach_ne _ (cE_ns c1))
                  exact gs_parO2 (ps_par hc hND (by rw [F.N]; exact s1) (by rw [F.N]; exact s2) (by simpa using hij) (by rw [hsc]; exact l1) (by rw [hsc]; exact l2) ha sw (by rfl))
        · cases h2
      · split at h2
        · split at h2 <;> cases h2
        · cases h2
      · cases h2
    · exact old
  · exact old
/-- THE STATEMENTS -/
theorem cS_ok (hF : CallsOk D k) (hC : CloOk D k) : ∀ (n : Nat) {ex : Addr → Str → Prop} {X : Cx} {W : WX} {Γ : Scp} (g : GoodS D k ex X W Γ) (st : Stmt) (is : List IS), cS n Γ st = some is → PS X st (tSt (pmX D k ex X) X.K W (seqS is))
  | 0, ex, X, W, Γ, g, st, is, h => by unfold cS at h; cases h
  | n + 1, ex, X, W, Γ, g, st, is, h => by
    have ih : ∀ st is, cS n Γ st = some is → PS X st (tSt (pmX D k ex X) X.K W (seqS is)) := cS_ok hF hC n g
    have hE : ∀ {m e a}, cE m Γ e = some a → Snd (pmX D k ex X) W X e a := fun q => cE_ok hF hC _ g.g _ _ q
    have hE' : ∀ e a, cE 40 Γ e = some a → PE X e (tE (pmX D k ex X) X.K W a) ∧ ∀ x y, e ≠ .Starred x y := fun e a q => ⟨(hE q).val', cE_ns q⟩
    have F := g.g.fit
    have hND : X.N.Nodup := by rw [F.N]; exact F.nd
    have hsc := F.sc
    cases st with
    | Pass pos => unfold cS at h; cases h; exact gs_pass
    | Return v pos =>
      cases v with
      | none => unfold cS at h; cases h; exact gs_retN
      | some e =>
        by_cases ho : Γ.objs = true ∧ ∃ es lp, e = .List es lp
        · obtain ⟨ho, es, lp, rfl⟩ := ho
          unfold cS at h
          simp only [ho] at h
          obtain ⟨a, e1, rfl⟩ := Option.map_eq_some_iff.mp h
          exact gs_retObj (cEs_val hE' e1).1
        · have h' : (cE 40 Γ e).map (fun a => frzOf Γ (vE a) ++ [.ret a]) = some is := by
            cases hob : Γ.objs with
            | false =>
              unfold cS at h
              simp only [hob] at h
              exact h
            | true =>
              cases e <;> first
                | exact absurd ⟨hob, _, _, rfl⟩ ho
                | (unfold cS at h
                   simp only [hob] at h
                   exact h)
          obtain ⟨a, e1, rfl⟩ := Option.map_eq_some_iff.mp h'
          exact gs_pre (gs_ret (hE e1).val')
    | If t a b pos =>
      unfold cS at h
      simp only at h
      split at h
      · rename_i x y z h1 h2 h3
        cases h
        exact gs_pre (gs_if (hE h1).test (cSs_ok ih h2) (cSs_ok ih h3))
      · cases h
    | While t b r pos =>
      cases r with
      | cons => unfold cS at h; cases h
      | nil =>
        unfold cS at h
        simp only at h
        split at h
        · cases h
        · rename_i hh
          have hh : Γ.hot = false := by simpa using hh
          split at h
          · rename_i x y h1 h2
            split at h
            · cases h
              exact gs_while (g.own hh) (hE h1).test (cSs_ok ih h2)
            · cases h
          · cases h
    | For t i b r pos =>
      cases r with
      | cons => unfold cS at h; cases h
      | nil =>
        unfold cS at h
        simp only at h
        split at h
        · cases h
        · rename_i hh
          have hh : Γ.hot = false := by simpa using hh
          split at h
          · rename_i x s y h1 h2 h3
            cases h
            exact gs_pre (gs_for (g.own hh) (F.calm hh) (cSrc_ok F hE' h2) (tg_ok F (.inl (F.calm hh)) 10 t x h1 fun i _ y _ _ => .inl (g.fn y)) (cSs_ok ih h3) (fsi_plain (cSrc_set h2) _))
          · cases h
    | AugAssign t op v pos =>
      cases t with
      | Name x py =>
        unfold cS at h
        simp only at h
        split at h
        · cases h
        · rename_i hop
          split at h
          · rename_i i e h1 h2
            cases h
            obtain ⟨s1, s2, s3⟩ := cStore_some h1
            have hop' : op = .Add ∨ op = .Sub := by
              simp only [Bool.not_eq_true', Bool.not_eq_false, Bool.or_eq_true, decide_eq_true_eq] at hop
              exact hop
            exact gs_pre (gs_aug hop' hND (by rw [F.N]; exact s1) (by rw [hsc]; exact isLoc_loc s2) (hE h2).val' (.inl (g.fn x)))
          · cases h
      | _ => unfold cS at h; cases h
    | Raise e c pos =>
      unfold cS at h
      split at h <;> first
        | (rename_i q; cases q; done)
        | skip
      · rename_i q
        cases q
        split at h
        · rename_i hc
          cases h
          simp only [Bool.and_eq_true, Bool.not_eq_true'] at hc
          exact gs_raise g.g hc.2.2.1 (isGl_gl F hc.1) (okName_d hc.2.1).1 (by rw [← g.g.clss]; simpa using hc.2.2.2)
        · cases h
      · cases h
    | Try b hs o f pos =>
      unfold cS at h
      split at h <;> first
        | (rename_i q; cases q; done)
        | skip
      · rename_i q
        cases q
        split at h
        · rename_i hb y i z h1 h2 hc h4
          split at h
          · rename_i hz
            cases h
            simp only [Bool.and_eq_true, Bool.not_eq_true', decide_eq_true_eq] at hc
            rw [Bool.and_eq_true, decide_eq_true_eq] at hz
            obtain ⟨s1, s2, s3⟩ := cStore_some h2
            obtain ⟨b0, suite, hbs⟩ := ne_cons hz.1
            subst hbs
            exact gs_try g hc.2.2.1 s1 (by rw [hsc]; exact hz.2) (isGl_gl F hc.1) (okName_d hc.2.1).1 (by rw [← g.g.clss]; simpa using hc.2.2.2) (fun g' => cSs_ok (cS_ok hF hC n g') h1) fun g' => cSs_ok (cS_ok hF hC n g') h4
          · cases h
        · cases h
      · cases h
    | Expr e pos =>
      unfold cS at h
      split at h <;> first
        | (rename_i q; cases q; done)
        | skip
      · rename_i q
        cases q
        cases h
        exact gs_doc
      · rename_i q
        cases q
        split at h
        · rename_i hm
          rw [Bool.and_eq_true, decide_eq_true_eq] at hm
          obtain ⟨rfl, hl⟩ := hm
          split at h
          · rename_i i e1 h1 h2
            cases h
            obtain ⟨s1, s2, s3⟩ := cSlot_some h1
            obtain ⟨d1, d2, _⟩ := okName_d s3
            exact gs_pre (gs_append (by rw [F.N]; exact s1) (by rw [hsc]; exact s2) d1 d2 (hE h2).val' (cE_ns h2) hl)
          · cases h
        · split at h
          · rename_i hm
            simp only [Bool.and_eq_true, decide_eq_true_eq, Bool.not_eq_true'] at hm
            obtain ⟨rfl, hl, hh⟩ := hm
            split at h
            · rename_i i e1 h1 h2
              split at h
              · rename_i hn
                cases h
                obtain ⟨s1, s2, s3⟩ := cSlot_some h1
                obtain ⟨d1, d2, _⟩ := okName_d s3
                exact gs_pre (gs_extend (by rw [F.N]; exact s1) (by rw [hsc]; exact s2) d1 d2 ((hE h2).new' hn) (cE_ns h2) hl)
              · cases h
            · cases h
          · cases h
      · rename_i q
        cases q
        split at h
        · cases h
        · rename_i hc
          obtain ⟨a, e1, rfl⟩ := Option.map_eq_some_iff.mp h
          exact gs_pre (gs_expr (hE e1).val' (sw_plain (by simpa using hc) _ _ _))
      · cases h
    | Assign ts v pos =>
      unfold cS at h
      split at h <;> first
        | (rename_i q; cases q; done)
        | skip
      · rename_i q
        cases q
        split at h
        · rename_i hm
          simp only [Bool.and_eq_true, decide_eq_true_eq, Bool.not_eq_true'] at hm
          obtain ⟨rfl, hl, hh⟩ := hm
          split at h
          · rename_i i j h1 h2
            split at h
            · cases h
            · cases h
              obtain ⟨s1, s2, s3⟩ := cSlot_some h1
              obtain ⟨d1, d2, _⟩ := okName_d s3
              exact gs_pop (by rw [F.N]; exact s1) (by rw [hsc]; exact s2) d1 d2 hl (tg_ok F (.inl (F.calm hh)) 10 _ (.name j) (by unfold cTg; rw [h2]; rfl) fun i _ y _ _ => .inl (g.fn y)) (sws_plain rfl) (by rfl) (by rfl)
          · cases h
        · cases h
      · rename_i q
        cases q
        split at h
        · rename_i hm
          simp only [Bool.and_eq_true, decide_eq_true_eq, Bool.not_eq_true'] at hm
          obtain ⟨rfl, hl, hh⟩ := hm
          split at h
          · rename_i i t h1 h2
            split at h
            · cases h
            · cases h
              obtain ⟨s1, s2, s3⟩ := cSlot_some h1
              obtain ⟨d1, d2, _⟩ := okName_d s3
              exact gs_pop (by rw [F.N]; exact s1) (by rw [hsc]; exact s2) d1 d2 hl (tg_ok F (.inl (F.calm hh)) 10 _ t h2 fun i _ y _ _ => .inl (g.fn y)) (sws_plain rfl) (sw_none fun a b c z => by cases z) (by rfl)
          · cases h
        · cases h
      · rename_i q
        cases q
        split at h
        · rename_i hp
          split at h
          · rename_i hm
            simp only [Bool.and_eq_true, decide_eq_true_eq, Bool.not_eq_true'] at hm
            obtain ⟨rfl, hl, hh⟩ := hm
            split at h
            · rename_i i e t h1 h2 h3
              split at h
              · cases h
              · cases h
                obtain ⟨s1, s2, s3⟩ := cSlot_some h1
                obtain ⟨d1, d2, _⟩ := okName_d s3
                exact gs_pre (gs_pop2 (by rw [F.N]; exact s1) (by rw [hsc]; exact s2) d1 d2 hl (hE h2).val' (cE_ns h2) (tg_ok F (.inl (F.calm hh)) 10 _ t h3 fun i _ y _ _ => .inl (g.fn y)) (by rfl) (sw_par F hp) (by rfl))
            · cases h
          · cases h
        · cases h
      · rename_i q
        cases q
        split at h
        · rename_i i h1
          obtain ⟨s1, s2, s3⟩ := cStore_some h1
          have hN := s1
          rw [← F.N] at hN
          have hl := isLoc_loc s2
          rw [← hsc] at hl
          split at h
          · cases h
            exact gs_newDic (ps_set hND hN hl pe_dnewB (sw_plain rfl _ _ _) (.inl (g.fn _)))
          · cases h
            exact gs_setn (ps_set hND hN hl ge_dnew (sw_plain rfl _ _ _) (.inl (g.fn _)))
        · cases h
      · rename_i q
        cases q
        split at h
        · rename_i i e h1 h2
          cases h
          exact gs_pre (set_ok hF hC g h1 h2)
        · cases h
      · rename_i q
        cases q
        split at h
        · split at h
          · cases h
          · rename_i ns hp
            split at h
            · rename_i is es h1 h2
              split at h
              · cases h
              · rename_i hh
                cases h
                exact gs_pre (par_okS hF hC g (by simpa using hh) hp h1 h2)
            · cases h
          · rename_i hp
            split at h
            · cases h
            · rename_i hh
              have hh : Γ.hot = false := by simpa using hh
              split at h
              · rename_i t e h1 h2
                cases h
                exact gs_pre (gs_asg (hE h2).val' (tg_ok F (.inl (F.calm hh)) 10 _ t h1 fun i _ y _ _ => .inl (g.fn y)) (by rfl) (sw_par F hp) (by rfl))
              · cases h
        · rename_i hnt
          split at h
          · cases h
          · rename_i hh
            simp only [Bool.or_eq_true, not_or, Bool.not_eq_true] at hh
            split at h
            · rename_i t e h1 h2
              cases h
              exact gs_pre (gs_asg (hE h2).val' (tg_ok F (.inl (F.calm hh.2)) 10 _ t h1 fun i _ y _ _ => .inl (g.fn y)) (sws_plain hh.1) (sw_none fun a b c z => hnt a b c z) (by rfl))
            · cases h
      · rename_i q
        cases q
        split at h
        · cases h
        · rename_i hcm
          split at h
          · cases h
          · rename_i hns
            split at h
            · rename_i j k' e h1 h2 h3
              cases h
              obtain ⟨s1, s2, s3⟩ := cSlot_some h1
              obtain ⟨d1, d2, _⟩ := okName_d s3
              exact gs_pre (gs_setIdx F.un (by rw [F.N]; exact s1) (by rw [hsc]; exact s2) d1 d2 (hE h3).val' (hE h2).val' (sws_plain (by simpa using hcm)) (by rfl) fun a b c d z => hns a b c d z)
            · cases h
      · cases h
    | _ => unfold cS at h; cases h
end
end Ev

set_option maxHeartbeats 8000000
/-! EvW: the defs, the lambdas: every call at every depth. -/
namespace Ev
open PySem PySem.Spec PyProof.Rows L2
abbrev noEx : Addr → Str → Prop := fun _ _ => False
/-- a def of the program, as it stands -/
structure DefAt (D : Wd) (fn : Str) (ir : FnIR) : Prop where
  ex : ∃ (args : List Arg) (body : List Stmt) (scope : Scope) (oc : Value) (od : Option Addr) (qual : Str) (kV doc pm cdv ct : Value) (an : Option Addr) (osl : Array (Option Value)) (tks : List Str) (obj : Bool),
    D.K.lookup (D.ad fn) = some ⟨oc, od, .func (PySem.W.fnOf fn qual ⟨[], args, none, [], [], none, []⟩ body scope .none kV doc pm an cdv ct), osl⟩ ∧ PySem.W.codeIn D.K cdv qual = true ∧ (args.map (·.arg)).Nodup ∧
    cFn D.defs D.clss D.dics tks obj (args.map (·.arg)) scope body = some ir ∧
    (body.any (lamS 30) = true → ∃ c P, cdv = .ref c ∧ LamX.TabB D.base D.mg c P ∧ (P, (qual ++ ".<locals>.") ++ "<lambda>") ∈ D.tbs ∧ ∀ q ∈ D.tbs, q.1 = P → q.2 = (qual ++ ".<locals>.") ++ "<lambda>")
structure Wd.Defs (D : Wd) : Prop where
  ok : D.Ok
  fns : ∀ fn ir, D.T.fn fn = some ir → DefAt D fn ir
section
variable {D : Wd} {k : Nat}
theorem fnScope_of {N ps : List Str} {sc : Scope} (h : fnScopeB N ps sc = true) : FnScope N ps sc := by
  unfold fnScopeB at h
  simp only [Bool.and_eq_true, decide_eq_true_eq, Bool.not_eq_true', List.all_eq_true] at h
  obtain ⟨h1, h2, h3, h4, h5, h6, h7⟩ := h
  exact ⟨h1, h2, h3, h4, h5, fun x hx => isLoc_loc (h6 x hx), h7⟩
theorem OutS.of_out {p p' : Pm} {K : PySem.W.Frag} {W : WX} {σ : L2.St} {os : List Addr} {H : Hp} {r : SRes} {Q : VK} (ht : p'.T = p.T) (ha : p'.ad = p.ad) (hf : p'.fld = p.fld) (hx : p'.xok = p.xok)
    (h : Out p K W σ os H r.out fun d _ os' H' => ∀ v, Rep K os' H' d v → Q v H') : OutS p' K (fun cls d _ H => W cls d σ H) (Post p.T os H) (NoO H) r { nx := fun _ H' => Q .non H', rt := Q } := by
  cases r with
  | nx ρ o' => exact fun os' H' σ' A => h os' H' A.e A.at_.obs .non .mkNon
  | ret d o' => exact fun os' H' v P O _ r => h os' H' P O v r
  | brk ρ o' => exact h.elim
  | cnt ρ o' => exact h.elim
  | err c xs ρ o' =>
    intro os' H' σ' cls d A x
    refine h os' H' cls d A.e A.at_.obs ?_
    unfold ExR at x ⊢
    rw [ha, hf, hx] at x
    exact x
  | stuck => exact h.elim
theorem Out.re {α : Type} {p p' : Pm} {K : PySem.W.Frag} {W : WX} {σ σ' : L2.St} {os : List Addr} {H : Hp} {r : Res α} {Q : α → Objs → List Addr → Hp → Prop} (ht : p'.T = p.T) (ha : p'.ad = p.ad) (hf : p'.fld = p.fld) (hx : p'.xok = p.xok)
    (h : Out p K W σ os H r Q) : Out p' K (fun cls d _ H => W cls d σ H) σ' os H r Q := by
  cases r with
  | ok d o' => exact fun os' H' P O => h os' H' (by rw [← ht]; exact P) O
  | err c xs o' =>
    intro os' H' cls d P O x
    refine h os' H' cls d (by rw [← ht]; exact P) O ?_
    unfold ExR at x ⊢
    rw [ha, hf, hx] at x
    exact x
  | stuck => exact h.elim
mutual
theorem Rep.noO {K : PySem.W.Frag} {os os2 : List Addr} {H : Hp} : ∀ (d : Ev.D) {v : V}, Ev.nO d = true → Rep K os H d v → Rep K os2 H d v
  | .non, v, _, h => by unfold Rep at h ⊢; exact h
  | .bl _, v, _, h => by unfold Rep at h ⊢; exact h
  | .int _, v, _, h => by unfold Rep at h ⊢; exact h
  | .str _, v, _, h => by unfold Rep at h ⊢; exact h
  | .tup ds, v, n, h => by
    unfold Rep at h ⊢
    unfold Ev.nO at n
    obtain ⟨a, xs, e, h1, h2, h3⟩ := h
    exact ⟨a, xs, e, h1, Reps.noO ds n h2, h3⟩
  | .lst ds, v, n, h => by
    unfold Rep at h ⊢
    unfold Ev.nO at n
    obtain ⟨a, xs, e, h1, h2⟩ := h
    exact ⟨a, xs, e, h1, Reps.noO ds n h2⟩
  | .dct _ _, v, _, h => by unfold Rep at h ⊢; exact h
  | .obj _, v, n, h => by unfold Ev.nO at n; cases n
  | .kt ds, v, n, h => by
    unfold Rep at h ⊢
    unfold Ev.nO at n
    obtain ⟨a, xs, e, h1, h2⟩ := h
    exact ⟨a, xs, e, h1, Reps.noO ds n h2⟩
theorem Reps.noO {K : PySem.W.Frag} {os os2 : List Addr} {H : Hp} : ∀ (ds : List Ev.D) {xs : List V}, Ev.nOs ds = true → Reps K os H ds xs → Reps K os2 H ds xs
  | [], xs, _, h => by rw [h.inv0]; exact .nil
  | d :: ds, xs, n, h => by
    unfold Ev.nOs at n
    rw [Bool.and_eq_true] at n
    obtain ⟨x, r, rfl, h1, h2⟩ := h.inv
    exact .cons (Rep.noO d n.1 h1) (Reps.noO ds n.2 h2)
end
theorem ObjAt.noO {K : PySem.W.Frag} {os os2 : List Addr} {H : Hp} {a : Addr} {so : SObj} (n : so.nO = true) (h : ObjAt K os H a so) : ObjAt K os2 H a so := by
  cases so with
  | lst ds =>
    obtain ⟨xs, h1, h2⟩ := h
    exact ⟨xs, h1, Reps.noO ds n h2⟩
  | dK kvs =>
    obtain ⟨xs, h1, hk, h2⟩ := h
    exact ⟨xs, h1, hk, Reps.noO _ n h2⟩
  | dT kvs =>
    obtain ⟨xs, h1, hk, h2⟩ := h
    exact ⟨xs, h1, hk, Reps.noO _ n h2⟩
theorem OOk.cut {K : PySem.W.Frag} {os new : List Addr} {H : Hp} {o o' : Objs} (hl : os.length = o.length) (O : OOk K (os ++ new) H o') (n : (o'.take o.length).all SObj.nO = true) : OOk K os H (o'.take o.length) where
  len := by
    have := O.len
    rw [List.length_append] at this
    rw [List.length_take]
    omega
  at_ := fun i so e => by
    have hi : i < o.length := by
      have := (List.getElem?_eq_some_iff.mp e).1
      rw [List.length_take] at this
      omega
    have e2 : o'[i]? = some so := by
      rw [List.getElem?_take, if_pos hi] at e
      exact e
    obtain ⟨a, e3, e4⟩ := O.at_ i so e2
    rw [List.getElem?_append_left (by omega)] at e3
    exact ⟨a, e3, e4.noO (List.all_eq_true.mp n so (List.mem_of_getElem? e))⟩
  nd := O.nd.sublist (List.sublist_append_left _ _)
theorem Out.trunc {p : Pm} {K : PySem.W.Frag} {W : WX} {σ : L2.St} {os : List Addr} {H : Hp} {o : Objs} (O : OOk K os H o) {r : Res Ev.D} {Q : VK} (h : Out p K W σ os H (r.trunc o.length) fun d _ os' H' => ∀ v, Rep K os' H' d v → Q v H') :
    Out p K W σ os H r fun d _ os' H' => ∀ v, Rep K os' H' d v → Q v H' := by
  have pp : ∀ {os' : List Addr} {H' : Hp}, Post p.T os H os' H' → Post p.T os H os H' := fun P => ⟨⟨[], by simp, by simp⟩, P.keep, P.dom, P.tab⟩
  cases r with
  | ok d o' =>
    have h : Out p K W σ os H (if Ev.nO d && (o'.take o.length).all SObj.nO then Res.ok d (o'.take o.length) else Res.ok d o') fun d _ os' H' => ∀ v, Rep K os' H' d v → Q v H' := h
    split at h
    · rename_i hc
      rw [Bool.and_eq_true] at hc
      intro os' H' P O' v rv
      obtain ⟨new, rfl, _⟩ := P.pre
      exact h os H' (pp P) (O'.cut O.len hc.2) v (Rep.noO d hc.1 rv)
    · exact h
  | err c xs o' =>
    have h : Out p K W σ os H (if Ev.nOs xs && (o'.take o.length).all SObj.nO then Res.err c xs (o'.take o.length) else Res.err c xs o') fun d _ os' H' => ∀ v, Rep K os' H' d v → Q v H' := h
    split at h
    · rename_i hc
      rw [Bool.and_eq_true] at hc
      intro os' H' cls d P O' x
      obtain ⟨new, rfl, _⟩ := P.pre
      refine h os H' cls d (pp P) (O'.cut O.len hc.2) ?_
      obtain ⟨x1, x2, x3⟩ := x
      refine ⟨x1, x2, ?_⟩
      rcases x3 with x3 | ⟨y, dd, v, rfl, y2, y3, y4⟩
      · exact .inl x3
      · have n := hc.1
        unfold Ev.nOs at n
        rw [Bool.and_eq_true] at n
        exact .inr ⟨y, dd, v, rfl, y2, y3, Rep.noO y n.1 y4⟩
    · exact h
  | stuck => exact h
/-- a def runs -/
theorem def_run (hok : D.Ok) (hF : CallsOk D k) (hC : CloOk D k) {fn : Str} {ir : FnIR} (ef : D.T.fn fn = some ir) {args : List Arg} {body : List Stmt} {scope : Scope} {oc : Value} {od : Option Addr} {qual : Str} {kV doc pm cdv ct : Value} {an : Option Addr} {osl : Array (Option Value)} {tks : List Str} {obj : Bool}
    (lk : D.K.lookup (D.ad fn) = some ⟨oc, od, .func (PySem.W.fnOf fn qual ⟨[], args, none, [], [], none, []⟩ body scope .none kV doc pm an cdv ct), osl⟩) (hcd : PySem.W.codeIn D.K cdv qual = true) (hcf : cFn D.defs D.clss D.dics tks obj (args.map (·.arg)) scope body = some ir)
    (hlam : body.any (lamS 30) = true → ∃ c P, cdv = .ref c ∧ LamX.TabB D.base D.mg c P ∧ (P, (qual ++ ".<locals>.") ++ "<lambda>") ∈ D.tbs ∧ ∀ q ∈ D.tbs, q.1 = P → q.2 = (qual ++ ".<locals>.") ++ "<lambda>")
    {A : Around} {outer : List Env} {s : Shared} {H : Hp} {as : Args} {us : List Value} {vs : List V} {sl : List Slot} {os : List Addr} {o : Objs} {Q : VK} {W : WX} {σ : L2.St} (hr : Room (k + 1) A) (e0 : Env0 D.prog D.w D.K D.mg D.base A outer s H) (hv : Vals vs us)
    (hbi : us.length = (args.map (·.arg)).length → BindsTo s (PySem.W.fnOf fn qual ⟨[], args, none, [], [], none, []⟩ body scope .none kV doc pm an cdv ct) as ((args.map (·.arg)).zip us)) (hs : SlotRs D.K (D.sp (fixed s.heap H (frs outer))) os H sl vs) (O : OOk D.K os H o) (hT : LamX.Tabs D.tbs H)
    (h : Out (D.pm D.base (k + 1)) D.K W σ os H (callF D.T D.L (k + 1) fn sl o) (fun d _ os' H' => ∀ v, Rep D.K os' H' d v → Q v H')) :
    codeAny (model D.prog D.w) A (.call (.ref (D.ad fn)) as) (CR (L2N.CX D.prog D.w) outer D.prog D.w H s Q (WE W σ)) s := by
  unfold cFn at hcf
  simp only at hcf
  split at hcf
  · rename_i hsc
    obtain ⟨is, hbody, rfl⟩ := Option.map_eq_some_iff.mp hcf
    have S := fnScope_of hsc
    have hcall : callF D.T D.L (k + 1) fn sl o = if sl.length = (args.map (·.arg)).length then (exSs (calls D.T D.L k).1 (calls D.T D.L k).2 D.T.con D.T.isa D.L (seqS is) (frame sl (scpOf D.defs D.clss D.dics tks obj (args.map (·.arg)) scope body).N.length) o).out.trunc o.length else .stuck := by
      show (match D.T.fn fn with | some ir => _ | none => _) = _
      rw [ef]
    rw [hcall] at h
    split at h
    · rename_i hlen
      have hvl : vs.length = (args.map (·.arg)).length := by rw [← hs.length, hlen]
      refine LamX.run_ofS (CX := L2N.CX D.prog D.w) (N := (scpOf D.defs D.clss D.dics tks obj (args.map (·.arg)) scope body).N) (us := us) (vs := vs) lk hcd S hr (env0_fixed e0) (hbi (by rw [← hv.length, hvl])) hv hvl fun hr' => ?_
      have g : GoodS D k noEx (cxOf (L2N.CX D.prog D.w) D.prog D.w D.K D.mg (fixed s.heap H (frs outer)) (scpOf D.defs D.clss D.dics tks obj (args.map (·.arg)) scope body).N qual scope (D.ad fn) cdv A outer s H (WE W σ)) (fun cls d _ H => WE W σ cls d H) (scpOf D.defs D.clss D.dics tks obj (args.map (·.arg)) scope body) := by
        have ov : Over D (fixed s.heap H (frs outer)) := over_fixed (base := D.base) ⟨fun _ _ e => e, Nat.le_refl _⟩ e0
        refine ⟨⟨⟨rfl, S.nd, S.kind, rfl, hr'.units, fun _ => rfl, fun z => (by cases z), hok.blt⟩, hok, rfl, rfl, rfl, rfl, ov, L2N.takes_of rfl rfl rfl rfl, fun _ => hr', rfl, rfl, rfl, fun hl => ?_, fun _ a c' c z => z.elim⟩, rfl, rfl, fun _ => rfl, fun _ => passes_of (K := fun e s'' => L2N.CX D.prog D.w outer H s (WE W σ) e s'') rfl, fun _ _ _ z => z⟩
        obtain ⟨c, P, rfl, TB, h1, h2⟩ := hlam hl
        exact ⟨c, P, ⟨TB.code.keeps ov.keep, TB.bm.keeps ov.keep, TB.gP⟩, rfl, h1, h2, fun _ => rfl⟩
      have hb := cSs_ok (cS_ok hF hC 30 g) hbody
      refine ⟨_, hb, Post D.tbs os H, NoO H, ent_post, frame sl (scpOf D.defs D.clss D.dics tks obj (args.map (·.arg)) scope body).N.length, os, o, ⟨⟨?_, O, hT⟩, .refl, fun i d a e _ => ?_⟩, OutS.of_out (p := D.pm D.base (k + 1)) rfl rfl rfl rfl (Out.trunc O h)⟩
      · have hN : (args.map (·.arg)).length ≤ (scpOf D.defs D.clss D.dics tks obj (args.map (·.arg)) scope body).N.length := by
          have := congrArg List.length S.pre
          rw [List.length_take] at this
          omega
        have q := envOk_start hs ((scpOf D.defs D.clss D.dics tks obj (args.map (·.arg)) scope body).N.length - sl.length)
        unfold frame L2.start
        rw [hvl, ← hlen]
        exact q
      · unfold frame at e
        by_cases hi : i < sl.length
        · rw [List.getElem?_append_left hi] at e
          obtain ⟨v, _, z⟩ := paired_get hs e
          exact z.elim
        · rw [List.getElem?_append_right (by omega), List.getElem?_replicate] at e
          split at e <;> cases e
    · exact h.elim
  · cases hcf
theorem calls_succ (hD : D.Defs) (hF : CallsOk D k) (hC : CloOk D k) : CallsOk D (k + 1) := by
  intro fn ir ef A outer s H us vs sl os o Q W σ hr e0 hv hs O hT h
  obtain ⟨args, body, scope, oc, od, qual, kV, doc, pm, cdv, ct, an, osl, tks, obj, lk, hcd, hnd, hcf, hlam⟩ := (hD.fns fn ir ef).ex
  exact def_run hD.ok hF hC ef lk hcd hcf hlam hr e0 hv (fun hl => .of_eq (bind_all rfl rfl hnd us hl)) hs O hT h
theorem clo_succ (hD : D.Defs) (hF : CallsOk D k) (hC : CloOk D k) : CloOk D (k + 1) := by
  intro base ov f np nl b ws c' q hclo A outer s H us vs ds cap os o Q W σ hr e0 hco hv hds hcap O hT h
  obtain ⟨args, body, scope, cl, pm, ctv, Γ, n, fr, ho, S, rfl, rfl, ⟨rfl, g1, g2, g3, g4, g5, g6⟩, hcE, hfr, hall, hinj, hhas⟩ := hclo
  have hcall : callC D.T D.L (k + 1) args.length Γ.N.length b cap ds o = if ds.length = args.length then evE (calls D.T D.L k).1 (calls D.T D.L k).2 D.T.con D.T.isa b (frame (ds.map .val ++ cap.map .val) Γ.N.length) o else .stuck := rfl
  rw [hcall] at h
  split at h
  · rename_i hlen
    have hvl : vs.length = (args.map (·.arg)).length := by rw [hds.length, hlen, List.length_map]
    have lim : s.heap.NoLimit := e0.mod.nolimit.keeps fun b o e => (e0.bs b o e).1
    have hcell : ∀ {c : Addr} {v : Option Value}, base.IsCell c v → H c = none ∧ s.heap.IsCell c v := fun {c v} ⟨oc, h1, h2⟩ => ⟨(e0.bs c oc h1).2, oc, (e0.bs c oc h1).1, h2⟩
    have C : NdefX.CellsAt cl fr (ws.map some) s.heap H := by
      refine ⟨by rw [List.length_map]; exact hfr.symm, fun y c e => ?_, hinj, fun i y e => ?_⟩
      · obtain ⟨v, z⟩ := hall y c e
        exact ⟨(hcell z).1, v, (hcell z).2⟩
      · obtain ⟨c, e1, e2⟩ := hhas i y e
        refine ⟨c, e1, fun v ev => ?_⟩
        rw [List.getElem?_map] at ev
        cases ew : ws[i]? with
        | none => rw [ew] at ev; cases ev
        | some w =>
          rw [ew] at ev
          cases ev
          obtain ⟨u, r, z⟩ := e2 _ ew
          exact ⟨u, r, (hcell z).2⟩
    obtain ⟨⟨oc, cvs, t, hoc, hdc, hvc⟩, _, _⟩ := e0.hok c' _ hco
    have ndP : (args.map (·.arg)).Nodup := by
      have z := S.nd.sublist (List.take_sublist ((args.map (·.arg)).length + fr.length) Γ.N)
      rw [S.pre] at z
      exact (List.nodup_append.mp z).1
    refine PySem.W.kla_callFunE hr.depth (e0.bs f _ ho).1 rfl S.co S.gen rfl ⟨c', oc, cvs, t, rfl, hoc, hdc, hvc⟩ ?_
    rw [bind_all (args := args) rfl rfl ndP us (by rw [← hv.length, hvl])]
    refine wpAny_pure (wpAny_newFunctionEnv S.nocell (fun ⟨x, _⟩ hy => S.par x (List.of_mem_zip hy).1) (fun h₁ hns hsb => ⟨lim.fresh _ hsb, ?_⟩) S.kind)
    have kp : ∀ b o, s.heap.get? b = some o → h₁.get? b = some o := fun b o e => hsb.extBut b o (Nat.ne_of_lt (Heap.lt_size e)) (Heap.get?_push_of_some _ e)
    let F : NdefX.NF := ⟨"<lambda>", q, ⟨[], args, none, [], [], none, []⟩, [], Γ.sc, cl, c'⟩
    show codeAny _ _ (.expr body (NdefX.envF F f s.heap.objs.size)) _ _
    have hr' : Room k (A.deeper (NdefX.envF F f s.heap.objs.size)) := hr.deeper _
    have J : Inv (NdefX.ncx (L2N.CX D.prog D.w) D.prog D.w D.K D.mg base Γ.N F f A outer s H (WE W σ)) [] (NdefX.startF Γ.N vs (ws.map some)) H { s with heap := h₁, toks := s.toks + ((args.map (·.arg)).zip us).length } := NdefX.inv_startN S hr.hd e0 hvl hv C hns kp
    have g : Good D k noEx (NdefX.ncx (L2N.CX D.prog D.w) D.prog D.w D.K D.mg base Γ.N F f A outer s H (WE W σ)) (fun cls d _ H => WE W σ cls d H) Γ :=
      ⟨⟨rfl, S.nd, S.kind, rfl, hr'.units, fun _ => rfl, fun z => (by rw [g1] at z; cases z), hD.ok.blt⟩, hD.ok, rfl, rfl, rfl, rfl, ov, L2N.takes_of rfl rfl rfl rfl, fun _ => hr', g4, g5, g6, fun z => (by rw [g2] at z; cases z), fun z => (by rw [g3] at z; cases z)⟩
    have pe := (cE_ok hF hC n g body b hcE).val'
    have hsl : SlotRs D.K (D.sp base) os H (ds.map .val ++ cap.map .val) (vs ++ ws) := by
      have go : ∀ {ds : List Ev.D} {vs : List V}, Reps D.K os H ds vs → SlotRs D.K (D.sp base) os H (ds.map .val) vs := fun {ds} => by
        induction ds with
        | nil => intro vs r; rw [r.inv0]; exact .nil
        | cons d ds ih =>
          intro vs r
          obtain ⟨x, r', rfl, r1, r2⟩ := r.inv
          exact .cons r1 (ih r2)
      have app : ∀ {a : List Slot} {x : List V} {a' : List Slot} {x' : List V}, SlotRs D.K (D.sp base) os H a x → SlotRs D.K (D.sp base) os H a' x' → SlotRs D.K (D.sp base) os H (a ++ a') (x ++ x') := fun {a x a' x'} r r' => by
        induction r with
        | nil => exact r'
        | cons r t ih => exact .cons r ih
      exact app (go hds) (go hcap)
    have hpe : tE (pmX D k noEx (NdefX.ncx (L2N.CX D.prog D.w) D.prog D.w D.K D.mg base Γ.N F f A outer s H (WE W σ))) D.K (fun cls d _ H => WE W σ cls d H) b (NdefX.startF Γ.N vs (ws.map some)) H Q := by
      refine ⟨frame (ds.map Slot.val ++ cap.map Slot.val) Γ.N.length, os, o, ⟨?_, O, hT⟩, Out.re (p := D.pm D.base (k + 1)) rfl rfl rfl rfl h⟩
      have q := envOk_start hsl (Γ.N.length - (ds.map Slot.val ++ cap.map Slot.val).length)
      have e1 : NdefX.startF Γ.N vs (ws.map some) = (vs ++ ws).map some ++ List.replicate (Γ.N.length - (ds.map Slot.val ++ cap.map Slot.val).length) none := by
        unfold NdefX.startF
        rw [List.map_append, List.append_assoc]
        congr 2
        rw [List.length_append, List.length_map, List.length_map, List.length_map, hds.length, hcap.length, Nat.sub_sub]
      rw [e1]
      exact q
    refine PySem.W.kla_codeExpr (wpAny_mono (pe.run [] _ _ H Q J hpe) (fun v s' hq => ?_) fun e s' hq => hq)
    obtain ⟨w', H', J', rv, q⟩ := hq
    exact ⟨w', H', J'.os, J'.bare, J'.base, J'.hok, rv, q⟩
  · exact h.elim
theorem calls_zero : CallsOk D 0 := by
  intro fn ir ef A outer s H us vs sl os o Q W σ hr e0 hv hs O hT h
  exact h.elim
theorem clo_zero : CloOk D 0 := by
  intro base ov f np nl b ws c' q hclo A outer s H us vs ds cap os o Q W σ hr e0 hco hv hds hcap O hT h
  exact h.elim
theorem all_ok (hD : D.Defs) : ∀ k, CallsOk D k ∧ CloOk D k
  | 0 => ⟨calls_zero, clo_zero⟩
  | k + 1 => ⟨calls_succ hD (all_ok hD k).1 (all_ok hD k).2, clo_succ hD (all_ok hD k).1 (all_ok hD k).2⟩
end
end Ev

set_option maxHeartbeats 8000000
/-! EvX: the end: a law holds, if the meaning says so. -/
namespace Ev
open PySem PySem.Spec PyProof.Rows L2

/-- what is fixed of a law -/
structure LawSet where
  DS : List He.DefD
  tf : List He.Defn
  clss : List Str
  cons : List (Str × D)
  dics : List (Str × List (Str × D))
  T : Tab
  L : Nat
def excCB (K : PySem.W.Frag) (C : Addr) : Bool :=
  He.eqO (PySem.W.findIn K (.ref C) "__getattribute__") (some (some (.builtin "BaseException.__getattribute__"))) && (He.eqO (PySem.W.findIn K (.ref C) "__getattr__") (some none) && (PySem.W.hasDictIn K C &&
    (He.eqO (PySem.W.findIn K (.ref C) "__class__") (some (some (.builtin "object.__class__"))) && (He.eqO (PySem.W.specialIn K (.builtin "object.__class__") "__get__") (some (some (.builtin "getset_descriptor.__get__"))) &&
      (decide (PySem.W.takesIn K (.builtin "object.__class__") = some true) && decide (PySem.W.mroIn K C (.type "object") = some true))))))
mutual
/-- a value that the module wrote -/
def valB (K : PySem.W.Frag) : D → Value → Bool
  | .non, .none => true
  | .bl b, .bool c => b == c
  | .int i, .int j _ => decide (i = j)
  | .str x, .str y _ => decide (x = y)
  | .tup ds, .ref a => match K.lookup a with
    | some o => match o.data with
      | .seq its _ => !(ds.all intD) && (decide (o.cls = .type "tuple") && (decide (its.size ≤ sizeLine) && valsB K ds its.toList))
      | _ => false
    | none => false
  | .kt ds, .ref a => match K.lookup a with
    | some o => match o.data with
      | .seq its _ => decide (o.cls = .type "tuple") && (decide (its.size ≤ sizeLine) && valsB K ds its.toList)
      | _ => false
    | none => false
  | _, _ => false
def valsB (K : PySem.W.Frag) : List D → List Value → Bool
  | [], [] => true
  | d :: ds, u :: us => valB K d u && valsB K ds us
  | _, _ => false
end
mutual
theorem valB_ok {K : PySem.W.Frag} : ∀ (d : D) {u : Value}, valB K d u = true → ∃ v, RelV v u ∧ ∀ os H, Rep K os H d v
  | .non, u, h => by
    cases u <;> first
      | (unfold valB at h; cases h; done)
      | exact ⟨.non, rfl, fun _ _ => .mkNon⟩
  | .bl b, u, h => by
    cases u <;> first
      | (unfold valB at h; cases h; done)
      | skip
    rename_i c
    unfold valB at h
    exact ⟨.bl b, by rw [eq_of_beq h]; rfl, fun _ _ => .mkBl b⟩
  | .int i, u, h => by
    cases u <;> first
      | (unfold valB at h; cases h; done)
      | skip
    rename_i j t
    unfold valB at h
    exact ⟨.int i, ⟨t, by rw [of_decide_eq_true h]⟩, fun _ _ => .mkInt i⟩
  | .str x, u, h => by
    cases u <;> first
      | (unfold valB at h; cases h; done)
      | skip
    rename_i y t
    unfold valB at h
    exact ⟨.str x, ⟨t, by rw [of_decide_eq_true h]⟩, fun _ _ => .mkStr x⟩
  | .tup ds, u, h => by
    cases u <;> first
      | (unfold valB at h; cases h; done)
      | skip
    rename_i a
    unfold valB at h
    split at h
    · rename_i o e
      split at h
      · rename_i its n ed
        simp only [Bool.and_eq_true, Bool.not_eq_true', decide_eq_true_eq] at h
        obtain ⟨h1, h2, h3, h4⟩ := h
        obtain ⟨xs, r, q⟩ := valsB_ok ds h4
        refine ⟨.ref a, rfl, fun os H => ?_⟩
        unfold Rep
        exact ⟨a, xs, rfl, .inr ⟨o, its, n, e, h2, ed, h3, r⟩, q os H, fun z => by rw [h1] at z; cases z⟩
      · cases h
    · cases h
  | .kt ds, u, h => by
    cases u <;> first
      | (unfold valB at h; cases h; done)
      | skip
    rename_i a
    unfold valB at h
    split at h
    · rename_i o e
      split at h
      · rename_i its n ed
        simp only [Bool.and_eq_true, decide_eq_true_eq] at h
        obtain ⟨h2, h3, h4⟩ := h
        obtain ⟨xs, r, q⟩ := valsB_ok ds h4
        refine ⟨.ref a, rfl, fun os H => ?_⟩
        unfold Rep
        exact ⟨a, xs, rfl, .inr ⟨o, its, n, e, h2, ed, h3, r⟩, q os H⟩
      · cases h
    · cases h
  | .lst _, u, h => by unfold valB at h; cases h
  | .dct _ _, u, h => by unfold valB at h; cases h
  | .obj _, u, h => by unfold valB at h; cases h
theorem valsB_ok {K : PySem.W.Frag} : ∀ (ds : List D) {us : List Value}, valsB K ds us = true → ∃ vs, Vals vs us ∧ ∀ os H, Reps K os H ds vs
  | [], us, h => by
    cases us with
    | nil => exact ⟨[], .nil, fun _ _ => .nil⟩
    | cons => unfold valsB at h; cases h
  | d :: ds, us, h => by
    cases us with
    | nil => unfold valsB at h; cases h
    | cons u us =>
      unfold valsB at h
      rw [Bool.and_eq_true] at h
      obtain ⟨v, r, q⟩ := valB_ok d h.1
      obtain ⟨vs, r2, q2⟩ := valsB_ok ds h.2
      exact ⟨v :: vs, .cons r r2, fun os H => .cons (q os H) (q2 os H)⟩
end
def conB (K : PySem.W.Frag) (p : Str × D) : Bool := match PySem.W.nsIn K mainGlobals p.1 with
  | some (some u) => valB K p.2 u
  | _ => false
/-- a dict of the module: its keys, its values -/
def dicB (K : PySem.W.Frag) (p : Str × List (Str × D)) : Bool := (He.Fa.glo p.1).ok K && ((p.2.all fun q => match PySem.W.nsIn K (He.ga K p.1) q.1 with
    | some (some u) => valB K q.2 u
    | _ => false) && (match K.lookup (He.ga K p.1) with
    | some ⟨_, _, .dict es _, _⟩ => es.toList.all fun e => p.2.any fun q => e.key.isStr q.1
    | _ => false))
theorem dicAt_some {z : Str} {d : D} : ∀ {kvs : List (Str × D)}, dicAt (kvs.map fun q => D.str q.1) (kvs.map (·.2)) z = some d → ∃ q ∈ kvs, q.1 = z ∧ q.2 = d
  | [], h => by cases h
  | q :: kvs, h => by
    have h : (if q.1 = z then some q.2 else dicAt (kvs.map fun q => D.str q.1) (kvs.map (·.2)) z) = some d := h
    split at h
    · rename_i e
      cases h
      exact ⟨q, List.mem_cons_self, e, rfl⟩
    · obtain ⟨q', hq, e1, e2⟩ := dicAt_some h
      exact ⟨q', List.mem_cons_of_mem _ hq, e1, e2⟩
theorem dicAt_none {z : Str} : ∀ {kvs : List (Str × D)}, dicAt (kvs.map fun q => D.str q.1) (kvs.map (·.2)) z = none → ∀ q ∈ kvs, q.1 ≠ z
  | [], _, q, hq => absurd hq (by simp)
  | p :: kvs, h, q, hq => by
    have h : (if p.1 = z then some p.2 else dicAt (kvs.map fun q => D.str q.1) (kvs.map (·.2)) z) = none := h
    split at h
    · cases h
    · rename_i e
      rcases List.mem_cons.mp hq with rfl | hq
      · exact e
      · exact dicAt_none h q hq
theorem dicB_ok {K : PySem.W.Frag} {p : Str × List (Str × D)} {w : World} {es : Array DictEntry} {n : Nat} (h : dicB K p = true) (kd : KDict K w (He.ga K p.1) es n) (z : Str) : DicV K (He.ga K p.1) (p.2.map fun q => D.str q.1) (p.2.map (·.2)) z := by
  unfold dicB at h
  rw [Bool.and_eq_true, Bool.and_eq_true] at h
  obtain ⟨_, h1, h2⟩ := h
  rw [kd.at_] at h2
  have h2 : (es.toList.all fun e => p.2.any fun q => e.key.isStr q.1) = true := h2
  unfold DicV
  split
  · rename_i d e
    obtain ⟨q, hq, rfl, rfl⟩ := dicAt_some e
    have z := List.all_eq_true.mp h1 q hq
    split at z
    · rename_i u e2
      obtain ⟨v, r, rp⟩ := valB_ok q.2 z
      exact ⟨u, v, e2, r, rp⟩
    · cases z
  · rename_i e
    have nk := dicAt_none e
    unfold PySem.W.nsIn
    rw [kd.at_]
    have f0 : es.toList.find? (·.key.isStr z) = none := by
      rw [List.find?_eq_none]
      intro x hx hk
      obtain ⟨q, hq, hs⟩ := List.any_eq_true.mp (List.all_eq_true.mp h2 x hx)
      obtain ⟨y, t, ek, _⟩ := kd.lit.all x hx
      rw [ek] at hk hs
      have e1 : y = z := eq_of_beq (show (y == z) = true from hk)
      have e2 : y = q.1 := eq_of_beq (show (y == q.1) = true from hs)
      exact nk q hq (e2.symm.trans e1)
    have f1 : es.toList.any (·.refKey) = false := by
      rw [List.any_eq_false]
      intro x hx
      obtain ⟨y, t, ek, _⟩ := kd.lit.all x hx
      unfold DictEntry.refKey
      rw [ek]
      exact Bool.false_ne_true
    show (match es.toList.find? (·.key.isStr z) with
      | some e => some (some e.val)
      | none => if es.toList.any (·.refKey) = true then none else some none) = some none
    rw [f0, f1]
    rfl
/-- what the kernel looks at in the heap at the head -/
def LawSet.ex (S : LawSet) (K : PySem.W.Frag) : Bool :=
  (K.all fun q => decide (q.2.cls ≠ .type "list")) && (decide ((S.tf.map fun p => (He.cT K p).2).Nodup) && ((builtins.all fun x => (He.Fa.free x).ok K) && ((S.clss.all fun c => (He.Fa.exc c).ok K && ((He.Fa.glo c).ok K && excCB K (He.ga K c))) &&
    ((S.clss.all fun c' => S.clss.all fun c => (He.Fa.exm c' c (S.T.isa c' c)).ok K && decide (PySem.W.kitOne K (.ref (He.ga K c')) (.ref (He.ga K c)) = some (S.T.isa c' c))) &&
      ((S.clss.all fun c' => decide (PySem.W.kitOne K (.ref (He.ga K c')) (.type "ValueError") = some (S.T.isa c' "ValueError"))) && ((S.cons.all (conB K)) && ((S.DS.all fun d => (He.Fa.glo d.name).ok K) && S.dics.all (dicB K))))))))
def LawSet.wd (S : LawSet) (prog : Program) (w : World) (K : PySem.W.Frag) (mg : Str → Option Value) (base : Heap) : Wd :=
  ⟨prog, w, K, mg, base, S.T, S.L, S.tf.map fun p => ((He.cT K p).2, (p.1 ++ ".<locals>.") ++ "<lambda>"), He.ga K, fun x => x, S.DS.map (·.name), S.clss, S.dics.map (·.1)⟩
/-- the tables that the head tells -/
def LawSet.ts (S : LawSet) : List He.Tab := S.dics.map fun p => (fun K => He.ga K p.1, p.2.map (·.1))
structure LawSet.Ok (S : LawSet) : Prop where
  ds : ∀ d ∈ S.DS, d.at_ = (d.name, none) ∧ d.qual = d.name ∧ d.dfl = [] ∧ d.kwd = []
  fn : ∀ fn ir, S.T.fn fn = some ir → ∃ d ∈ S.DS, d.name = fn ∧ ∃ args tks obj, d.params = ⟨[], args, none, [], [], none, []⟩ ∧ (args.map (·.arg)).Nodup ∧ cFn (S.DS.map (·.name)) S.clss (S.dics.map (·.1)) tks obj (args.map (·.arg)) d.scope d.body = some ir ∧ (d.body.any (lamS 30) = true → (fn, none) ∈ S.tf)
  con : ∀ x d, globD S.T.con x = some d → (x, d) ∈ S.cons
  dic : ∀ g ∈ S.dics.map (·.1), ∀ d, S.T.con g = some d → ∃ p ∈ S.dics, p.1 = g ∧ d = .dct (p.2.map fun q => D.str q.1) (p.2.map (·.2))
theorem nodup_inj {α β : Type} {f : α → β} : ∀ {l : List α}, (l.map f).Nodup → ∀ a ∈ l, ∀ b ∈ l, f a = f b → a = b
  | [], _, a, ha, _, _, _ => absurd ha (by simp)
  | x :: l, h, a, ha, b, hb, e => by
    rw [List.map_cons, List.nodup_cons] at h
    rcases List.mem_cons.mp ha with ea | ha
    · rcases List.mem_cons.mp hb with eb | hb
      · rw [ea, eb]
      · exact absurd (List.mem_map.mpr ⟨b, hb, by rw [← e, ea]⟩) h.1
    · rcases List.mem_cons.mp hb with eb | hb
      · exact absurd (List.mem_map.mpr ⟨a, ha, by rw [e, eb]⟩) h.1
      · exact nodup_inj h.2 a ha b hb e
section
variable {S : LawSet} {prog : Program} {w : World} {K : PySem.W.Frag} {mg : Str → Option Value} {base h : Heap} {fa : List He.Fa}
/-- the world's facts -/
theorem LawSet.defs (hS : S.Ok) (hM : Mod K mg base) (X : K.In h) (G : h.Ns mainGlobals mg) (c : He.SaysX fa S.DS S.ts S.tf S.ex w h K) (TB : ∀ p ∈ S.tf.map (He.cT K), LamX.TabB base mg p.1 p.2) : (S.wd prog w K mg base).Defs := by
  have ex := c.more
  unfold LawSet.ex at ex
  simp only [Bool.and_eq_true, List.all_eq_true, decide_eq_true_eq] at ex
  obtain ⟨e1, e2, e3, e4, e5, e6, e7, e8, e9⟩ := ex
  have df : ∀ d ∈ S.DS, ∃ fd, L2.FunD K d.name d.name d.params d.body d.scope [] [] (He.ga K d.name) fd := fun d hd => by
    obtain ⟨fd, F⟩ := He.SaysD.defs (He.SaysT.d c.t) hd
    obtain ⟨h1, h2, h3, h4⟩ := hS.ds d hd
    unfold He.DefD.dvs He.DefD.kws at F
    rw [h1, h2, h3, h4] at F
    exact ⟨fd, F⟩
  refine ⟨⟨hM, fun f hf => ?_, fun x d e => ?_, fun g hg d e => ?_, fun x hx => He.free_ok X G (e3 x hx), fun c' hc => ?_, fun c' hc' c'' hc'' => ?_, fun c' hc' => e6 c' hc'⟩, fun fn ir e => ?_⟩
  · obtain ⟨d, hd, rfl⟩ := List.mem_map.mp hf
    obtain ⟨fd, F⟩ := df d hd
    exact ⟨He.glo_ok X G (e8 d hd), F.kp⟩
  · have z := e7 (x, d) (hS.con x d e)
    unfold conB at z
    split at z
    · rename_i u eu
      obtain ⟨v, r, rp⟩ := valB_ok d z
      exact ⟨v, u, PySem.W.mg_of X G eu, r, rp⟩
    · cases z
  · obtain ⟨p, hp, rfl, rfl⟩ := hS.dic g hg d e
    have z := e9 p hp
    have z1 := z
    unfold dicB at z1
    rw [Bool.and_eq_true] at z1
    obtain ⟨i, hi⟩ := List.mem_iff_getElem?.mp hp
    obtain ⟨es, n, KD⟩ := He.SaysT.tab c.t i (t := (fun K => He.ga K p.1, p.2.map (·.1))) (by unfold LawSet.ts; rw [List.getElem?_map, hi]; rfl)
    exact ⟨_, _, rfl, He.glo_ok X G z1.1, es, n, KD, fun y => dicB_ok z KD y⟩
  · obtain ⟨x1, x2, x3⟩ := e4 c' hc
    obtain ⟨y1, y2, y3, y4⟩ := He.exc_ok x1
    unfold excCB at x3
    simp only [Bool.and_eq_true, decide_eq_true_eq] at x3
    obtain ⟨z1, z2, z3, z4, z5, z6, z7⟩ := x3
    exact ⟨_, _, _, _, PySem.F.excBase_ValueError, y1, He.glo_ok X G x2, y2, y3, y4, ⟨He.eqO_ok z1, He.eqO_ok z2, y3, z3, He.eqO_ok z4, He.eqO_ok z5, z6, z7⟩⟩
  · obtain ⟨z1, z2⟩ := e5 c' hc' c'' hc''
    exact ⟨He.exm_ok z1, z2⟩
  · obtain ⟨d, hd, rfl, args, tks, obj, hp, hnd, hcf, hl⟩ := hS.fn fn ir e
    obtain ⟨fd, F⟩ := df d hd
    obtain ⟨oc, od, dV, kV, doc, pm, an, cdv, ct, osl, rfl, lk, hcd, hdv, _⟩ := F.ex
    have hdV : dV = .none := by
      rcases hdv with ⟨_, z⟩ | ⟨z, _⟩
      · exact z
      · exact absurd rfl z
    subst hdV
    rw [hp] at lk
    refine ⟨args, d.body, d.scope, oc, od, d.name, kV, doc, pm, cdv, ct, an, osl, tks, obj, lk, hcd, hnd, hcf, fun hlam => ?_⟩
    have hm := hl hlam
    obtain ⟨cc, rfl⟩ := He.codeIn_ref hcd
    have ec : (He.cT K (d.name, none)).1 = cc := He.codeOf_eq lk rfl
    have tb := TB (He.cT K (d.name, none)) (List.mem_map.mpr ⟨_, hm, rfl⟩)
    rw [ec] at tb
    refine ⟨cc, (He.cT K (d.name, none)).2, rfl, tb, List.mem_map.mpr ⟨_, hm, rfl⟩, fun q hq e => ?_⟩
    obtain ⟨p, hp', rfl⟩ := List.mem_map.mp hq
    have z := nodup_inj e2 p hp' _ hm e
    rw [z]
/-! ### the script is locked -/
theorem env0_lock {A : Around} {outer : List Env} {s : Shared} {H : Hp} {a : Addr} {xs : List V} (e0 : Env0 prog w K mg base A outer s H) (h : H a = some (.lst xs)) : ∃ ob, Env0 prog w K mg base A outer s (upd H a (.frz ob (.lst xs))) := by
  obtain ⟨z, its, n, r, e⟩ := e0.hok a _ h
  have ne : ∀ b, H b = none → b ≠ a := fun b q z => by rw [z, h] at q; cases q
  refine ⟨{ cls := .type "list", data := .seq its.toArray n }, e0.frames, e0.mod, fun b o q => ?_, e0.bsz, e0.funs, fun b hb => ?_, fun b u hq => ?_, e0.bare⟩
  · obtain ⟨q1, q2⟩ := e0.bs b o q
    exact ⟨q1, by rw [upd_ne (ne b q2)]; exact q2⟩
  · have q := e0.frf b hb
    rw [upd_ne (ne b q)]
    exact q
  · have st : ∀ {c : Addr} {u : HO}, ObjOk prog w H s.heap c u → ObjOk prog w (upd H a (.frz { cls := .type "list", data := .seq its.toArray n } (.lst xs))) s.heap c u := fun {c u} x =>
      x.stay (fun _ _ _ q => q) (fun d q => by rw [upd_ne (ne_of q h (fun z => by cases z))]; exact q) fun d ys q => by rw [upd_ne (ne_of q h (fun z => by cases z))]; exact q
    by_cases hb : b = a
    · subst hb
      rw [upd_same] at hq
      cases hq
      exact ⟨e, st ⟨z, its, n, r, e⟩⟩
    · rw [upd_ne hb] at hq
      exact st (e0.hok b u hq)
theorem ce_unlock {outer : List Env} {s s' : Shared} {H : Hp} {a : Addr} {ob : Obj} {xs : List V} {Q : VK} {u : Value} (h : H a = some (.lst xs)) (hQ : ∀ v H' H2, Q v H' → Q v H2) (c : CE outer prog w (upd H a (.frz ob (.lst xs))) s Q u s') : CE outer prog w H s Q u s' := by
  obtain ⟨v, H', os, bare, un, hok, r, q⟩ := c
  have ne : ∀ b, H b = none → b ≠ a := fun b q z => by rw [z, h] at q; cases q
  have nu : ∀ {b : Addr} {o : HO}, H b = some o → o ≠ .lst xs → b ≠ a := fun {b o} q n z => by rw [z, h] at q; exact n (Option.some.inj q).symm
  have hfr := un.frzs a ob _ upd_same
  have up : ∀ b, b ≠ a → upd H a (.frz ob (.lst xs)) b = H b := fun b n => upd_ne n
  obtain ⟨ge, gok⟩ := hok a _ hfr
  refine ⟨v, upd H' a (.lst xs), os, bare, ⟨fun b o e n hb hx => un.keep b o e (by rw [up b (ne b n)]; exact n) hb hx, fun b o e n hb hx => un.slot b o e (by rw [up b (ne b n)]; exact n) hb hx, fun b o e n hx => ?_, un.there, fun b ys e => ?_, fun b o ys e => ?_, fun b ps e => ?_⟩, fun b u e => ?_, r, hQ v H' _ q⟩
  · rw [upd_ne (ne b n)]
    exact un.free b o e (by rw [up b (ne b n)]; exact n) hx
  · have nb := nu e (fun z => by cases z)
    rw [upd_ne nb]
    exact un.tups b ys (by rw [up b nb]; exact e)
  · have nb := nu e (fun z => by cases z)
    rw [upd_ne nb]
    exact un.frzs b o ys (by rw [up b nb]; exact e)
  · have nb := nu e (fun z => by cases z)
    obtain ⟨more, z⟩ := un.tbls b ps (by rw [up b nb]; exact e)
    exact ⟨more, by rw [upd_ne nb]; exact z⟩
  · have st : ∀ {c : Addr} {u : HO}, ObjOk prog w H' s'.heap c u → ObjOk prog w (upd H' a (.lst xs)) s'.heap c u := fun {c u} x =>
      x.stay (fun _ _ _ q => q) (fun d q => by rw [upd_ne (by rintro rfl; rw [hfr] at q; cases q)]; exact q) fun d ys q => by rw [upd_ne (by rintro rfl; rw [hfr] at q; cases q)]; exact q
    by_cases hb : b = a
    · subst hb
      rw [upd_same] at e
      cases e
      exact st gok
    · rw [upd_ne hb] at e
      exact st (hok b u e)
/-! ### the law -/
def scriptD (ns : List Int) : D := .lst (ns.map D.int)
/-- what is asked of the law's input -/
def GoodNs (n : Nat) (ns : List Int) : Prop := ns.length ≤ n ∧ ∀ z ∈ ns, Builtin.Int.intBits z ≤ 1048576
def LawSet.Says (S : LawSet) (k n : Nat) (nm : Str) : Prop := ∀ ns, GoodNs n ns → ∃ o', callF S.T S.L k nm [.val (scriptD ns)] [] = .ok (.bl true) o'
def spLaw (K : PySem.W.Frag) (n : Nat) (cs : List (Addr × Addr)) : Sp := fun vs H Q _ => ∃ (a : Addr) (ns : List Int), vs = [.ref a] ∧ SqL K H a (ns.map V.int) ∧ GoodNs n ns ∧ (∀ p ∈ cs, H p.2 = some (.tbl #[])) ∧ ∀ H', Q (.bl true) H'
theorem reps_ints {os : List Addr} {H : Hp} : ∀ ns : List Int, Reps K os H (ns.map D.int) (ns.map V.int)
  | [] => .nil
  | n :: ns => .cons (.mkInt n) (reps_ints ns)
theorem no_lst (c : He.SaysX fa S.DS S.ts S.tf S.ex w h K) {a : Addr} {o : Obj} (e : K.lookup a = some o) : o.cls ≠ .type "list" := by
  have ex := c.more
  unfold LawSet.ex at ex
  simp only [Bool.and_eq_true, List.all_eq_true, decide_eq_true_eq] at ex
  have m : ∀ {l : List (Addr × Obj)}, l.lookup a = some o → (a, o) ∈ l := fun {l} => by
    induction l with
    | nil => intro z; cases z
    | cons p l ih =>
      intro z
      rw [List.lookup_cons] at z
      split at z
      · rename_i q
        have q' := eq_of_beq q
        cases z
        obtain ⟨p1, p2⟩ := p
        cases q'
        exact List.mem_cons_self
      · exact List.mem_cons_of_mem _ (ih z)
  exact ex.1 (a, o) (m e)
theorem law_frz {k n : Nat} {nm : Str} (D : Wd) (hT : D.T = S.T) (hL : D.L = S.L) {ns : List Int} (hg : GoodNs n ns) (hsay : S.Says k n nm) {W : WX} {σ : L2.St} {os : List Addr} {H : Hp} {Q : VK} (hQ : ∀ H', Q (.bl true) H') :
    Out (D.pm D.base k) D.K W σ os H (callF D.T D.L k nm [.val (scriptD ns)] []) (fun d _ os' H' => ∀ v, Rep D.K os' H' d v → Q v H') := by
  obtain ⟨o', e⟩ := hsay ns hg
  rw [hT, hL, e]
  intro os' H' _ _ v r
  unfold Rep at r
  rw [r]
  exact hQ H'
theorem law_at {l : PySem.W.OpenLaw} {f : Addr} {k n : Nat} {nm x : Str} (hS : S.Ok) (X : K.In h) (G : h.Ns mainGlobals mg) (c : He.SaysX fa S.DS S.ts S.tf S.ex w h K) (hsay : S.Says (k + 1) n nm)
    (hx : ∃ d ∈ S.DS, d.name = nm ∧ ∃ a, d.params = ⟨[], [a], none, [], [], none, []⟩ ∧ a.arg = x ∧ (S.T.fn nm).isSome = true) (hm : mg nm = some (.ref f)) (hC : ∀ p ∈ S.tf.map (He.cT K), PySem.W.CodeHd h p.1 p.2) :
    LamX.LawAtS l w K (L2N.CX l.prog w) (k + 1) n x mg f h := by
  obtain ⟨d, hd, rfl, a, hp, rfl, hsome⟩ := hx
  obtain ⟨ir, hir⟩ := Option.isSome_iff_exists.mp hsome
  obtain ⟨fd, F⟩ := He.SaysD.defs (He.SaysT.d c.t) hd
  obtain ⟨h1, h2, h3, h4⟩ := hS.ds d hd
  unfold He.DefD.dvs He.DefD.kws at F
  rw [h1, h2, h3, h4] at F
  have ex := c.more
  unfold LawSet.ex at ex
  simp only [Bool.and_eq_true, List.all_eq_true, decide_eq_true_eq] at ex
  have hf : f = He.ga K d.name := by
    have e := He.glo_ok X G (ex.2.2.2.2.2.2.2.1 d hd)
    rw [hm] at e
    exact Value.ref.inj (Option.some.inj e)
  obtain ⟨oc, od, dV, kV, doc, pm, an, cdv, ct, osl, rfl, lk, hcd, hdv, _⟩ := F.ex
  have hdV : dV = .none := by
    rcases hdv with ⟨_, z⟩ | ⟨z, _⟩
    · exact z
    · exact absurd rfl z
  subst hdV
  refine ⟨PySem.W.fnOf d.name d.name d.params d.body d.scope .none kV doc pm an cdv ct, S.tf.map (He.cT K), spLaw K n (S.tf.map (He.cT K)), fun p hp => ?_, fun p hp => ?_, hC, fun s u => .of_eq (bind_all (args := [a]) hp rfl (by simp) [u] rfl), fun H b ns g1 g2 g3 g4 => ⟨b, ns, rfl, g4, ⟨g1, g2⟩, g3, fun _ => rfl⟩, fun base B1 B2 TB => ⟨fun vs H Q E q => ?_, fun A outer s H args us vs Q E hr e0 hb hv q => ?_⟩⟩
  · obtain ⟨q, hq, rfl⟩ := List.mem_map.mp hp
    exact c.empty q hq
  · obtain ⟨q, hq, rfl⟩ := List.mem_map.mp hp
    exact c.out q hq
  · obtain ⟨b, ns, rfl, _⟩ := q
    rfl
  · obtain ⟨b, ns, rfl, hsq, hg, htab, hQ⟩ := q
    have hD : (S.wd l.prog w K mg base).Defs := LawSet.defs hS e0.mod X G c TB
    obtain ⟨args', body', scope', oc', od', qual', kV', doc', pm', cdv', ct', an', osl', tks', obj', lk', hcd', hnd', hcf', hlam'⟩ := (hD.fns d.name ir hir).ex
    have lk2 := lk'.symm.trans lk
    have ef : PySem.W.fnOf d.name qual' ⟨[], args', none, [], [], none, []⟩ body' scope' .none kV' doc' pm' an' cdv' ct' = PySem.W.fnOf d.name d.name d.params d.body d.scope .none kV doc pm an cdv ct := by
      have z := congrArg (fun o : Obj => o.data) (Option.some.inj lk2)
      exact Data.func.inj z
    have ea : args' = [a] := by
      have z : (⟨[], args', none, [], [], none, []⟩ : Arguments) = d.params := congrArg (fun q : FuncData => q.params) ef
      rw [hp] at z
      exact congrArg (fun q : Arguments => q.args) z
    have hb' : BindsTo s (PySem.W.fnOf d.name qual' ⟨[], args', none, [], [], none, []⟩ body' scope' .none kV' doc' pm' an' cdv' ct') args ((args'.map (·.arg)).zip us) := by
      rw [ef, ea]
      exact hb
    have hok := hD.ok
    have hall := all_ok hD k
    have tabs : ∀ {H' : Hp}, (∀ p ∈ S.tf.map (He.cT K), H' p.2 = some (.tbl #[])) → LamX.Tabs (S.wd l.prog w K mg base).tbs H' := fun {H'} ht p hp => by
      obtain ⟨q, hq, rfl⟩ := List.mem_map.mp hp
      exact LamX.TabS.nil (ht _ (List.mem_map.mpr ⟨q, hq, rfl⟩))
    have go : ∀ {H' : Hp}, Env0 l.prog w K mg base A outer s H' → SqF K H' b (ns.map V.int) → (∀ p ∈ S.tf.map (He.cT K), H' p.2 = some (.tbl #[])) → codeAny (model l.prog w) A (.call (.ref (He.ga K d.name)) args) (CR (L2N.CX l.prog w) outer l.prog w H' s (fun v _ => v = .bl true) (WE (fun _ _ _ _ => False) [])) s := fun {H'} e0' hsf ht => by
      refine def_run (D := S.wd l.prog w K mg base) hok hall.1 hall.2 hir lk' hcd' hcf' hlam' (o := []) (os := []) (sl := [.val (scriptD ns)]) hr e0' hv (fun _ => hb') ?_ ⟨rfl, fun i so z => by simp at z, List.nodup_nil⟩ (tabs ht) (law_frz _ rfl rfl hg hsay fun _ => rfl)
      refine .cons ?_ .nil
      show Rep K [] H' (scriptD ns) (.ref b)
      unfold scriptD Rep
      exact ⟨b, _, rfl, hsf, reps_ints ns⟩
    have fin : ∀ {H' : Hp} {r : Result} {s' : Shared}, CR (L2N.CX l.prog w) outer l.prog w H' s (fun v _ => v = .bl true) (WE (fun _ _ _ _ => False) []) r s' → ∃ u, r = .ok (.ret u) ∧ CE outer l.prog w H' s (fun v _ => v = .bl true) u s' := fun {H' r s'} z => by
      cases r with
      | error e =>
        obtain ⟨_, _, _, _, _, _, _, _, _, _, _, _, z⟩ := z
        exact z.elim
      | ok q =>
        cases q with
        | ret u => exact ⟨u, rfl, z⟩
        | _ => exact z.elim
    have toQ : ∀ {H' : Hp} {u : Value} {s' : Shared}, CE outer l.prog w H' s (fun v _ => v = .bl true) u s' → CE outer l.prog w H' s Q u s' := fun {H' u s'} ⟨v, H2, z1, z2, z3, z4, z5, z6⟩ => ⟨v, H2, z1, z2, z3, z4, z5, by rw [z6]; exact hQ H2⟩
    rw [hf]
    rcases hsq with (hl | ⟨ob, hl⟩) | ⟨o, its, m, z1, z2, _⟩
    · obtain ⟨ob, e1⟩ := env0_lock e0 hl
      refine codeAny_mono (go e1 ⟨ob, upd_same⟩ fun p hp => ?_) fun r s' z => ?_
      · rw [upd_ne (ne_of (htab p hp) hl fun z => by cases z)]
        exact htab p hp
      · obtain ⟨u, rfl, z⟩ := fin z
        exact toQ (ce_unlock hl (fun _ _ _ z => z) z)
    · refine codeAny_mono (go e0 ⟨ob, hl⟩ htab) fun r s' z => ?_
      obtain ⟨u, rfl, z⟩ := fin z
      exact toQ z
    · exact absurd z2 (no_lst c z1)
end
end Ev

set_option maxHeartbeats 2000000
/-! EvY: the law's parts, read off the program's top. -/
namespace Ev
open PySem PySem.Spec PyProof.Rows L2

def topDefs (b : List Stmt) : List Str := b.filterMap fun s => match s with
  | .FunctionDef n _ _ _ _ _ _ _ _ _ => some n
  | _ => none
def topCls0 (b : List Stmt) : List Str := b.filterMap fun s => match s with
  | .ClassDef n .. => some n
  | _ => none
/-- the classes without an __init__ of their own -/
def topClss (b : List Stmt) : List Str := b.filterMap fun s => match s with
  | .ClassDef n _ _ body _ _ _ _ _ _ _ => if body.all (fun s => match s with | .FunctionDef .. => false | _ => true) then some n else none
  | _ => none
mutual
/-- what a name of the module stands for -/
def constE (env : List (Str × D)) : Nat → Expr → Option D
  | 0, _ => none
  | n + 1, e => match e with
    | .Constant (.int i) _ _ => some (.int i)
    | .Constant (.str x) _ _ => some (.str x)
    | .Constant (.bool b) _ _ => some (.bl b)
    | .Constant .none _ _ => some .non
    | .UnaryOp .USub (.Constant (.int i) _ _) _ => some (.int (-i))
    | .Name x _ => env.lookup x
    | .Tuple es _ _ => (constEs env n es).map fun ds => if ds.all intD then .kt ds else .tup ds
    | _ => none
def constEs (env : List (Str × D)) : Nat → List Expr → Option (List D)
  | 0, _ => none
  | _ + 1, [] => some []
  | n + 1, e :: r => match constE env n e, constEs env n r with
    | some d, some ds => some (d :: ds)
    | _, _ => none
end
def dicE (env : List (Str × D)) : List (Option Expr) → List Expr → Option (List (Str × D))
  | [], [] => some []
  | some k :: ks, v :: vs => match constE env 40 k, constE env 40 v, dicE env ks vs with
    | some (.str z), some d, some r => some ((z, d) :: r)
    | _, _, _ => none
  | _, _ => none
def topSets (b : List Stmt) : List Str := b.filterMap fun s => match s with
  | .Assign [.Name x _] _ _ => some x
  | _ => none
/-- the names that are set once -/
def once (b : List Stmt) (x : Str) : Bool := decide (((topSets b).filter fun y => decide (y = x)).length = 1)
def topCons (b : List Stmt) : List (Str × D) := b.foldl (fun env s => match s with
  | .Assign [.Name x _] e _ => if once b x then match constE env 40 e with
      | some d => env ++ [(x, d)]
      | none => env
    else env
  | _ => env) []
def topDics (b : List Stmt) : List (Str × List (Str × D)) := b.filterMap fun s => match s with
  | .Assign [.Name x _] (.Dict ks vs _) _ => if once b x then (dicE (topCons b) ks vs).map fun kvs => (x, kvs) else none
  | _ => none
def dctOf (p : Str × List (Str × D)) : Str × D := (p.1, .dct (p.2.map fun q => D.str q.1) (p.2.map (·.2)))
def topDS (b : List Stmt) : List He.DefD := b.filterMap fun s => match s with
  | .FunctionDef n a bd _ _ _ sc _ _ _ => some ⟨(n, none), n, n, a, bd, sc, [], []⟩
  | _ => none
def topTf (b : List Stmt) : List He.Defn := b.filterMap fun s => match s with
  | .FunctionDef n _ bd _ _ _ _ _ _ _ => if bd.any (lamS 30) then some (n, none) else none
  | _ => none
def topIR (tks : List (Str × Str)) (objs : List Str) (b : List Stmt) : List (Str × FnIR) := b.filterMap (cDef (topDefs b) (topClss b) ((topDics b).map (·.1)) tks objs)
/-- fns: the defs' code, as it is written out -/
def lawSet (b : List Stmt) (fns : List (Str × FnIR)) (isa : Str → Str → Bool) (L : Nat) : LawSet := ⟨topDS b, topTf b, topClss b, topCons b, topDics b, ⟨fun x => fns.lookup x, fun x => (topCons b ++ (topDics b).map dctOf).lookup x, isa⟩, L⟩
theorem look_mem {α : Type} {x : Str} {v : α} : ∀ {l : List (Str × α)}, l.lookup x = some v → (x, v) ∈ l
  | [], h => by cases h
  | (y, u) :: l, h => by
    rw [List.lookup_cons] at h
    split at h
    · rename_i q
      cases h
      rw [eq_of_beq q]
      exact List.mem_cons_self
    · exact List.mem_cons_of_mem _ (look_mem h)
theorem topDefs_eq (b : List Stmt) : (topDS b).map (·.name) = topDefs b := by
  unfold topDS topDefs
  rw [List.map_filterMap]
  congr 1
  funext s
  cases s <;> rfl
theorem lawSet_ok {b : List Stmt} {objs : List Str} {tks : List (Str × Str)} {isa : Str → Str → Bool} {L : Nat} {fns : List (Str × FnIR)} (hf : fns = topIR tks objs b) (hdj : ((topDics b).all fun p => ((topCons b).lookup p.1).isNone) = true) (nd : ((topDS b).all fun d => decide (d.params.args.map (·.arg)).Nodup) = true) : (lawSet b fns isa L).Ok where
  ds := fun d hd => by
    obtain ⟨s, _, e⟩ := List.mem_filterMap.mp (show d ∈ topDS b from hd)
    cases s <;> first
      | (cases e; done)
      | (cases e; exact ⟨rfl, rfl, rfl, rfl⟩)
  fn := fun fn ir e => by
    have e : fns.lookup fn = some ir := e
    rw [hf] at e
    obtain ⟨s, hs, e⟩ := List.mem_filterMap.mp (look_mem e)
    unfold cDef at e
    split at e
    · rename_i name a bd sc bind pos
      split at e
      · rename_i ps hps
        obtain ⟨ir', e1, e2⟩ := Option.map_eq_some_iff.mp e
        cases e2
        unfold lamParams at hps
        split at hps
        · rename_i args
          cases hps
          have hd : (⟨(fn, none), fn, fn, ⟨[], args, none, [], [], none, []⟩, bd, sc, [], []⟩ : He.DefD) ∈ topDS b := List.mem_filterMap.mpr ⟨_, hs, rfl⟩
          refine ⟨_, hd, rfl, args, tks.filterMap (fun p => if p.1 = fn then some p.2 else none), objs.contains fn, rfl, ?_, ?_, fun hl => ?_⟩
          · have z := List.all_eq_true.mp nd _ hd
            exact of_decide_eq_true z
          · show cFn ((topDS b).map (·.name)) (topClss b) _ _ _ _ sc bd = some ir
            rw [topDefs_eq]
            exact e1
          · refine List.mem_filterMap.mpr ⟨_, hs, ?_⟩
            show (if bd.any (lamS 30) then some (fn, none) else none) = some (fn, none)
            rw [if_pos hl]
        · cases hps
      · cases e
    · cases e
  con := fun x d e => by
    have e : (match (topCons b ++ (topDics b).map dctOf).lookup x with
      | some (.dct _ _) => none
      | r => r) = some d := e
    rw [List.lookup_append] at e
    cases q : (topCons b).lookup x with
    | some d' =>
      rw [q] at e
      have e : (match some d' with
        | some (.dct _ _) => none
        | r => r) = some d := e
      split at e
      · cases e
      · cases e
        exact look_mem q
    | none =>
      rw [q, Option.none_or] at e
      split at e
      · cases e
      · rename_i h
        obtain ⟨p, _, ep⟩ := List.mem_map.mp (look_mem e)
        unfold dctOf at ep
        cases ep
        exact absurd e (h _ _)
  dic := fun g hg d e => by
    obtain ⟨p, hp, rfl⟩ := List.mem_map.mp hg
    have n := List.all_eq_true.mp hdj p hp
    have e : (topCons b ++ (topDics b).map dctOf).lookup p.1 = some d := e
    rw [List.lookup_append, Option.isNone_iff_eq_none.mp n, Option.none_or] at e
    obtain ⟨p', hp', ep⟩ := List.mem_map.mp (look_mem e)
    unfold dctOf at ep
    obtain ⟨e1, e2⟩ := Prod.mk.inj ep
    exact ⟨p', hp', e1, e2.symm⟩
/-- the law's def, of one parameter -/
def LawSet.one (S : LawSet) (nm x : Str) : Bool := S.DS.any fun d => decide (d.name = nm) && (match d.params with
  | ⟨[], [a], none, [], [], none, []⟩ => decide (a.arg = x) && (S.T.fn nm).isSome
  | _ => false)
theorem LawSet.one_ok {S : LawSet} {nm x : Str} (h : S.one nm x = true) : ∃ d ∈ S.DS, d.name = nm ∧ ∃ a, d.params = ⟨[], [a], none, [], [], none, []⟩ ∧ a.arg = x ∧ (S.T.fn nm).isSome = true := by
  obtain ⟨d, hd, h⟩ := List.any_eq_true.mp h
  rw [Bool.and_eq_true] at h
  obtain ⟨h1, h2⟩ := h
  split at h2
  · rename_i a q
    rw [Bool.and_eq_true] at h2
    exact ⟨d, hd, of_decide_eq_true h1, a, q, of_decide_eq_true h2.1, h2.2⟩
  · cases h2
/-- the law's promise, where the head says its facts -/
theorem law_walk {l : PySem.W.OpenLaw} {S : LawSet} {k n m : Nat} {x nm : Str} {q : Program} {loose : List Str} {XP : (Str → Option Value) → Heap → Prop} {d : DefRec} {fa : List He.Fa} (hS : S.Ok) (hn : l.most = some n) (hn2 : n ≤ sizeLine) (hdf : d.params.defaults = []) (hr : Room (k + 1) callerA)
    (hnm : d.name = nm) (hx : S.one nm x = true) (hsay : S.Says (k + 1) n nm) :
    PySem.W.WalkO q loose XP (He.hookX m fa S.DS S.ts S.tf S.ex).says l.row.toRowW d [] (fun f vs => PySem.call f vs) := by
  refine LamX.walk_ofTsE (l := l) (n := n) (k := k + 1) (x := x) (CX := fun w => L2N.CX l.prog w) hn hn2 hdf hr (fun w mg fa' h Y G hmg => ?_) fun w H s e s' z => ?_
  · obtain ⟨K, KX, c⟩ := Y
    rw [hnm] at hmg
    refine ⟨K, KX, law_at hS KX G c hsay (LawSet.one_ok hx) hmg fun p hp => ?_⟩
    obtain ⟨p', hp', rfl⟩ := List.mem_map.mp hp
    exact PySem.W.codeHd_of_K KX (c.hd p' hp')
  · obtain ⟨_, _, _, _, _, _, _, _, _, _, _, _, z⟩ := z
    exact z
end Ev

set_option maxHeartbeats 2000000
/-! La: the code of the program's functions, as irout printed it (k05's row). -/
namespace Lib
open PySem Ev
def s_is_integer_1 : IS := (.ret (.and (.isi (.bor 0) "int") (.not (.isi (.bor 0) "bool"))))
def i_is_integer : FnIR := ⟨1, 1, (.cons s_is_integer_1 .nil)⟩
def s_is_within_1 : IS := (.ret (.and (.call "is_integer" (.val (.var 0) .nil)) (.chain .LtE .LtE (.var 1) (.var 0) (.var 2))))
def i_is_within : FnIR := ⟨3, 3, (.cons s_is_within_1 .nil)⟩
def s_is_flag_1 : IS := (.ret (.isi (.bor 0) "bool"))
def i_is_flag : FnIR := ⟨1, 1, (.cons s_is_flag_1 .nil)⟩
def s_is_sized_1 : IS := (.ret (.and (.isi (.bor 0) "tuple") (.chain .LtE .LtE (.var 1) (.bif .len (.cons (.bor 0) .nil)) (.var 2))))
def i_is_sized : FnIR := ⟨3, 3, (.cons s_is_sized_1 .nil)⟩
def e_are_rising_1 : IE := (.comp (.cmp .Lt (.bor 1) (.bor 2)) (.tup [(.name 1), (.name 2)]) (.zip (.bor 0) (.slc (.bor 0) (.some (.int 1)) .none)) .none [1, 2])
def s_are_rising_2 : IS := (.ret (.bif .all (.cons e_are_rising_1 .nil)))
def i_are_rising : FnIR := ⟨1, 3, (.cons s_are_rising_2 .nil)⟩
def e_is_lot_1 : IE := (.comp (.call "is_within" (.val (.var 2) (.val (.int 0) (.val (.bin .Sub (.bor 1) (.int 1)) .nil)))) (.name 2) (.seq (.bor 0)) .none [2])
def s_is_lot_2 : IS := (.ret (.bl false))
def s_is_lot_3 : IS := (.ife (.or (.not (.isi (.bor 0) "tuple")) (.not (.bif .all (.cons e_is_lot_1 .nil)))) (.cons s_is_lot_2 .nil) .nil)
def s_is_lot_4 : IS := (.ret (.call "are_rising" (.val (.var 0) .nil)))
def i_is_lot : FnIR := ⟨2, 3, (.cons s_is_lot_3 (.cons s_is_lot_4 .nil))⟩
def s_common_part_1 : IS := (.par [0, 1] (.cons (.var 1) (.cons (.bin .Mod (.bor 0) (.bor 1)) .nil)))
def b_common_part_2 : ISs := (.cons s_common_part_1 .nil)
def s_common_part_3 : IS := (.whl (.cmp .Gt (.bor 1) (.int 0)) b_common_part_2)
def s_common_part_4 : IS := (.ret (.var 0))
def i_common_part : FnIR := ⟨2, 2, (.cons s_common_part_3 (.cons s_common_part_4 .nil))⟩
def s_is_leap_rule_1 : IS := (.ret (.bl false))
def s_is_leap_rule_2 : IS := (.ife (.or (.not (.call "is_sized" (.val (.var 1) (.val (.int 4) (.val (.int 4) .nil))))) (.or (.not (.call "is_within" (.val (.idx (.bor 1) (.int 0)) (.val (.int 1) (.val (.glob "MOST_CYCLE") .nil))))) (.not (.call "is_lot" (.val (.idx (.bor 1) (.int 1)) (.val (.idx (.bor 1) (.int 0)) .nil)))))) (.cons s_is_leap_rule_1 .nil) .nil)
def s_is_leap_rule_3 : IS := (.ret (.and (.call "is_within" (.val (.idx (.bor 1) (.int 2)) (.val (.int 0) (.val (.bin .Sub (.bor 0) (.int 1)) .nil)))) (.call "is_within" (.val (.idx (.bor 1) (.int 3)) (.val (.int 1) (.val (.glob "MOST_MORE") .nil))))))
def i_is_leap_rule : FnIR := ⟨2, 2, (.cons s_is_leap_rule_2 (.cons s_is_leap_rule_3 .nil))⟩
def s_is_calendar_1 : IS := (.ret (.bl false))
def s_is_calendar_2 : IS := (.ife (.or (.not (.call "is_sized" (.val (.var 0) (.val (.int 3) (.val (.int 3) .nil))))) (.or (.not (.call "is_within" (.val (.idx (.bor 0) (.int 0)) (.val (.int 1) (.val (.glob "MOST_WEEK") .nil))))) (.not (.call "is_sized" (.val (.idx (.bor 0) (.int 1)) (.val (.int 1) (.val (.glob "MOST_MONTHS") .nil))))))) (.cons s_is_calendar_1 .nil) .nil)
def e_is_calendar_3 : IE := (.comp (.call "is_within" (.val (.var 1) (.val (.int 1) (.val (.glob "MOST_MONTH") .nil)))) (.name 1) (.seq (.idx (.bor 0) (.int 1))) .none [1])
def s_is_calendar_4 : IS := (.ret (.bl false))
def s_is_calendar_5 : IS := (.ife (.not (.bif .all (.cons e_is_calendar_3 .nil))) (.cons s_is_calendar_4 .nil) .nil)
def s_is_calendar_6 : IS := (.ret (.call "is_leap_rule" (.val (.bif .len (.cons (.idx (.bor 0) (.int 1)) .nil)) (.val (.idx (.bor 0) (.int 2)) .nil))))
def i_is_calendar : FnIR := ⟨1, 2, (.cons s_is_calendar_2 (.cons s_is_calendar_5 (.cons s_is_calendar_6 .nil)))⟩
def s_check_calendar_1 : IS := (.raise "NoCalendar" .none)
def s_check_calendar_2 : IS := (.ife (.not (.call "is_calendar" (.val (.var 0) .nil))) (.cons s_check_calendar_1 .nil) .nil)
def i_check_calendar : FnIR := ⟨1, 1, (.cons s_check_calendar_2 .nil)⟩
def s_is_number_1 : IS := (.ret (.and (.call "is_integer" (.val (.var 0) .nil)) (.cmp .GtE (.bor 0) (.int 0))))
def i_is_number : FnIR := ⟨1, 1, (.cons s_is_number_1 .nil)⟩
def s_raw_is_leap_1 : IS := (.ret (.cmp .In (.bin .Mod (.bor 1) (.idx (.idx (.bor 0) (.int 2)) (.int 0))) (.idx (.idx (.bor 0) (.int 2)) (.int 1))))
def i_raw_is_leap : FnIR := ⟨2, 2, (.cons s_raw_is_leap_1 .nil)⟩
def s_raw_year_days_1 : IS := (.ret (.bin .Add (.bif .sum (.cons (.idx (.bor 0) (.int 1)) .nil)) (.ite (.call "raw_is_leap" (.val (.var 0) (.val (.var 1) .nil))) (.idx (.idx (.bor 0) (.int 2)) (.int 3)) (.int 0))))
def i_raw_year_days : FnIR := ⟨2, 2, (.cons s_raw_year_days_1 .nil)⟩
def s_raw_month_days_1 : IS := (.set (.name 3) (.ite (.and (.cmp .Eq (.bor 2) (.idx (.idx (.bor 0) (.int 2)) (.int 2))) (.call "raw_is_leap" (.val (.var 0) (.val (.var 1) .nil)))) (.idx (.idx (.bor 0) (.int 2)) (.int 3)) (.int 0)))
def s_raw_month_days_2 : IS := (.ret (.bin .Add (.idx (.idx (.bor 0) (.int 1)) (.var 2)) (.bor 3)))
def i_raw_month_days : FnIR := ⟨3, 4, (.cons s_raw_month_days_1 (.cons s_raw_month_days_2 .nil))⟩
def s_raw_cycle_days_1 : IS := (.ret (.bin .Add (.bin .Mult (.idx (.idx (.bor 0) (.int 2)) (.int 0)) (.bif .sum (.cons (.idx (.bor 0) (.int 1)) .nil))) (.bin .Mult (.bif .len (.cons (.idx (.idx (.bor 0) (.int 2)) (.int 1)) .nil)) (.idx (.idx (.bor 0) (.int 2)) (.int 3)))))
def i_raw_cycle_days : FnIR := ⟨1, 1, (.cons s_raw_cycle_days_1 .nil)⟩
def s_raw_date_1 : IS := (.par [2, 3] (.cons (.bin .FloorDiv (.bor 1) (.call "raw_cycle_days" (.val (.var 0) .nil))) (.cons (.bin .Mod (.bor 1) (.call "raw_cycle_days" (.val (.var 0) .nil))) .nil)))
def s_raw_date_2 : IS := (.set (.name 4) (.bin .Mult (.bor 2) (.idx (.idx (.bor 0) (.int 2)) (.int 0))))
def s_raw_date_3 : IS := (.par [3, 4] (.cons (.bin .Sub (.bor 3) (.call "raw_year_days" (.val (.var 0) (.val (.var 4) .nil)))) (.cons (.bin .Add (.bor 4) (.int 1)) .nil)))
def b_raw_date_4 : ISs := (.cons s_raw_date_3 .nil)
def s_raw_date_5 : IS := (.whl (.cmp .GtE (.bor 3) (.call "raw_year_days" (.val (.var 0) (.val (.var 4) .nil)))) b_raw_date_4)
def s_raw_date_6 : IS := (.set (.name 5) (.int 0))
def s_raw_date_7 : IS := (.par [3, 5] (.cons (.bin .Sub (.bor 3) (.call "raw_month_days" (.val (.var 0) (.val (.var 4) (.val (.var 5) .nil))))) (.cons (.bin .Add (.bor 5) (.int 1)) .nil)))
def b_raw_date_8 : ISs := (.cons s_raw_date_7 .nil)
def s_raw_date_9 : IS := (.whl (.cmp .GtE (.bor 3) (.call "raw_month_days" (.val (.var 0) (.val (.var 4) (.val (.var 5) .nil))))) b_raw_date_8)
def s_raw_date_10 : IS := (.ret (.tup (.cons (.var 4) (.cons (.var 5) (.cons (.bin .Add (.bor 3) (.int 1)) .nil)))))
def i_raw_date : FnIR := ⟨2, 6, (.cons s_raw_date_1 (.cons s_raw_date_2 (.cons s_raw_date_5 (.cons s_raw_date_6 (.cons s_raw_date_9 (.cons s_raw_date_10 .nil))))))⟩
def s_raw_ahead_1 : IS := (.set (.tup [(.name 2), (.name 3), (.name 4)]) (.call "raw_date" (.val (.var 0) (.val (.var 1) .nil))))
def s_raw_ahead_2 : IS := (.ret (.bin .Add (.bin .Sub (.call "raw_month_days" (.val (.var 0) (.val (.var 2) (.val (.var 3) .nil)))) (.bor 4)) (.int 1)))
def i_raw_ahead : FnIR := ⟨2, 5, (.cons s_raw_ahead_1 (.cons s_raw_ahead_2 .nil))⟩
def s_is_form_1 : IS := (.ret (.bl false))
def s_is_form_2 : IS := (.ife (.or (.not (.call "is_sized" (.val (.var 0) (.val (.int 3) (.val (.int 3) .nil))))) (.or (.not (.call "is_within" (.val (.idx (.bor 0) (.int 0)) (.val (.int 0) (.val (.glob "MOST_FORM") .nil))))) (.not (.call "is_within" (.val (.idx (.bor 0) (.int 1)) (.val (.int 1) (.val (.glob "MOST_FORM") .nil))))))) (.cons s_is_form_1 .nil) .nil)
def s_is_form_3 : IS := (.ret (.and (.cmp .LtE (.bin .Add (.idx (.bor 0) (.int 0)) (.idx (.bor 0) (.int 1))) (.glob "MOST_FORM")) (.call "is_lot" (.val (.idx (.bor 0) (.int 2)) (.val (.bin .Add (.idx (.bor 0) (.int 0)) (.idx (.bor 0) (.int 1))) .nil)))))
def i_is_form : FnIR := ⟨1, 1, (.cons s_is_form_2 (.cons s_is_form_3 .nil))⟩
def s_check_form_1 : IS := (.raise "NoForm" .none)
def s_check_form_2 : IS := (.ife (.not (.call "is_form" (.val (.var 0) .nil))) (.cons s_check_form_1 .nil) .nil)
def i_check_form : FnIR := ⟨1, 1, (.cons s_check_form_2 .nil)⟩
def s_raw_flags_1 : IS := (.set (.tup [(.name 2), (.name 3), (.name 4)]) (.var 0))
def s_raw_flags_2 : IS := (.setOwn 5 (.bin .Mult (.lst (.cons (.bl false) .nil)) (.bin .Add (.bor 2) (.bor 3))))
def s_raw_flags_3 : IS := (.setIdx (.bor 5) (.var 6) (.bl true))
def b_raw_flags_4 : ISs := (.cons s_raw_flags_3 .nil)
def s_raw_flags_5 : IS := (.for (.name 6) (.seq (.var 4)) b_raw_flags_4)
def s_raw_flags_6 : IS := (.extend 5 (.slc (.bor 5) (.some (.var 2)) (.some (.bin .Add (.bor 2) (.bor 3)))))
def b_raw_flags_7 : ISs := (.cons s_raw_flags_6 .nil)
def s_raw_flags_8 : IS := (.whl (.cmp .Lt (.bif .len (.cons (.bor 5) .nil)) (.bor 1)) b_raw_flags_7)
def s_raw_flags_9 : IS := (.ret (.slc (.bor 5) .none (.some (.var 1))))
def i_raw_flags : FnIR := ⟨2, 7, (.cons s_raw_flags_1 (.cons s_raw_flags_2 (.cons s_raw_flags_5 (.cons s_raw_flags_8 (.cons s_raw_flags_9 .nil)))))⟩
def s_check_width_1 : IS := .bad
def s_check_width_2 : IS := (.ife (.cmp .Gt (.bin .Add (.bor 0) (.bor 1)) (.glob "MOST_FORM")) (.cons s_check_width_1 .nil) .nil)
def i_check_width : FnIR := ⟨2, 2, (.cons s_check_width_2 .nil)⟩
def s_least_span_1 : IS := (.ret (.var 1))
def s_least_span_2 : IS := (.ife (.and (.cmp .Eq (.bin .Mod (.bif .len (.cons (.bor 0) .nil)) (.bor 1)) (.int 0)) (.cmp .Eq (.bin .Add (.slc (.bor 0) (.some (.var 1)) .none) (.slc (.bor 0) .none (.some (.var 1)))) (.bor 0))) (.cons s_least_span_1 .nil) .nil)
def b_least_span_3 : ISs := (.cons s_least_span_2 .nil)
def s_least_span_4 : IS := (.for (.name 1) (.range2 (.int 1) (.bin .Add (.bif .len (.cons (.bor 0) .nil)) (.int 1))) b_least_span_3)
def s_least_span_5 : IS := (.ret (.bif .len (.cons (.bor 0) .nil)))
def i_least_span : FnIR := ⟨1, 2, (.cons s_least_span_4 (.cons s_least_span_5 .nil))⟩
def s_form_by_1 : IS := (.set (.name 2) (.call "least_span" (.val (.slc (.bor 1) (.some (.var 0)) .none) .nil)))
def s_form_by_2 : IS := (.set (.name 3) (.bif .list (.cons (.slc (.bor 1) .none (.some (.bin .Add (.bor 0) (.bor 2)))) .nil)))
def s_form_by_3 : IS := (.aug 0 .Sub (.int 1))
def b_form_by_4 : ISs := (.cons s_form_by_3 .nil)
def s_form_by_5 : IS := (.whl (.and (.cmp .Gt (.bor 0) (.int 0)) (.cmp .Eq (.idx (.bor 3) (.bin .Sub (.bor 0) (.int 1))) (.idx (.bor 3) (.bin .Add (.bin .Sub (.bor 0) (.int 1)) (.bor 2))))) b_form_by_4)
def s_form_by_6 : IS := (.expr (.call "check_width" (.val (.var 0) (.val (.var 2) .nil))))
def e_form_by_7 : IE := (.comp (.var 4) (.tup [(.name 4), (.name 5)]) (.enum (.slc (.bor 3) .none (.some (.bin .Add (.bor 0) (.bor 2))))) (.some (.var 5)) [4, 5])
def s_form_by_8 : IS := (.ret (.tup (.cons (.var 0) (.cons (.var 2) (.cons (.bif .tuple (.cons e_form_by_7 .nil)) .nil)))))
def i_form_by : FnIR := ⟨2, 6, (.cons s_form_by_1 (.cons s_form_by_2 (.cons s_form_by_5 (.cons s_form_by_6 (.cons s_form_by_8 .nil)))))⟩
def s_raw_least_1 : IS := (.ret (.call "form_by" (.val (.idx (.bor 0) (.int 0)) (.val (.call "raw_flags" (.val (.var 0) (.val (.bin .Add (.idx (.bor 0) (.int 0)) (.idx (.bor 0) (.int 1))) .nil))) .nil))))
def i_raw_least : FnIR := ⟨1, 1, (.cons s_raw_least_1 .nil)⟩
def s_least_1 : IS := (.expr (.call "check_form" (.val (.var 0) .nil)))
def s_least_2 : IS := (.ret (.call "raw_least" (.val (.var 0) .nil)))
def i_least : FnIR := ⟨1, 1, (.cons s_least_1 (.cons s_least_2 .nil))⟩
def s_is_least_1 : IS := (.expr (.call "check_form" (.val (.var 0) .nil)))
def s_is_least_2 : IS := (.ret (.cmp .Eq (.call "raw_least" (.val (.var 0) .nil)) (.bor 0)))
def i_is_least : FnIR := ⟨1, 1, (.cons s_is_least_1 (.cons s_is_least_2 .nil))⟩
def s_raw_has_1 : IS := (.set (.tup [(.name 2), (.name 3), (.name 4)]) (.var 0))
def s_raw_has_2 : IS := (.ret (.cmp .In (.ite (.cmp .Lt (.bor 1) (.bor 2)) (.var 1) (.bin .Add (.bor 2) (.bin .Mod (.bin .Sub (.bor 1) (.bor 2)) (.bor 3)))) (.bor 4)))
def i_raw_has : FnIR := ⟨2, 5, (.cons s_raw_has_1 (.cons s_raw_has_2 .nil))⟩
def s_check_day_of_1 : IS := (.expr (.call "check_form" (.val (.var 0) .nil)))
def s_check_day_of_2 : IS := (.raise "NoDay" .none)
def s_check_day_of_3 : IS := (.ife (.not (.call "is_number" (.val (.var 1) .nil))) (.cons s_check_day_of_2 .nil) .nil)
def i_check_day_of : FnIR := ⟨2, 2, (.cons s_check_day_of_1 (.cons s_check_day_of_3 .nil))⟩
def s_has_day_1 : IS := (.expr (.call "check_day_of" (.val (.var 0) (.val (.var 1) .nil))))
def s_has_day_2 : IS := (.ret (.call "raw_has" (.val (.var 0) (.val (.var 1) .nil))))
def i_has_day : FnIR := ⟨2, 2, (.cons s_has_day_1 (.cons s_has_day_2 .nil))⟩
def s_common_span_1 : IS := (.ret (.bin .Mult (.bin .FloorDiv (.bor 0) (.call "common_part" (.val (.var 0) (.val (.var 1) .nil)))) (.bor 1)))
def i_common_span : FnIR := ⟨2, 2, (.cons s_common_span_1 .nil)⟩
def s_two_flags_1 : IS := (.par [3, 4] (.cons (.bif .max2 (.cons (.idx (.bor 0) (.int 0)) (.cons (.idx (.bor 1) (.int 0)) .nil))) (.cons (.call "common_span" (.val (.idx (.bor 0) (.int 1)) (.val (.idx (.bor 1) (.int 1)) .nil))) .nil)))
def s_two_flags_2 : IS := (.expr (.call "check_width" (.val (.var 3) (.val (.var 4) .nil))))
def s_two_flags_3 : IS := (.ret (.tup (.cons (.var 3) (.cons (.var 4) (.cons (.call "raw_flags" (.val (.var 0) (.val (.bin .Add (.bin .Add (.bor 3) (.bor 4)) (.bor 2)) .nil))) (.cons (.call "raw_flags" (.val (.var 1) (.val (.bin .Add (.bin .Add (.bor 3) (.bor 4)) (.bor 2)) .nil))) .nil))))))
def i_two_flags : FnIR := ⟨3, 5, (.cons s_two_flags_1 (.cons s_two_flags_2 (.cons s_two_flags_3 .nil)))⟩
def e_raw_turned_1 : IE := (.comp (.not (.var 1)) (.name 1) (.seq (.call "raw_flags" (.val (.var 0) (.val (.bin .Add (.idx (.bor 0) (.int 0)) (.idx (.bor 0) (.int 1))) .nil)))) .none [1])
def s_raw_turned_2 : IS := (.ret (.call "form_by" (.val (.idx (.bor 0) (.int 0)) (.val e_raw_turned_1 .nil))))
def i_raw_turned : FnIR := ⟨1, 2, (.cons s_raw_turned_2 .nil)⟩
def s_raw_either_1 : IS := (.set (.tup [(.name 2), (.name 3), (.name 4), (.name 5)]) (.call "two_flags" (.val (.var 0) (.val (.var 1) (.val (.int 0) .nil)))))
def e_raw_either_2 : IE := (.comp (.or (.var 6) (.var 7)) (.tup [(.name 6), (.name 7)]) (.zip (.bor 4) (.bor 5)) .none [6, 7])
def s_raw_either_3 : IS := (.ret (.call "form_by" (.val (.var 2) (.val e_raw_either_2 .nil))))
def i_raw_either : FnIR := ⟨2, 8, (.cons s_raw_either_1 (.cons s_raw_either_3 .nil))⟩
def s_raw_both_1 : IS := (.set (.tup [(.name 2), (.name 3), (.name 4), (.name 5)]) (.call "two_flags" (.val (.var 0) (.val (.var 1) (.val (.int 0) .nil)))))
def e_raw_both_2 : IE := (.comp (.and (.var 6) (.var 7)) (.tup [(.name 6), (.name 7)]) (.zip (.bor 4) (.bor 5)) .none [6, 7])
def s_raw_both_3 : IS := (.ret (.call "form_by" (.val (.var 2) (.val e_raw_both_2 .nil))))
def i_raw_both : FnIR := ⟨2, 8, (.cons s_raw_both_1 (.cons s_raw_both_3 .nil))⟩
def s_raw_without_1 : IS := (.set (.tup [(.name 2), (.name 3), (.name 4), (.name 5)]) (.call "two_flags" (.val (.var 0) (.val (.var 1) (.val (.int 0) .nil)))))
def e_raw_without_2 : IE := (.comp (.and (.var 6) (.not (.var 7))) (.tup [(.name 6), (.name 7)]) (.zip (.bor 4) (.bor 5)) .none [6, 7])
def s_raw_without_3 : IS := (.ret (.call "form_by" (.val (.var 2) (.val e_raw_without_2 .nil))))
def i_raw_without : FnIR := ⟨2, 8, (.cons s_raw_without_1 (.cons s_raw_without_3 .nil))⟩
def s_raw_shifted_1 : IS := (.set (.tup [(.name 2), (.name 3), (.name 4)]) (.var 0))
def s_raw_shifted_2 : IS := (.expr (.call "check_width" (.val (.bin .Add (.bor 2) (.bif .max2 (.cons (.int 0) (.cons (.bor 1) .nil)))) (.val (.var 3) .nil))))
def s_raw_shifted_3 : IS := (.ret (.call "form_by" (.val (.bin .Add (.bor 2) (.bor 1)) (.val (.bin .Add (.bin .Mult (.lst (.cons (.bl false) .nil)) (.bor 1)) (.call "raw_flags" (.val (.var 0) (.val (.bin .Add (.bor 2) (.bor 3)) .nil)))) .nil))))
def s_raw_shifted_4 : IS := (.ife (.cmp .GtE (.bor 1) (.int 0)) (.cons s_raw_shifted_3 .nil) .nil)
def s_raw_shifted_5 : IS := (.set (.name 5) (.slc (.call "raw_flags" (.val (.var 0) (.val (.bin .Add (.bif .max2 (.cons (.bor 2) (.cons (.bin .Sub (.int 0) (.bor 1)) .nil))) (.bor 3)) .nil))) (.some (.bin .Sub (.int 0) (.bor 1))) .none))
def s_raw_shifted_6 : IS := (.ret (.call "form_by" (.val (.bif .max2 (.cons (.int 0) (.cons (.bin .Add (.bor 2) (.bor 1)) .nil))) (.val (.var 5) .nil))))
def i_raw_shifted : FnIR := ⟨2, 6, (.cons s_raw_shifted_1 (.cons s_raw_shifted_2 (.cons s_raw_shifted_4 (.cons s_raw_shifted_5 (.cons s_raw_shifted_6 .nil)))))⟩
def s_flags_of_1 : IS := (.expr (.call "check_form" (.val (.var 0) .nil)))
def s_flags_of_2 : IS := (.raise "NoNumber" .none)
def s_flags_of_3 : IS := (.ife (.not (.call "is_within" (.val (.var 1) (.val (.int 0) (.val (.glob "MOST_FLAGS") .nil))))) (.cons s_flags_of_2 .nil) .nil)
def s_flags_of_4 : IS := (.ret (.bif .tuple (.cons (.call "raw_flags" (.val (.var 0) (.val (.var 1) .nil))) .nil)))
def i_flags_of : FnIR := ⟨2, 2, (.cons s_flags_of_1 (.cons s_flags_of_3 (.cons s_flags_of_4 .nil)))⟩
def e_form_of_flags_1 : IE := (.comp (.call "is_flag" (.val (.var 2) .nil)) (.name 2) (.seq (.bor 1)) .none [2])
def s_form_of_flags_2 : IS := (.raise "NoFlags" .none)
def s_form_of_flags_3 : IS := (.ife (.or (.not (.call "is_sized" (.val (.var 1) (.val (.int 1) (.val (.glob "MOST_FLAGS") .nil))))) (.not (.bif .all (.cons e_form_of_flags_1 .nil)))) (.cons s_form_of_flags_2 .nil) .nil)
def s_form_of_flags_4 : IS := (.raise "NoBegin" .none)
def s_form_of_flags_5 : IS := (.ife (.or (.not (.call "is_integer" (.val (.var 0) .nil))) (.not (.chain .LtE .Lt (.int 0) (.var 0) (.bif .len (.cons (.bor 1) .nil))))) (.cons s_form_of_flags_4 .nil) .nil)
def s_form_of_flags_6 : IS := (.ret (.call "form_by" (.val (.var 0) (.val (.bif .list (.cons (.bor 1) .nil)) .nil))))
def i_form_of_flags : FnIR := ⟨2, 3, (.cons s_form_of_flags_3 (.cons s_form_of_flags_5 (.cons s_form_of_flags_6 .nil)))⟩
def e_round_days_in_1 : IE := (.comp (.var 1) (.name 1) (.seq (.idx (.bor 0) (.int 2))) (.some (.cmp .GtE (.bor 1) (.idx (.bor 0) (.int 0)))) [1])
def s_round_days_in_2 : IS := (.ret e_round_days_in_1)
def i_round_days_in : FnIR := ⟨1, 2, (.cons s_round_days_in_2 .nil)⟩
def e_are_dates_1 : IE := (.comp (.and (.call "is_within" (.val (.var 1) (.val (.neg (.glob "MOST_DATE")) (.val (.glob "MOST_DATE") .nil)))) (.cmp .NotEq (.bor 1) (.int 0))) (.name 1) (.seq (.bor 0)) .none [1])
def s_are_dates_2 : IS := (.ret (.bl false))
def s_are_dates_3 : IS := (.ife (.or (.not (.isi (.bor 0) "tuple")) (.not (.bif .all (.cons e_are_dates_1 .nil)))) (.cons s_are_dates_2 .nil) .nil)
def e_are_dates_4 : IE := (.comp (.cmp .Lt (.bor 1) (.bor 2)) (.tup [(.name 1), (.name 2)]) (.zip (.bor 0) (.slc (.bor 0) (.some (.int 1)) .none)) .none [1, 2])
def s_are_dates_5 : IS := (.ret (.bif .all (.cons e_are_dates_4 .nil)))
def i_are_dates : FnIR := ⟨1, 3, (.cons s_are_dates_3 (.cons s_are_dates_5 .nil))⟩
def s_is_leaf_right_1 : IS := (.set (.name 2) (.idx (.bor 1) (.int 0)))
def s_is_leaf_right_2 : IS := (.ret (.bl true))
def s_is_leaf_right_3 : IS := (.ife (.cmp .In (.bor 2) (.tup (.cons (.glob "ALL") (.cons (.glob "NONE") .nil)))) (.cons s_is_leaf_right_2 .nil) .nil)
def s_is_leaf_right_4 : IS := (.ret (.and (.call "is_lot" (.val (.idx (.bor 1) (.int 1)) (.val (.bin .Add (.glob "MOST_NAMED_DAY") (.int 1)) .nil))) (.cmp .LtE (.bif .len (.cons (.idx (.bor 1) (.int 1)) .nil)) (.glob "MOST_LISTED"))))
def s_is_leaf_right_5 : IS := (.ife (.cmp .Eq (.bor 2) (.glob "ON")) (.cons s_is_leaf_right_4 .nil) .nil)
def s_is_leaf_right_6 : IS := (.ret (.call "is_within" (.val (.idx (.bor 1) (.int 1)) (.val (.int 0) (.val (.glob "MOST_NAMED_DAY") .nil)))))
def s_is_leaf_right_7 : IS := (.ife (.cmp .Eq (.bor 2) (.glob "FROM")) (.cons s_is_leaf_right_6 .nil) .nil)
def s_is_leaf_right_8 : IS := (.ret (.call "is_lot" (.val (.idx (.bor 1) (.int 1)) (.val (.idx (.bor 0) (.int 0)) .nil))))
def s_is_leaf_right_9 : IS := (.ife (.cmp .Eq (.bor 2) (.glob "WEEKDAY")) (.cons s_is_leaf_right_8 .nil) .nil)
def s_is_leaf_right_10 : IS := (.ret (.call "is_lot" (.val (.idx (.bor 1) (.int 1)) (.val (.bif .len (.cons (.idx (.bor 0) (.int 1)) .nil)) .nil))))
def s_is_leaf_right_11 : IS := (.ife (.cmp .Eq (.bor 2) (.glob "MONTH")) (.cons s_is_leaf_right_10 .nil) .nil)
def s_is_leaf_right_12 : IS := (.ret (.call "are_dates" (.val (.idx (.bor 1) (.int 1)) .nil)))
def s_is_leaf_right_13 : IS := (.ife (.cmp .Eq (.bor 2) (.glob "DATE")) (.cons s_is_leaf_right_12 .nil) .nil)
def s_is_leaf_right_14 : IS := (.ret (.and (.call "is_within" (.val (.idx (.bor 1) (.int 1)) (.val (.int 1) (.val (.glob "MOST_YEARS") .nil)))) (.call "is_within" (.val (.idx (.bor 1) (.int 2)) (.val (.int 0) (.val (.bin .Sub (.idx (.bor 1) (.int 1)) (.int 1)) .nil))))))
def s_is_leaf_right_15 : IS := (.ife (.cmp .Eq (.bor 2) (.glob "YEAR")) (.cons s_is_leaf_right_14 .nil) .nil)
def s_is_leaf_right_16 : IS := (.ret (.and (.call "is_within" (.val (.idx (.bor 1) (.int 1)) (.val (.int 1) (.val (.glob "MOST_EVERY") .nil)))) (.call "is_within" (.val (.idx (.bor 1) (.int 2)) (.val (.int 0) (.val (.glob "MOST_NAMED_DAY") .nil))))))
def i_is_leaf_right : FnIR := ⟨2, 3, (.cons s_is_leaf_right_1 (.cons s_is_leaf_right_3 (.cons s_is_leaf_right_5 (.cons s_is_leaf_right_7 (.cons s_is_leaf_right_9 (.cons s_is_leaf_right_11 (.cons s_is_leaf_right_13 (.cons s_is_leaf_right_15 (.cons s_is_leaf_right_16 .nil)))))))))⟩
def s_is_nth_1 : IS := (.ret (.and (.call "is_within" (.val (.var 0) (.val (.neg (.glob "MOST_NTH")) (.val (.glob "MOST_NTH") .nil)))) (.cmp .NotEq (.bor 0) (.int 0))))
def i_is_nth : FnIR := ⟨1, 1, (.cons s_is_nth_1 .nil)⟩
def s_are_numbers_right_1 : IS := (.set (.name 1) (.idx (.bor 0) (.int 0)))
def s_are_numbers_right_2 : IS := (.ret (.call "is_within" (.val (.idx (.bor 0) (.int 2)) (.val (.neg (.glob "MOST_MOVED")) (.val (.glob "MOST_MOVED") .nil)))))
def s_are_numbers_right_3 : IS := (.ife (.cmp .Eq (.bor 1) (.glob "MOVED")) (.cons s_are_numbers_right_2 .nil) .nil)
def s_are_numbers_right_4 : IS := (.ret (.call "is_flag" (.val (.idx (.bor 0) (.int 3)) .nil)))
def s_are_numbers_right_5 : IS := (.ife (.cmp .Eq (.bor 1) (.glob "ROLLED")) (.cons s_are_numbers_right_4 .nil) .nil)
def s_are_numbers_right_6 : IS := (.ret (.call "is_nth" (.val (.idx (.bor 0) (.int 1)) .nil)))
def s_are_numbers_right_7 : IS := (.ife (.cmp .Eq (.bor 1) (.glob "NTH")) (.cons s_are_numbers_right_6 .nil) .nil)
def s_are_numbers_right_8 : IS := (.ret (.call "is_within" (.val (.idx (.bor 0) (.int 1)) (.val (.int 0) (.val (.glob "MOST_COUNT") .nil)))))
def s_are_numbers_right_9 : IS := (.ife (.cmp .In (.bor 1) (.tup (.cons (.glob "COUNT") (.cons (.glob "PAST") .nil)))) (.cons s_are_numbers_right_8 .nil) .nil)
def s_are_numbers_right_10 : IS := (.ret (.or (.cmp .NotEq (.bor 1) (.glob "EACH")) (.call "is_within" (.val (.idx (.bor 0) (.int 1)) (.val (.int 1) (.val (.glob "MOST_EACH") .nil))))))
def i_are_numbers_right : FnIR := ⟨1, 2, (.cons s_are_numbers_right_1 (.cons s_are_numbers_right_3 (.cons s_are_numbers_right_5 (.cons s_are_numbers_right_7 (.cons s_are_numbers_right_9 (.cons s_are_numbers_right_10 .nil))))))⟩
def s_is_node_1 : IS := (.ret (.bl false))
def s_is_node_2 : IS := (.ife (.or (.not (.isi (.bor 1) "tuple")) (.or (.cmp .Eq (.bif .len (.cons (.bor 1) .nil)) (.int 0)) (.or (.not (.isi (.idx (.bor 1) (.int 0)) "str")) (.gin true (.idx (.bor 1) (.int 0)) "SIZES")))) (.cons s_is_node_1 .nil) .nil)
def s_is_node_3 : IS := (.ret (.bl false))
def s_is_node_4 : IS := (.ife (.cmp .NotEq (.bif .len (.cons (.bor 1) .nil)) (.gidx "SIZES" (.idx (.bor 1) (.int 0)))) (.cons s_is_node_3 .nil) .nil)
def s_is_node_5 : IS := (.ret (.ite (.cmp .In (.idx (.bor 1) (.int 0)) (.glob "LEAVES")) (.call "is_leaf_right" (.val (.var 0) (.val (.var 1) .nil))) (.call "are_numbers_right" (.val (.var 1) .nil))))
def i_is_node : FnIR := ⟨2, 2, (.cons s_is_node_2 (.cons s_is_node_4 (.cons s_is_node_5 .nil)))⟩
def e_raw_parts_1 : IE := (.comp (.idx (.bor 0) (.var 1)) (.name 1) (.seq (.gget "SPOTS" (.idx (.bor 0) (.int 0)) (.tup .nil))) .none [1])
def s_raw_parts_2 : IS := (.ret e_raw_parts_1)
def i_raw_parts : FnIR := ⟨1, 2, (.cons s_raw_parts_2 .nil)⟩
def s_raw_is_rule_1 : IS := (.parO [2, 3] [true, false] (.cons (.lst (.cons (.tup (.cons (.var 1) (.cons (.int 1) .nil))) .nil)) (.cons (.int 0) .nil)))
def s_raw_is_rule_2 : IS := (.popT2 2 (.bin .Add (.bor 3) (.int 1)) (.tup [(.tup [(.name 4), (.name 5)]), (.name 3)]))
def s_raw_is_rule_3 : IS := (.ret (.bl false))
def s_raw_is_rule_4 : IS := (.ife (.or (.cmp .Gt (.bor 5) (.glob "MOST_DEEP")) (.or (.cmp .Gt (.bor 3) (.glob "MOST_RULES")) (.not (.call "is_node" (.val (.var 0) (.val (.var 4) .nil)))))) (.cons s_raw_is_rule_3 .nil) .nil)
def e_raw_is_rule_5 : IE := (.comp (.tup (.cons (.var 6) (.cons (.bin .Add (.bor 5) (.int 1)) .nil))) (.name 6) (.seq (.call "raw_parts" (.val (.var 4) .nil))) .none [6])
def s_raw_is_rule_6 : IS := (.extend 2 e_raw_is_rule_5)
def b_raw_is_rule_7 : ISs := (.cons s_raw_is_rule_2 (.cons s_raw_is_rule_4 (.cons s_raw_is_rule_6 .nil)))
def s_raw_is_rule_8 : IS := (.whl (.cmp .Gt (.bif .len (.cons (.bor 2) .nil)) (.int 0)) b_raw_is_rule_7)
def s_raw_is_rule_9 : IS := (.ret (.bl true))
def i_raw_is_rule : FnIR := ⟨2, 7, (.cons s_raw_is_rule_1 (.cons s_raw_is_rule_8 (.cons s_raw_is_rule_9 .nil)))⟩
def s_check_rule_1 : IS := (.expr (.call "check_calendar" (.val (.var 0) .nil)))
def s_check_rule_2 : IS := (.raise "NoRule" .none)
def s_check_rule_3 : IS := (.ife (.not (.call "raw_is_rule" (.val (.var 0) (.val (.var 1) .nil)))) (.cons s_check_rule_2 .nil) .nil)
def i_check_rule : FnIR := ⟨2, 2, (.cons s_check_rule_1 (.cons s_check_rule_3 .nil))⟩
def s_raw_nodes_1 : IS := (.parO [1, 2] [true, true] (.cons (.lst .nil) (.cons (.lst (.cons (.tup (.cons (.tup .nil) (.cons (.var 0) .nil))) .nil)) .nil)))
def s_raw_nodes_2 : IS := (.popT 2 (.tup [(.name 3), (.name 4)]))
def s_raw_nodes_3 : IS := (.append 1 (.tup (.cons (.var 3) (.cons (.var 4) .nil))))
def e_raw_nodes_4 : IE := (.comp (.tup (.cons (.bin .Add (.bor 3) (.tup (.cons (.var 5) .nil))) (.cons (.var 6) .nil))) (.tup [(.name 5), (.name 6)]) (.enum (.call "raw_parts" (.val (.var 4) .nil))) .none [5, 6])
def s_raw_nodes_5 : IS := (.extend 2 e_raw_nodes_4)
def b_raw_nodes_6 : ISs := (.cons s_raw_nodes_2 (.cons s_raw_nodes_3 (.cons s_raw_nodes_5 .nil)))
def s_raw_nodes_7 : IS := (.whl (.cmp .Gt (.bif .len (.cons (.bor 2) .nil)) (.int 0)) b_raw_nodes_6)
def s_raw_nodes_8 : IS := (.frz [1])
def s_raw_nodes_9 : IS := (.ret (.var 1))
def i_raw_nodes : FnIR := ⟨1, 7, (.cons s_raw_nodes_1 (.cons s_raw_nodes_7 (.cons s_raw_nodes_8 (.cons s_raw_nodes_9 .nil))))⟩
def s_calendar_form_1 : IS := (.expr (.call "check_width" (.val (.int 0) (.val (.var 1) .nil))))
def e_calendar_form_2 : IE := (.comp (.callv 2 (.cons (.var 3) .nil)) (.name 3) (.range1 (.var 1)) .none [3])
def s_calendar_form_3 : IS := (.ret (.call "form_by" (.val (.int 0) (.val e_calendar_form_2 .nil))))
def i_calendar_form : FnIR := ⟨3, 4, (.cons s_calendar_form_1 (.cons s_calendar_form_3 .nil))⟩
def s_is_dated_1 : IS := (.ret (.or (.cmp .In (.idx (.call "raw_date" (.val (.var 0) (.val (.var 2) .nil))) (.int 2)) (.bor 1)) (.cmp .In (.bin .Sub (.int 0) (.call "raw_ahead" (.val (.var 0) (.val (.var 2) .nil)))) (.bor 1))))
def i_is_dated : FnIR := ⟨3, 3, (.cons s_is_dated_1 .nil)⟩
def s_raw_leaf_1 : IS := (.set (.name 2) (.idx (.bor 1) (.int 0)))
def s_raw_leaf_2 : IS := (.ret (.ite (.cmp .Eq (.bor 2) (.glob "ALL")) (.glob "ALL_DAYS") (.glob "NO_DAYS")))
def s_raw_leaf_3 : IS := (.ife (.cmp .In (.bor 2) (.tup (.cons (.glob "ALL") (.cons (.glob "NONE") .nil)))) (.cons s_raw_leaf_2 .nil) .nil)
def s_raw_leaf_4 : IS := (.set (.name 3) (.bin .Add (.bif .max1 (.cons (.bin .Add (.tup (.cons (.neg (.int 1)) .nil)) (.idx (.bor 1) (.int 1))) .nil)) (.int 1)))
def e_raw_leaf_5 : IE := (.comp (.cmp .In (.bor 6) (.idx (.bor 1) (.int 1))) (.name 6) (.range1 (.var 3)) .none [6])
def s_raw_leaf_6 : IS := (.ret (.call "form_by" (.val (.var 3) (.val (.bin .Add e_raw_leaf_5 (.lst (.cons (.bl false) .nil))) .nil))))
def s_raw_leaf_7 : IS := (.ife (.cmp .Eq (.bor 2) (.glob "ON")) (.cons s_raw_leaf_4 (.cons s_raw_leaf_6 .nil)) .nil)
def s_raw_leaf_8 : IS := (.ret (.call "form_by" (.val (.idx (.bor 1) (.int 1)) (.val (.bin .Add (.bin .Mult (.lst (.cons (.bl false) .nil)) (.idx (.bor 1) (.int 1))) (.lst (.cons (.bl true) .nil))) .nil))))
def s_raw_leaf_9 : IS := (.ife (.cmp .Eq (.bor 2) (.glob "FROM")) (.cons s_raw_leaf_8 .nil) .nil)
def e_raw_leaf_10 : IE := (.comp (.cmp .In (.bor 7) (.idx (.bor 1) (.int 1))) (.name 7) (.range1 (.idx (.bor 0) (.int 0))) .none [7])
def s_raw_leaf_11 : IS := (.ret (.call "form_by" (.val (.int 0) (.val e_raw_leaf_10 .nil))))
def s_raw_leaf_12 : IS := (.ife (.cmp .Eq (.bor 2) (.glob "WEEKDAY")) (.cons s_raw_leaf_11 .nil) .nil)
def s_raw_leaf_13 : IS := (.ret (.call "calendar_form" (.val (.var 0) (.val (.call "raw_cycle_days" (.val (.var 0) .nil)) (.lam 1 3 (.cmp .In (.idx (.call "raw_date" (.val (.var 1) (.val (.var 0) .nil))) (.int 1)) (.idx (.bor 2) (.int 1))) [0, 1] .nil)))))
def s_raw_leaf_14 : IS := (.ife (.cmp .Eq (.bor 2) (.glob "MONTH")) (.cons s_raw_leaf_13 .nil) .nil)
def s_raw_leaf_15 : IS := (.ret (.call "calendar_form" (.val (.var 0) (.val (.call "raw_cycle_days" (.val (.var 0) .nil)) (.lam 1 3 (.call "is_dated" (.val (.var 1) (.val (.idx (.bor 2) (.int 1)) (.val (.var 0) .nil)))) [0, 1] .nil)))))
def s_raw_leaf_16 : IS := (.ife (.cmp .Eq (.bor 2) (.glob "DATE")) (.cons s_raw_leaf_15 .nil) .nil)
def s_raw_leaf_17 : IS := (.ret (.call "form_by" (.val (.idx (.bor 1) (.int 2)) (.val (.bin .Add (.bin .Add (.bin .Mult (.lst (.cons (.bl false) .nil)) (.idx (.bor 1) (.int 2))) (.lst (.cons (.bl true) .nil))) (.bin .Mult (.lst (.cons (.bl false) .nil)) (.bin .Sub (.idx (.bor 1) (.int 1)) (.int 1)))) .nil))))
def s_raw_leaf_18 : IS := (.ife (.cmp .Eq (.bor 2) (.glob "EVERY")) (.cons s_raw_leaf_17 .nil) .nil)
def s_raw_leaf_19 : IS := (.set (.name 4) (.call "common_span" (.val (.idx (.idx (.bor 0) (.int 2)) (.int 0)) (.val (.idx (.bor 1) (.int 1)) .nil))))
def s_raw_leaf_20 : IS := (.set (.name 5) (.bin .Mult (.bin .FloorDiv (.bor 4) (.idx (.idx (.bor 0) (.int 2)) (.int 0))) (.call "raw_cycle_days" (.val (.var 0) .nil))))
def s_raw_leaf_21 : IS := (.ret (.call "calendar_form" (.val (.var 0) (.val (.var 5) (.lam 1 3 (.cmp .Eq (.bin .Mod (.idx (.call "raw_date" (.val (.var 1) (.val (.var 0) .nil))) (.int 0)) (.idx (.bor 2) (.int 1))) (.idx (.bor 2) (.int 2))) [0, 1] .nil)))))
def i_raw_leaf : FnIR := ⟨2, 8, (.cons s_raw_leaf_1 (.cons s_raw_leaf_3 (.cons s_raw_leaf_7 (.cons s_raw_leaf_9 (.cons s_raw_leaf_12 (.cons s_raw_leaf_14 (.cons s_raw_leaf_16 (.cons s_raw_leaf_18 (.cons s_raw_leaf_19 (.cons s_raw_leaf_20 (.cons s_raw_leaf_21 .nil)))))))))))⟩
def s_nearest_behind_1 : IS := (.parO [2, 3] [true, false] (.cons (.bin .Mult (.lst (.cons .non .nil)) (.bif .len (.cons (.bor 0) .nil))) (.cons .non .nil)))
def s_nearest_behind_2 : IS := .bad
def i_nearest_behind : FnIR := ⟨2, 5, (.cons s_nearest_behind_1 (.cons s_nearest_behind_2 .nil))⟩
def s_nearest_ahead_1 : IS := (.parO [1, 2] [true, false] (.cons (.lst .nil) (.cons .non .nil)))
def s_nearest_ahead_2 : IS := (.set (.name 2) (.ite (.var 4) (.var 3) (.var 2)))
def s_nearest_ahead_3 : IS := (.append 1 (.var 2))
def b_nearest_ahead_4 : ISs := (.cons s_nearest_ahead_2 (.cons s_nearest_ahead_3 .nil))
def s_nearest_ahead_5 : IS := (.for (.tup [(.name 3), (.name 4)]) (.enum (.var 0)) b_nearest_ahead_4)
def s_nearest_ahead_6 : IS := (.frz [1])
def s_nearest_ahead_7 : IS := (.ret (.var 1))
def i_nearest_ahead : FnIR := ⟨1, 5, (.cons s_nearest_ahead_1 (.cons s_nearest_ahead_5 (.cons s_nearest_ahead_6 (.cons s_nearest_ahead_7 .nil))))⟩
def s_raw_rolled_1 : IS := (.set (.tup [(.name 3), (.name 4), (.name 5), (.name 6)]) (.call "two_flags" (.val (.var 0) (.val (.var 1) (.val (.int 0) .nil)))))
def s_raw_rolled_2 : IS := (.set (.name 7) (.bin .Add (.bor 3) (.bin .Mult (.int 3) (.bor 4))))
def s_raw_rolled_3 : IS := (.par [5, 6] (.cons (.call "raw_flags" (.val (.var 0) (.val (.var 7) .nil))) (.cons (.call "raw_flags" (.val (.var 1) (.val (.bin .Add (.bor 7) (.bor 4)) .nil))) .nil)))
def s_raw_rolled_4 : IS := (.set (.name 8) (.ite (.var 2) (.call "nearest_behind" (.val (.var 6) (.val (.var 7) .nil))) (.slc (.call "nearest_ahead" (.val (.var 6) .nil)) .none (.some (.var 7)))))
def s_raw_rolled_5 : IS := (.setOwn 9 (.bin .Mult (.lst (.cons (.bl false) .nil)) (.bin .Add (.bor 7) (.bor 4))))
def s_raw_rolled_6 : IS := (.setIdx (.bor 9) (.idx (.bor 8) (.var 10)) (.bl true))
def s_raw_rolled_7 : IS := (.ife (.and (.var 11) (.cmp .IsNot (.idx (.bor 8) (.var 10)) .non)) (.cons s_raw_rolled_6 .nil) .nil)
def b_raw_rolled_8 : ISs := (.cons s_raw_rolled_7 .nil)
def s_raw_rolled_9 : IS := (.for (.tup [(.name 10), (.name 11)]) (.enum (.var 5)) b_raw_rolled_8)
def s_raw_rolled_10 : IS := (.ret (.call "form_by" (.val (.bin .Add (.bor 3) (.bor 4)) (.val (.slc (.bor 9) .none (.some (.bin .Add (.bor 3) (.bin .Mult (.int 2) (.bor 4))))) .nil))))
def i_raw_rolled : FnIR := ⟨3, 12, (.cons s_raw_rolled_1 (.cons s_raw_rolled_2 (.cons s_raw_rolled_3 (.cons s_raw_rolled_4 (.cons s_raw_rolled_5 (.cons s_raw_rolled_9 (.cons s_raw_rolled_10 .nil)))))))⟩
def e_spans_by_1 : IE := (.comp (.var 2) (.tup [(.name 2), (.name 3)]) (.enum (.bor 0)) (.some (.var 3)) [2, 3])
def s_spans_by_2 : IS := (.set (.name 1) e_spans_by_1)
def s_spans_by_3 : IS := .bad
def i_spans_by : FnIR := ⟨1, 4, (.cons s_spans_by_2 (.cons s_spans_by_3 .nil))⟩
def s_raw_nth_1 : IS := (.set (.tup [(.name 3), (.name 4), (.name 5), (.name 6)]) (.call "two_flags" (.val (.var 1) (.val (.var 2) (.val (.int 0) .nil)))))
def s_raw_nth_2 : IS := (.set (.name 7) (.bin .Add (.bor 3) (.bin .Mult (.int 4) (.bor 4))))
def s_raw_nth_3 : IS := (.set (.tup [(.name 5), (.name 6)]) (.tup (.cons (.call "raw_flags" (.val (.var 1) (.val (.var 7) .nil))) (.cons (.call "raw_flags" (.val (.var 2) (.val (.var 7) .nil))) .nil))))
def s_raw_nth_4 : IS := (.set (.tup [(.name 8), (.name 9)]) (.call "spans_by" (.val (.var 6) .nil)))
def s_raw_nth_5 : IS := (.setOwn 10 (.bin .Mult (.lst (.cons (.bl false) .nil)) (.bor 7)))
def e_raw_nth_6 : IE := (.comp (.var 15) (.name 15) (.range2 (.var 11) (.var 12)) (.some (.idx (.bor 5) (.var 15))) [15])
def s_raw_nth_7 : IS := (.set (.name 13) e_raw_nth_6)
def s_raw_nth_8 : IS := (.setIdx (.bor 10) (.idx (.bor 13) (.ite (.cmp .Gt (.bor 0) (.int 0)) (.bin .Sub (.bor 0) (.int 1)) (.var 0))) (.bl true))
def s_raw_nth_9 : IS := (.ife (.or (.chain .Lt .LtE (.int 0) (.var 0) (.bif .len (.cons (.bor 13) .nil))) (.and (.cmp .Lt (.bor 0) (.int 0)) (.cmp .LtE (.bin .Sub (.int 0) (.bor 0)) (.bif .len (.cons (.bor 13) .nil))))) (.cons s_raw_nth_8 .nil) .nil)
def b_raw_nth_10 : ISs := (.cons s_raw_nth_7 (.cons s_raw_nth_9 .nil))
def s_raw_nth_11 : IS := (.for (.tup [(.name 11), (.name 12)]) (.seq (.var 8)) b_raw_nth_10)
def e_raw_nth_12 : IE := (.comp (.var 15) (.name 15) (.range2 (.var 9) (.var 7)) (.some (.idx (.bor 5) (.var 15))) [15])
def s_raw_nth_13 : IS := (.set (.name 13) e_raw_nth_12)
def s_raw_nth_14 : IS := (.set (.name 14) (.cmp .Gt (.bif .len (.cons (.call "round_days_in" (.val (.var 1) .nil)) .nil)) (.int 0)))
def s_raw_nth_15 : IS := (.frz [10])
def s_raw_nth_16 : IS := (.ret (.call "endless_nth" (.val (.var 0) (.val (.var 1) (.val (.var 10) (.val (.var 13) (.val (.var 9) (.val (.var 14) .nil))))))))
def s_raw_nth_17 : IS := (.ife (.and (.cmp .IsNot (.bor 9) .non) (.and (.cmp .Eq (.bif .len (.cons (.call "round_days_in" (.val (.var 2) .nil)) .nil)) (.int 0)) (.cmp .Gt (.bor 0) (.int 0)))) (.cons s_raw_nth_13 (.cons s_raw_nth_14 (.cons s_raw_nth_15 (.cons s_raw_nth_16 .nil)))) .nil)
def s_raw_nth_18 : IS := (.ret (.call "form_by" (.val (.bin .Add (.bor 3) (.bor 4)) (.val (.slc (.bor 10) .none (.some (.bin .Add (.bor 3) (.bin .Mult (.int 2) (.bor 4))))) .nil))))
def i_raw_nth : FnIR := ⟨3, 16, (.cons s_raw_nth_1 (.cons s_raw_nth_2 (.cons s_raw_nth_3 (.cons s_raw_nth_4 (.cons s_raw_nth_5 (.cons s_raw_nth_11 (.cons s_raw_nth_17 (.cons s_raw_nth_18 .nil))))))))⟩
def s_endless_nth_1 : IS := (.setIdx (.bor 2) (.idx (.bor 3) (.bin .Sub (.bor 0) (.int 1))) (.bl true))
def s_endless_nth_2 : IS := (.set (.name 2) (.bin .Add (.bin .Add (.bor 2) (.bin .Mult (.lst (.cons (.bl false) .nil)) (.bin .Sub (.call "raw_nth_day" (.val (.var 1) (.val (.var 0) (.val (.var 4) .nil)))) (.bif .len (.cons (.bor 2) .nil))))) (.lst (.cons (.bl true) .nil))))
def s_endless_nth_3 : IS := (.ife (.var 5) (.cons s_endless_nth_2 .nil) .nil)
def s_endless_nth_4 : IS := (.ife (.cmp .LtE (.bor 0) (.bif .len (.cons (.bor 3) .nil))) (.cons s_endless_nth_1 .nil) (.cons s_endless_nth_3 .nil))
def e_endless_nth_5 : IE := (.comp (.var 7) (.tup [(.name 7), (.name 8)]) (.enum (.bor 2)) (.some (.var 8)) [7, 8])
def s_endless_nth_6 : IS := (.set (.name 6) (.bin .Add (.int 1) (.bif .max1 (.cons (.bin .Add (.lst (.cons (.neg (.int 1)) .nil)) e_endless_nth_5) .nil))))
def s_endless_nth_7 : IS := (.ret (.call "form_by" (.val (.var 6) (.val (.bin .Add (.slc (.bor 2) .none (.some (.var 6))) (.lst (.cons (.bl false) .nil))) .nil))))
def i_endless_nth : FnIR := ⟨6, 9, (.cons s_endless_nth_4 (.cons s_endless_nth_6 (.cons s_endless_nth_7 .nil)))⟩
def s_raw_nth_day_1 : IS := (.par [3, 4] (.cons (.var 2) (.cons (.var 1) .nil)))
def s_raw_nth_day_2 : IS := (.aug 4 .Sub (.bif .int (.cons (.call "raw_has" (.val (.var 0) (.val (.var 3) .nil))) .nil)))
def s_raw_nth_day_3 : IS := (.expr (.call "check_width" (.val (.var 3) (.val (.int 1) .nil))))
def s_raw_nth_day_4 : IS := (.aug 3 .Add (.int 1))
def b_raw_nth_day_5 : ISs := (.cons s_raw_nth_day_2 (.cons s_raw_nth_day_3 (.cons s_raw_nth_day_4 .nil)))
def s_raw_nth_day_6 : IS := (.whl (.cmp .Gt (.bor 4) (.int 0)) b_raw_nth_day_5)
def s_raw_nth_day_7 : IS := (.ret (.bin .Sub (.bor 3) (.int 1)))
def i_raw_nth_day : FnIR := ⟨3, 5, (.cons s_raw_nth_day_1 (.cons s_raw_nth_day_6 (.cons s_raw_nth_day_7 .nil)))⟩
def s_raw_counted_1 : IS := (.par [2, 3, 4] (.cons (.var 0) (.cons (.lst .nil) (.cons (.int 0) .nil))))
def s_raw_counted_2 : IS := .bad
def i_raw_counted : FnIR := ⟨2, 8, (.cons s_raw_counted_1 (.cons s_raw_counted_2 .nil))⟩
def s_raw_past_1 : IS := (.ret (.call "raw_without" (.val (.var 1) (.val (.call "raw_counted" (.val (.var 0) (.val (.var 1) .nil))) .nil))))
def i_raw_past : FnIR := ⟨2, 2, (.cons s_raw_past_1 .nil)⟩
def s_raw_each_1 : IS := (.set (.name 2) (.bif .len (.cons (.call "round_days_in" (.val (.var 1) .nil)) .nil)))
def s_raw_each_2 : IS := (.set (.name 3) (.ite (.cmp .Gt (.bor 2) (.int 0)) (.bin .FloorDiv (.bor 0) (.call "common_step" (.val (.var 0) (.val (.var 2) .nil)))) (.int 1)))
def s_raw_each_3 : IS := (.expr (.call "check_width" (.val (.idx (.bor 1) (.int 0)) (.val (.bin .Mult (.idx (.bor 1) (.int 1)) (.bor 3)) .nil))))
def s_raw_each_4 : IS := (.parO [4, 5] [true, false] (.cons (.lst .nil) (.cons (.int 0) .nil)))
def s_raw_each_5 : IS := (.append 4 (.and (.var 6) (.cmp .Eq (.bin .Mod (.bor 5) (.bor 0)) (.int 0))))
def s_raw_each_6 : IS := (.aug 5 .Add (.bif .int (.cons (.bor 6) .nil)))
def b_raw_each_7 : ISs := (.cons s_raw_each_5 (.cons s_raw_each_6 .nil))
def s_raw_each_8 : IS := (.for (.name 6) (.seq (.call "raw_flags" (.val (.var 1) (.val (.bin .Add (.idx (.bor 1) (.int 0)) (.bin .Mult (.idx (.bor 1) (.int 1)) (.bor 3))) .nil)))) b_raw_each_7)
def s_raw_each_9 : IS := (.frz [4])
def s_raw_each_10 : IS := (.ret (.call "form_by" (.val (.idx (.bor 1) (.int 0)) (.val (.var 4) .nil))))
def i_raw_each : FnIR := ⟨2, 7, (.cons s_raw_each_1 (.cons s_raw_each_2 (.cons s_raw_each_3 (.cons s_raw_each_4 (.cons s_raw_each_8 (.cons s_raw_each_9 (.cons s_raw_each_10 .nil)))))))⟩
def s_common_step_1 : IS := (.par [0, 1] (.cons (.var 1) (.cons (.bin .Mod (.bor 0) (.bor 1)) .nil)))
def b_common_step_2 : ISs := (.cons s_common_step_1 .nil)
def s_common_step_3 : IS := (.whl (.cmp .Gt (.bor 1) (.int 0)) b_common_step_2)
def s_common_step_4 : IS := (.ret (.var 0))
def i_common_step : FnIR := ⟨2, 2, (.cons s_common_step_3 (.cons s_common_step_4 .nil))⟩
def s_raw_made_1 : IS := (.set (.name 2) (.idx (.bor 0) (.int 0)))
def s_raw_made_2 : IS := (.ret (.call "raw_turned" (.val (.idx (.bor 1) (.int 0)) .nil)))
def s_raw_made_3 : IS := (.ife (.cmp .Eq (.bor 2) (.glob "NOT")) (.cons s_raw_made_2 .nil) .nil)
def s_raw_made_4 : IS := (.ret (.call "raw_either" (.val (.idx (.bor 1) (.int 0)) (.val (.idx (.bor 1) (.int 1)) .nil))))
def s_raw_made_5 : IS := (.ife (.cmp .Eq (.bor 2) (.glob "OR")) (.cons s_raw_made_4 .nil) .nil)
def s_raw_made_6 : IS := (.ret (.call "raw_both" (.val (.idx (.bor 1) (.int 0)) (.val (.idx (.bor 1) (.int 1)) .nil))))
def s_raw_made_7 : IS := (.ife (.cmp .Eq (.bor 2) (.glob "AND")) (.cons s_raw_made_6 .nil) .nil)
def s_raw_made_8 : IS := (.ret (.call "raw_without" (.val (.idx (.bor 1) (.int 0)) (.val (.idx (.bor 1) (.int 1)) .nil))))
def s_raw_made_9 : IS := (.ife (.cmp .Eq (.bor 2) (.glob "LESS")) (.cons s_raw_made_8 .nil) .nil)
def s_raw_made_10 : IS := (.ret (.call "raw_shifted" (.val (.idx (.bor 1) (.int 0)) (.val (.idx (.bor 0) (.int 2)) .nil))))
def s_raw_made_11 : IS := (.ife (.cmp .Eq (.bor 2) (.glob "MOVED")) (.cons s_raw_made_10 .nil) .nil)
def s_raw_made_12 : IS := (.ret (.call "raw_rolled" (.val (.idx (.bor 1) (.int 0)) (.val (.idx (.bor 1) (.int 1)) (.val (.idx (.bor 0) (.int 3)) .nil)))))
def s_raw_made_13 : IS := (.ife (.cmp .Eq (.bor 2) (.glob "ROLLED")) (.cons s_raw_made_12 .nil) .nil)
def s_raw_made_14 : IS := (.ret (.call "raw_nth" (.val (.idx (.bor 0) (.int 1)) (.val (.idx (.bor 1) (.int 0)) (.val (.idx (.bor 1) (.int 1)) .nil)))))
def s_raw_made_15 : IS := (.ife (.cmp .Eq (.bor 2) (.glob "NTH")) (.cons s_raw_made_14 .nil) .nil)
def s_raw_made_16 : IS := (.ret (.ite (.cmp .Eq (.bor 2) (.glob "COUNT")) (.call "raw_counted" (.val (.idx (.bor 0) (.int 1)) (.val (.idx (.bor 1) (.int 0)) .nil))) (.call "raw_past" (.val (.idx (.bor 0) (.int 1)) (.val (.idx (.bor 1) (.int 0)) .nil)))))
def s_raw_made_17 : IS := (.ife (.cmp .In (.bor 2) (.tup (.cons (.glob "COUNT") (.cons (.glob "PAST") .nil)))) (.cons s_raw_made_16 .nil) .nil)
def s_raw_made_18 : IS := (.ret (.call "raw_each" (.val (.idx (.bor 0) (.int 1)) (.val (.idx (.bor 1) (.int 0)) .nil))))
def i_raw_made : FnIR := ⟨2, 3, (.cons s_raw_made_1 (.cons s_raw_made_3 (.cons s_raw_made_5 (.cons s_raw_made_7 (.cons s_raw_made_9 (.cons s_raw_made_11 (.cons s_raw_made_13 (.cons s_raw_made_15 (.cons s_raw_made_17 (.cons s_raw_made_18 .nil))))))))))⟩
def s_raw_form_1 : IS := (.newDic 2 true)
def s_raw_form_2 : IS := (.setIdx (.bor 2) (.var 3) (.call "raw_leaf" (.val (.var 0) (.val (.var 4) .nil))))
def e_raw_form_3 : IE := (.comp (.idx (.bor 2) (.bin .Add (.bor 3) (.tup (.cons (.var 5) .nil)))) (.name 5) (.range1 (.bif .len (.cons (.call "raw_parts" (.val (.var 4) .nil)) .nil))) .none [5])
def s_raw_form_4 : IS := (.setIdx (.bor 2) (.var 3) (.call "raw_made" (.val (.var 4) (.val e_raw_form_3 .nil))))
def s_raw_form_5 : IS := (.ife (.cmp .In (.idx (.bor 4) (.int 0)) (.glob "LEAVES")) (.cons s_raw_form_2 .nil) (.cons s_raw_form_4 .nil))
def b_raw_form_6 : ISs := (.cons s_raw_form_5 .nil)
def s_raw_form_7 : IS := (.for (.tup [(.name 3), (.name 4)]) (.seq (.rev (.call "raw_nodes" (.val (.var 1) .nil)))) b_raw_form_6)
def s_raw_form_8 : IS := (.ret (.idx (.bor 2) (.tup .nil)))
def i_raw_form : FnIR := ⟨2, 6, (.cons s_raw_form_1 (.cons s_raw_form_7 (.cons s_raw_form_8 .nil)))⟩
def s_form_of_1 : IS := (.expr (.call "check_rule" (.val (.var 0) (.val (.var 1) .nil))))
def s_form_of_2 : IS := (.ret (.call "raw_form" (.val (.var 0) (.val (.var 1) .nil))))
def i_form_of : FnIR := ⟨2, 2, (.cons s_form_of_1 (.cons s_form_of_2 .nil))⟩
abbrev cf (T : Tab) (L k : Nat) : FnT := callF T L k
abbrev cc (T : Tab) (L k : Nat) : CloT := callC T L k
theorem trunc_ok {d : D} {o : Objs} : (Res.ok d o).trunc o.length = .ok d o := by
  show (if Ev.nO d && (o.take o.length).all SObj.nO then Res.ok d (o.take o.length) else Res.ok d o) = _
  rw [List.take_length]
  split <;> rfl
theorem trunc_err {c : Str} {xs : List D} {o : Objs} : (Res.err c xs o : Res D).trunc o.length = .err c xs o := by
  show (if Ev.nOs xs && (o.take o.length).all SObj.nO then Res.err c xs (o.take o.length) else Res.err c xs o) = _
  rw [List.take_length]
  split <;> rfl
theorem cf_ok {T : Tab} {L k : Nat} {f : Str} {ir : FnIR} {sl : List Slot} {o : Objs} {r : Res D} (h : T.fn f = some ir) (hl : sl.length = ir.np) (e : (exSs (cf T L k) (cc T L k) T.con T.isa L ir.body (frame sl ir.nl) o).out = r) (t : r.trunc o.length = r) : cf T L (k + 1) f sl o = r := by
  show (match T.fn f with | some ir => if sl.length = ir.np then _ else _ | none => _) = _
  rw [h]
  show (if sl.length = ir.np then _ else _) = _
  rw [if_pos hl, e, t]
theorem cc_succ {T : Tab} {L k np nl : Nat} {b : IE} {cap ds : List D} {o : Objs} (hl : ds.length = np) : cc T L (k + 1) np nl b cap ds o = evE (cf T L k) (cc T L k) T.con T.isa b (frame (ds.map .val ++ cap.map .val) nl) o := if_pos hl
/-- what is there of the basics, the calendars -/
structure LCal (T : Tab) : Prop where
  is_integer : T.fn "is_integer" = some i_is_integer
  is_within : T.fn "is_within" = some i_is_within
  is_sized : T.fn "is_sized" = some i_is_sized
  are_rising : T.fn "are_rising" = some i_are_rising
  is_lot : T.fn "is_lot" = some i_is_lot
  is_leap_rule : T.fn "is_leap_rule" = some i_is_leap_rule
  is_calendar : T.fn "is_calendar" = some i_is_calendar
  check_calendar : T.fn "check_calendar" = some i_check_calendar
  is_number : T.fn "is_number" = some i_is_number
  c_w : globD T.con "MOST_WEEK" = some (.int 10)
  c_ms : globD T.con "MOST_MONTHS" = some (.int 12)
  c_m : globD T.con "MOST_MONTH" = some (.int 31)
  c_c : globD T.con "MOST_CYCLE" = some (.int 28)
  c_mo : globD T.con "MOST_MORE" = some (.int 3)
structure LRaw (T : Tab) : Prop extends LCal T where
  raw_is_leap : T.fn "raw_is_leap" = some i_raw_is_leap
  raw_year_days : T.fn "raw_year_days" = some i_raw_year_days
  raw_month_days : T.fn "raw_month_days" = some i_raw_month_days
  raw_cycle_days : T.fn "raw_cycle_days" = some i_raw_cycle_days
def c_LEAVES : D := (.tup [(.str "all"), (.str "none"), (.str "on"), (.str "from"), (.str "weekday"), (.str "month"), (.str "date"), (.str "year"), (.str "every")])
def c_SPOTS : D := (.dct [(.str "not"), (.str "or"), (.str "and"), (.str "less"), (.str "moved"), (.str "rolled"), (.str "nth"), (.str "count"), (.str "past"), (.str "each")] [(.kt [(.int 1)]), (.kt [(.int 1), (.int 2)]), (.kt [(.int 1), (.int 2)]), (.kt [(.int 1), (.int 2)]), (.kt [(.int 1)]), (.kt [(.int 1), (.int 2)]), (.kt [(.int 2), (.int 3)]), (.kt [(.int 2)]), (.kt [(.int 2)]), (.kt [(.int 2)])])
def c_SIZES : D := (.dct [(.str "all"), (.str "none"), (.str "on"), (.str "from"), (.str "weekday"), (.str "month"), (.str "date"), (.str "year"), (.str "every"), (.str "not"), (.str "or"), (.str "and"), (.str "less"), (.str "moved"), (.str "rolled"), (.str "nth"), (.str "count"), (.str "past"), (.str "each")] [(.int 1), (.int 1), (.int 2), (.int 2), (.int 2), (.int 2), (.int 2), (.int 3), (.int 3), (.int 2), (.int 3), (.int 3), (.int 3), (.int 3), (.int 4), (.int 4), (.int 3), (.int 3), (.int 3)])
end Lib

/-! LaH: the code of the hand that draws. -/
namespace Lib
open PySem Ev
def e__law_hand_1 : IE := (.comp (.bin .Mod (.bif .int (.cons (.bif .abs (.cons (.bif .int (.cons (.bor 2) .nil)) .nil)) .nil)) (.bin .Pow (.int 10) (.int 36))) (.name 2) (.seq (.slc (.bor 0) .none (.some (.int 60)))) .none [2])
def s__law_hand_2 : IS := (.set (.name 1) e__law_hand_1)
def s__law_hand_3 : IS := (.retObj (.cons (.var 1) (.cons (.int 0) (.cons (.int 0) (.cons (.bin .Add (.int 29) (.bin .Mult (.int 3) (.bif .len (.cons (.bor 1) .nil)))) (.cons (.int 0) .nil))))))
def i__law_hand : FnIR := ⟨1, 3, (.cons s__law_hand_2 (.cons s__law_hand_3 .nil))⟩
def s__law_draw_1 : IS := (.set (.name 2) (.idx (.idx (.bor 0) (.int 0)) (.idx (.bor 0) (.int 1))))
def s__law_draw_2 : IS := (.setIdx (.bor 0) (.int 1) (.bin .Add (.idx (.bor 0) (.int 1)) (.int 1)))
def s__law_draw_3 : IS := (.setIdx (.bor 0) (.int 3) (.bin .Mod (.bif .int (.cons (.bin .Add (.bin .Add (.bif .int (.cons (.bin .Mult (.idx (.bor 0) (.int 3)) (.int 48271)) .nil)) (.bor 2)) (.int 17)) .nil)) (.int 2147483647)))
def s__law_draw_4 : IS := (.setIdx (.bor 0) (.int 2) (.ite (.cmp .GtE (.bor 2) (.bin .Pow (.int 10) (.int 18))) (.var 2) (.int 0)))
def s__law_draw_5 : IS := (.ife (.and (.cmp .Eq (.idx (.bor 0) (.int 2)) (.int 0)) (.cmp .Lt (.idx (.bor 0) (.int 1)) (.bif .len (.cons (.idx (.bor 0) (.int 0)) .nil)))) (.cons s__law_draw_1 (.cons s__law_draw_2 (.cons s__law_draw_3 (.cons s__law_draw_4 .nil)))) .nil)
def s__law_draw_6 : IS := (.set (.name 3) (.bin .Mod (.bif .int (.cons (.idx (.bor 0) (.int 2)) .nil)) (.bor 1)))
def s__law_draw_7 : IS := (.setIdx (.bor 0) (.int 2) (.bin .FloorDiv (.idx (.bor 0) (.int 2)) (.bif .max2 (.cons (.int 2) (.cons (.bor 1) .nil)))))
def s__law_draw_8 : IS := (.ret (.var 3))
def s__law_draw_9 : IS := (.ife (.cmp .Gt (.idx (.bor 0) (.int 2)) (.int 0)) (.cons s__law_draw_6 (.cons s__law_draw_7 (.cons s__law_draw_8 .nil))) .nil)
def s__law_draw_10 : IS := (.setIdx (.bor 0) (.int 4) (.bin .Add (.idx (.bor 0) (.int 4)) (.int 1)))
def s__law_draw_11 : IS := (.set (.name 4) (.bin .Mod (.bif .int (.cons (.bin .Mult (.bif .int (.cons (.bin .Add (.idx (.bor 0) (.int 3)) (.bin .Mult (.int 7919) (.idx (.bor 0) (.int 4)))) .nil)) (.int 48271)) .nil)) (.int 2147483647)))
def s__law_draw_12 : IS := (.set (.name 4) (.bin .Mod (.bif .int (.cons (.bin .Mult (.bor 4) (.bin .Add (.bin .FloorDiv (.bor 4) (.int 1009)) (.int 69621))) .nil)) (.int 2147483647)))
def s__law_draw_13 : IS := (.set (.name 4) (.bin .Mod (.bif .int (.cons (.bin .Mult (.bor 4) (.bin .Add (.bin .FloorDiv (.bor 4) (.int 2003)) (.int 40692))) .nil)) (.int 2147483399)))
def s__law_draw_14 : IS := (.ret (.bin .Mod (.bif .int (.cons (.bin .FloorDiv (.bor 4) (.int 16)) .nil)) (.bor 1)))
def i__law_draw : FnIR := ⟨2, 5, (.cons s__law_draw_5 (.cons s__law_draw_9 (.cons s__law_draw_10 (.cons s__law_draw_11 (.cons s__law_draw_12 (.cons s__law_draw_13 (.cons s__law_draw_14 .nil)))))))⟩
def s__law_any_1 : IS := (.ret (.idx (.bor 1) (.call "_law_draw" (.val (.var 0) (.val (.bif .len (.cons (.bor 1) .nil)) .nil)))))
def i__law_any : FnIR := ⟨2, 2, (.cons s__law_any_1 .nil)⟩
def e__law_lot_1 : IE := (.comp (.var 2) (.name 2) (.range1 (.var 1)) (.some (.cmp .Eq (.call "_law_draw" (.val (.var 0) (.val (.int 2) .nil))) (.int 0))) [2])
def s__law_lot_2 : IS := (.ret (.bif .tuple (.cons e__law_lot_1 .nil)))
def i__law_lot : FnIR := ⟨2, 3, (.cons s__law_lot_2 .nil)⟩
structure LHand (T : Tab) : Prop where
  law_hand : T.fn "_law_hand" = some i__law_hand
  law_draw : T.fn "_law_draw" = some i__law_draw
  law_any : T.fn "_law_any" = some i__law_any
end Lib

/-! LaF: the code of the laws' own forms. -/
namespace Lib
open PySem Ev
def s__law_form_1 : IS := (.par [1, 2] (.cons (.call "_law_draw" (.val (.var 0) (.val (.call "_law_any" (.val (.var 0) (.val (.lst (.cons (.int 1) (.cons (.int 5) (.cons (.int 12) .nil)))) .nil))) .nil))) (.cons (.bin .Add (.int 1) (.call "_law_draw" (.val (.var 0) (.val (.call "_law_any" (.val (.var 0) (.val (.lst (.cons (.int 4) (.cons (.int 9) .nil))) .nil))) .nil)))) .nil)))
def s__law_form_2 : IS := (.set (.name 3) (.bin .Add (.int 1) (.call "_law_draw" (.val (.var 0) (.val (.int 3) .nil)))))
def e__law_form_3 : IE := (.comp (.var 4) (.name 4) (.range1 (.bin .Add (.bor 1) (.bor 2))) (.some (.cmp .Eq (.call "_law_draw" (.val (.var 0) (.val (.var 3) .nil))) (.int 0))) [4])
def s__law_form_4 : IS := (.ret (.tup (.cons (.var 1) (.cons (.var 2) (.cons (.bif .tuple (.cons e__law_form_3 .nil)) .nil)))))
def i__law_form : FnIR := ⟨1, 5, (.cons s__law_form_1 (.cons s__law_form_2 (.cons s__law_form_4 .nil)))⟩
def s__law_in_1 : IS := (.set (.tup [(.name 2), (.name 3), (.name 4)]) (.var 0))
def s__law_in_2 : IS := (.ret (.cmp .In (.ite (.cmp .Lt (.bor 1) (.bor 2)) (.var 1) (.bin .Add (.bor 2) (.bin .Mod (.bif .int (.cons (.bin .Sub (.bor 1) (.bor 2)) .nil)) (.bor 3)))) (.bor 4)))
def i__law_in : FnIR := ⟨2, 5, (.cons s__law_in_1 (.cons s__law_in_2 .nil))⟩
def e__law_flags_of_1 : IE := (.comp (.call "_law_in" (.val (.var 0) (.val (.var 2) .nil))) (.name 2) (.range1 (.var 1)) .none [2])
def s__law_flags_of_2 : IS := (.ret e__law_flags_of_1)
def i__law_flags_of : FnIR := ⟨2, 3, (.cons s__law_flags_of_2 .nil)⟩
def s__law_bent_form_1 : IS := (.set (.tup [(.name 2), (.name 3), (.name 4)]) (.var 1))
def s__law_bent_form_2 : IS := (.set (.name 5) (.lst (.cons (.tup (.cons (.var 2) (.cons (.int 0) (.cons (.tup .nil) .nil)))) (.cons (.tup (.cons (.neg (.int 1)) (.cons (.var 3) (.cons (.tup .nil) .nil)))) (.cons (.tup (.cons (.var 2) (.cons (.var 3) (.cons (.tup (.cons (.bin .Add (.bor 2) (.bor 3)) .nil)) .nil)))) (.cons (.tup (.cons (.var 2) (.cons (.var 3) (.cons (.bif .list (.cons (.bor 4) .nil)) .nil)))) (.cons .non .nil)))))))
def s__law_bent_form_3 : IS := (.set (.name 5) (.bin .Add (.bor 5) (.lst (.cons (.str "?") (.cons (.tup (.cons (.var 2) (.cons (.var 3) .nil))) (.cons (.bif .list (.cons (.bor 1) .nil)) (.cons (.tup (.cons (.var 2) (.cons (.var 3) (.cons (.tup (.cons (.int 1) (.cons (.int 1) .nil))) .nil)))) (.cons (.tup (.cons (.bl true) (.cons (.var 3) (.cons (.tup .nil) .nil)))) (.cons .dnew .nil)))))))))
def s__law_bent_form_4 : IS := (.ret (.call "_law_any" (.val (.var 0) (.val (.bin .Add (.bor 5) (.lst (.cons (.tup (.cons (.var 2) (.cons (.bin .Sub (.int 20001) (.bor 2)) (.cons (.tup .nil) .nil)))) (.cons (.tup (.cons (.var 2) (.cons (.var 3) (.cons (.tup (.cons (.bl true) .nil)) .nil)))) (.cons (.bin .Add (.bor 1) (.tup (.cons (.int 1) .nil))) (.cons (.int 7) (.cons (.tup (.cons .non (.cons (.int 1) (.cons (.tup .nil) .nil)))) .nil))))))) .nil))))
def i__law_bent_form : FnIR := ⟨2, 6, (.cons s__law_bent_form_1 (.cons s__law_bent_form_2 (.cons s__law_bent_form_3 (.cons s__law_bent_form_4 .nil))))⟩
def s__law_least_1 : IS := (.set (.name 3) (.slc (.bor 0) (.some (.var 1)) (.some (.bin .Add (.bor 1) (.bor 2)))))
def e__law_least_2 : IE := (.comp (.var 4) (.name 4) (.range2 (.int 1) (.bin .Add (.bor 2) (.int 1))) (.some (.and (.cmp .Eq (.bin .Mod (.bif .int (.cons (.bor 2) .nil)) (.bor 4)) (.int 0)) (.cmp .Eq (.bin .Mult (.slc (.bor 3) .none (.some (.var 4))) (.bin .FloorDiv (.bor 2) (.bor 4))) (.bor 3)))) [4])
def s__law_least_3 : IS := (.set (.name 5) e__law_least_2)
def s__law_least_4 : IS := (.set (.name 4) (.idx (.bor 5) (.int 0)))
def s__law_least_5 : IS := (.set (.name 1) (.bin .Sub (.bor 1) (.int 1)))
def b__law_least_6 : ISs := (.cons s__law_least_5 .nil)
def s__law_least_7 : IS := (.whl (.and (.cmp .Gt (.bor 1) (.int 0)) (.cmp .Eq (.idx (.bor 0) (.bin .Sub (.bor 1) (.int 1))) (.idx (.bor 0) (.bin .Add (.bin .Sub (.bor 1) (.int 1)) (.bor 4))))) b__law_least_6)
def e__law_least_8 : IE := (.comp (.var 6) (.name 6) (.range1 (.bin .Add (.bor 1) (.bor 4))) (.some (.idx (.bor 0) (.var 6))) [6])
def s__law_least_9 : IS := (.ret (.tup (.cons (.var 1) (.cons (.var 4) (.cons (.bif .tuple (.cons e__law_least_8 .nil)) .nil)))))
def i__law_least : FnIR := ⟨3, 7, (.cons s__law_least_1 (.cons s__law_least_3 (.cons s__law_least_4 (.cons s__law_least_7 (.cons s__law_least_9 .nil)))))⟩
structure LOwn (T : Tab) : Prop where
  law_form : T.fn "_law_form" = some i__law_form
  law_in : T.fn "_law_in" = some i__law_in
  law_flags_of : T.fn "_law_flags_of" = some i__law_flags_of
end Lib

/-! LaD: the code of dates; of the laws' own days. -/
namespace Lib
open PySem Ev
def s_raw_year_begins_1 : IS := (.set (.tup [(.name 2), (.name 3)]) (.tup (.cons (.bin .FloorDiv (.bor 1) (.idx (.idx (.bor 0) (.int 2)) (.int 0))) (.cons (.bin .Mod (.bor 1) (.idx (.idx (.bor 0) (.int 2)) (.int 0))) .nil))))
def e_raw_year_begins_2 : IE := (.comp (.var 5) (.name 5) (.seq (.idx (.idx (.bor 0) (.int 2)) (.int 1))) (.some (.cmp .Lt (.bor 5) (.bor 3))) [5])
def s_raw_year_begins_3 : IS := (.set (.name 4) (.bif .len (.cons e_raw_year_begins_2 .nil)))
def s_raw_year_begins_4 : IS := (.ret (.bin .Add (.bin .Add (.bin .Mult (.bor 2) (.call "raw_cycle_days" (.val (.var 0) .nil))) (.bin .Mult (.bor 3) (.bif .sum (.cons (.idx (.bor 0) (.int 1)) .nil)))) (.bin .Mult (.bor 4) (.idx (.idx (.bor 0) (.int 2)) (.int 3)))))
def i_raw_year_begins : FnIR := ⟨2, 6, (.cons s_raw_year_begins_1 (.cons s_raw_year_begins_3 (.cons s_raw_year_begins_4 .nil)))⟩
def e_raw_month_begins_1 : IE := (.comp (.call "raw_month_days" (.val (.var 0) (.val (.var 1) (.val (.var 3) .nil)))) (.name 3) (.range1 (.var 2)) .none [3])
def s_raw_month_begins_2 : IS := (.ret (.bin .Add (.call "raw_year_begins" (.val (.var 0) (.val (.var 1) .nil))) (.bif .sum (.cons e_raw_month_begins_1 .nil))))
def i_raw_month_begins : FnIR := ⟨3, 4, (.cons s_raw_month_begins_2 .nil)⟩
def s_check_day_1 : IS := (.expr (.call "check_calendar" (.val (.var 0) .nil)))
def s_check_day_2 : IS := (.raise "NoDay" .none)
def s_check_day_3 : IS := (.ife (.not (.call "is_number" (.val (.var 1) .nil))) (.cons s_check_day_2 .nil) .nil)
def i_check_day : FnIR := ⟨2, 2, (.cons s_check_day_1 (.cons s_check_day_3 .nil))⟩
def s_date_of_1 : IS := (.expr (.call "check_day" (.val (.var 0) (.val (.var 1) .nil))))
def s_date_of_2 : IS := (.ret (.call "raw_date" (.val (.var 0) (.val (.var 1) .nil))))
def i_date_of : FnIR := ⟨2, 2, (.cons s_date_of_1 (.cons s_date_of_2 .nil))⟩
def s_raw_is_date_1 : IS := (.ret (.bl false))
def s_raw_is_date_2 : IS := (.ife (.or (.not (.call "is_sized" (.val (.var 1) (.val (.int 3) (.val (.int 3) .nil))))) (.or (.not (.call "is_number" (.val (.idx (.bor 1) (.int 0)) .nil))) (.not (.call "is_within" (.val (.idx (.bor 1) (.int 1)) (.val (.int 0) (.val (.bin .Sub (.bif .len (.cons (.idx (.bor 0) (.int 1)) .nil)) (.int 1)) .nil))))))) (.cons s_raw_is_date_1 .nil) .nil)
def s_raw_is_date_3 : IS := (.ret (.call "is_within" (.val (.idx (.bor 1) (.int 2)) (.val (.int 1) (.val (.call "raw_month_days" (.val (.var 0) (.val (.idx (.bor 1) (.int 0)) (.val (.idx (.bor 1) (.int 1)) .nil)))) .nil)))))
def i_raw_is_date : FnIR := ⟨2, 2, (.cons s_raw_is_date_2 (.cons s_raw_is_date_3 .nil))⟩
def s_is_date_1 : IS := (.expr (.call "check_calendar" (.val (.var 0) .nil)))
def s_is_date_2 : IS := (.ret (.call "raw_is_date" (.val (.var 0) (.val (.var 1) .nil))))
def i_is_date : FnIR := ⟨2, 2, (.cons s_is_date_1 (.cons s_is_date_2 .nil))⟩
def s_day_of_1 : IS := (.expr (.call "check_calendar" (.val (.var 0) .nil)))
def s_day_of_2 : IS := (.raise "NoDate" .none)
def s_day_of_3 : IS := (.ife (.not (.call "raw_is_date" (.val (.var 0) (.val (.var 1) .nil)))) (.cons s_day_of_2 .nil) .nil)
def s_day_of_4 : IS := (.ret (.bin .Sub (.bin .Add (.call "raw_month_begins" (.val (.var 0) (.val (.idx (.bor 1) (.int 0)) (.val (.idx (.bor 1) (.int 1)) .nil)))) (.idx (.bor 1) (.int 2))) (.int 1)))
def i_day_of : FnIR := ⟨2, 2, (.cons s_day_of_1 (.cons s_day_of_3 (.cons s_day_of_4 .nil)))⟩
def s_raw_weekday_1 : IS := (.ret (.bin .Mod (.bor 1) (.idx (.bor 0) (.int 0))))
def i_raw_weekday : FnIR := ⟨2, 2, (.cons s_raw_weekday_1 .nil)⟩
def s_weekday_of_1 : IS := (.expr (.call "check_day" (.val (.var 0) (.val (.var 1) .nil))))
def s_weekday_of_2 : IS := (.ret (.call "raw_weekday" (.val (.var 0) (.val (.var 1) .nil))))
def i_weekday_of : FnIR := ⟨2, 2, (.cons s_weekday_of_1 (.cons s_weekday_of_2 .nil))⟩
def s_date_ahead_1 : IS := (.expr (.call "check_day" (.val (.var 0) (.val (.var 1) .nil))))
def s_date_ahead_2 : IS := (.ret (.call "raw_ahead" (.val (.var 0) (.val (.var 1) .nil))))
def i_date_ahead : FnIR := ⟨2, 2, (.cons s_date_ahead_1 (.cons s_date_ahead_2 .nil))⟩
def s_tells_1 : IS := (.expr (.call "check_rule" (.val (.var 0) (.val (.var 1) .nil))))
def s_tells_2 : IS := (.expr (.call "check_day" (.val (.var 0) (.val (.var 2) .nil))))
def s_tells_3 : IS := (.ret (.call "raw_has" (.val (.call "raw_form" (.val (.var 0) (.val (.var 1) .nil))) (.val (.var 2) .nil))))
def i_tells : FnIR := ⟨3, 3, (.cons s_tells_1 (.cons s_tells_2 (.cons s_tells_3 .nil)))⟩
def s__law_calendar_1 : IS := (.set (.name 1) (.lst (.cons (.tup (.cons (.tup (.cons (.int 3) (.cons (.tup (.cons (.int 2) (.cons (.int 3) .nil))) (.cons (.tup (.cons (.int 1) (.cons (.tup .nil) (.cons (.int 0) (.cons (.int 1) .nil))))) .nil)))) (.cons (.int 30) .nil))) (.cons (.tup (.cons (.tup (.cons (.int 2) (.cons (.tup (.cons (.int 3) (.cons (.int 2) .nil))) (.cons (.tup (.cons (.int 2) (.cons (.tup (.cons (.int 1) .nil)) (.cons (.int 1) (.cons (.int 1) .nil))))) .nil)))) (.cons (.int 66) .nil))) (.cons (.tup (.cons (.tup (.cons (.int 4) (.cons (.tup (.cons (.int 5) .nil)) (.cons (.tup (.cons (.int 1) (.cons (.tup .nil) (.cons (.int 0) (.cons (.int 1) .nil))))) .nil)))) (.cons (.int 60) .nil))) .nil)))))
def s__law_calendar_2 : IS := (.set (.name 1) (.bin .Add (.bor 1) (.lst (.cons (.tup (.cons (.tup (.cons (.int 5) (.cons (.tup (.cons (.int 2) (.cons (.int 1) (.cons (.int 2) .nil)))) (.cons (.tup (.cons (.int 1) (.cons (.tup .nil) (.cons (.int 0) (.cons (.int 1) .nil))))) .nil)))) (.cons (.int 30) .nil))) (.cons (.tup (.cons (.tup (.cons (.int 3) (.cons (.tup (.cons (.int 4) .nil)) (.cons (.tup (.cons (.int 2) (.cons (.tup (.cons (.int 0) .nil)) (.cons (.int 0) (.cons (.int 2) .nil))))) .nil)))) (.cons (.int 30) .nil))) .nil)))))
def s__law_calendar_3 : IS := (.ret (.call "_law_any" (.val (.var 0) (.val (.bin .Add (.bor 1) (.lst (.cons (.tup (.cons (.tup (.cons (.int 1) (.cons (.tup (.cons (.int 1) (.cons (.int 2) .nil))) (.cons (.tup (.cons (.int 3) (.cons (.tup (.cons (.int 0) (.cons (.int 2) .nil))) (.cons (.int 1) (.cons (.int 1) .nil))))) .nil)))) (.cons (.int 66) .nil))) .nil))) .nil))))
def i__law_calendar : FnIR := ⟨1, 2, (.cons s__law_calendar_1 (.cons s__law_calendar_2 (.cons s__law_calendar_3 .nil)))⟩
def s__law_days_1 : IS := (.set (.tup [(.name 2), (.name 3), (.name 4)]) (.var 0))
def s__law_days_2 : IS := (.parO [5, 6] [true, false] (.cons (.lst .nil) (.cons (.int 0) .nil)))
def s__law_days_3 : IS := (.set (.name 10) (.ite (.and (.cmp .Eq (.bor 8) (.idx (.bor 4) (.int 2))) (.cmp .In (.bin .Mod (.bif .int (.cons (.bor 6) .nil)) (.idx (.bor 4) (.int 0))) (.idx (.bor 4) (.int 1)))) (.idx (.bor 4) (.int 3)) (.int 0)))
def s__law_days_4 : IS := (.append 5 (.tup (.cons (.var 6) (.cons (.var 8) (.cons (.var 11) (.cons (.bin .Sub (.bin .Add (.bin .Add (.bor 9) (.bor 10)) (.int 1)) (.bor 11)) (.cons (.bin .Mod (.bif .int (.cons (.bif .len (.cons (.bor 5) .nil)) .nil)) (.bor 2)) .nil)))))))
def b__law_days_5 : ISs := (.cons s__law_days_4 .nil)
def s__law_days_6 : IS := (.for (.name 11) (.range2 (.int 1) (.bin .Add (.bin .Add (.bor 9) (.bor 10)) (.int 1))) b__law_days_5)
def b__law_days_7 : ISs := (.cons s__law_days_3 (.cons s__law_days_6 .nil))
def s__law_days_8 : IS := (.for (.tup [(.name 8), (.name 9)]) (.enum (.ite (.cmp .Lt (.bif .len (.cons (.bor 5) .nil)) (.bor 1)) (.var 3) (.tup .nil))) b__law_days_7)
def s__law_days_9 : IS := (.set (.name 6) (.bin .Add (.bor 6) (.int 1)))
def b__law_days_10 : ISs := (.cons s__law_days_8 (.cons s__law_days_9 .nil))
def s__law_days_11 : IS := (.for (.name 7) (.range1 (.var 1)) b__law_days_10)
def s__law_days_12 : IS := (.ret (.slc (.bor 5) .none (.some (.var 1))))
def i__law_days : FnIR := ⟨2, 12, (.cons s__law_days_1 (.cons s__law_days_2 (.cons s__law_days_11 (.cons s__law_days_12 .nil))))⟩
end Lib

/-! K01a: the code of k01's own. -/
namespace K01
open PySem Ev Lib
def s__law_word_1 : IS := (.expr (.callv 0 .nil))
def b__law_word_2 : ISs := (.cons s__law_word_1 .nil)
def s__law_word_3 : IS := (.set (.name 2) (.lst (.cons (.tup (.cons (.str "NoCalendar") (.cons (.isx 1 "NoCalendar") .nil))) (.cons (.tup (.cons (.str "NoDate") (.cons (.isx 1 "NoDate") .nil))) (.cons (.tup (.cons (.str "NoDay") (.cons (.isx 1 "NoDay") .nil))) .nil)))))
def e__law_word_4 : IE := (.comp (.var 4) (.tup [(.name 4), (.name 5)]) (.seq (.bor 2)) (.some (.var 5)) [4, 5])
def s__law_word_5 : IS := (.set (.name 3) e__law_word_4)
def s__law_word_6 : IS := (.ret (.ite (.and (.cmp .Eq (.bif .len (.cons (.bor 3) .nil)) (.int 1)) (.isx 1 "ValueError")) (.idx (.bor 3) (.int 0)) (.str "other")))
def b__law_word_7 : ISs := (.cons s__law_word_3 (.cons s__law_word_5 (.cons s__law_word_6 .nil)))
def s__law_word_8 : IS := (.tryAs b__law_word_2 "DateError" 1 b__law_word_7)
def s__law_word_9 : IS := (.ret (.str "told"))
def i__law_word : FnIR := ⟨1, 6, (.cons s__law_word_8 (.cons s__law_word_9 .nil))⟩
def s__law_cycle_1 : IS := (.set (.tup [(.name 1), (.name 2), (.name 3), (.name 4)]) (.idx (.bor 0) (.int 2)))
def s__law_cycle_2 : IS := (.ret (.bin .Add (.bin .Mult (.bor 1) (.bif .sum (.cons (.idx (.bor 0) (.int 1)) .nil))) (.bin .Mult (.bif .len (.cons (.bor 2) .nil)) (.bor 4))))
def i__law_cycle : FnIR := ⟨1, 5, (.cons s__law_cycle_1 (.cons s__law_cycle_2 .nil))⟩
def s__law_row_1 : IS := (.set (.name 3) (.call "_law_cycle" (.val (.var 0) .nil)))
def s__law_row_2 : IS := (.set (.tup [(.name 4), (.name 5), (.name 6), (.name 7), (.name 8)]) (.idx (.bor 1) (.bin .Mod (.bif .int (.cons (.bor 2) .nil)) (.bor 3))))
def s__law_row_3 : IS := (.ret (.tup (.cons (.bin .Add (.bor 4) (.bin .Mult (.bin .FloorDiv (.bor 2) (.bor 3)) (.idx (.idx (.bor 0) (.int 2)) (.int 0)))) (.cons (.var 5) (.cons (.var 6) (.cons (.var 7) (.cons (.bin .Mod (.bif .int (.cons (.bor 2) .nil)) (.idx (.bor 0) (.int 0))) .nil)))))))
def i__law_row : FnIR := ⟨3, 9, (.cons s__law_row_1 (.cons s__law_row_2 (.cons s__law_row_3 .nil)))⟩
def s__law_day_right_1 : IS := (.set (.name 3) (.call "_law_row" (.val (.var 0) (.val (.var 1) (.val (.var 2) .nil)))))
def s__law_day_right_2 : IS := (.ret (.bl false))
def s__law_day_right_3 : IS := (.ife (.or (.cmp .NotEq (.call "date_of" (.val (.var 0) (.val (.var 2) .nil))) (.slc (.bor 3) .none (.some (.int 3)))) (.cmp .NotEq (.call "day_of" (.val (.var 0) (.val (.slc (.bor 3) .none (.some (.int 3))) .nil))) (.bor 2))) (.cons s__law_day_right_2 .nil) .nil)
def s__law_day_right_4 : IS := (.ret (.and (.cmp .Eq (.call "weekday_of" (.val (.var 0) (.val (.var 2) .nil))) (.idx (.bor 3) (.int 4))) (.cmp .Eq (.call "date_ahead" (.val (.var 0) (.val (.var 2) .nil))) (.idx (.bor 3) (.int 3)))))
def i__law_day_right : FnIR := ⟨3, 4, (.cons s__law_day_right_1 (.cons s__law_day_right_3 (.cons s__law_day_right_4 .nil)))⟩
def s__law_leaves_right_1 : IS := (.set (.name 3) (.call "_law_row" (.val (.var 0) (.val (.var 1) (.val (.var 2) .nil)))))
def s__law_leaves_right_2 : IS := (.set (.name 4) (.lst (.cons (.tup (.cons (.str "weekday") (.cons (.tup (.cons (.idx (.bor 3) (.int 4)) .nil)) .nil))) (.cons (.tup (.cons (.str "month") (.cons (.tup (.cons (.idx (.bor 3) (.int 1)) .nil)) .nil))) (.cons (.tup (.cons (.str "date") (.cons (.tup (.cons (.idx (.bor 3) (.int 2)) .nil)) .nil))) (.cons (.tup (.cons (.str "date") (.cons (.tup (.cons (.bin .Sub (.int 0) (.idx (.bor 3) (.int 3))) .nil)) .nil))) .nil))))))
def e__law_leaves_right_3 : IE := (.comp (.call "tells" (.val (.var 0) (.val (.var 5) (.val (.var 2) .nil)))) (.name 5) (.seq (.bor 4)) .none [5])
def s__law_leaves_right_4 : IS := (.ret (.bl false))
def s__law_leaves_right_5 : IS := (.ife (.not (.bif .all (.cons e__law_leaves_right_3 .nil))) (.cons s__law_leaves_right_4 .nil) .nil)
def e__law_leaves_right_6 : IE := (.comp (.call "has_day" (.val (.call "form_of" (.val (.var 0) (.val (.tup (.cons (.str "not") (.cons (.var 5) .nil))) .nil))) (.val (.var 2) .nil))) (.name 5) (.seq (.bor 4)) .none [5])
def s__law_leaves_right_7 : IS := (.ret (.bl false))
def s__law_leaves_right_8 : IS := (.ife (.bif .any (.cons e__law_leaves_right_6 .nil)) (.cons s__law_leaves_right_7 .nil) .nil)
def e__law_leaves_right_9 : IE := (.comp (.var 6) (.name 6) (.range1 (.idx (.bor 0) (.int 0))) (.some (.cmp .NotEq (.bor 6) (.idx (.bor 3) (.int 4)))) [6])
def s__law_leaves_right_10 : IS := (.ret (.not (.call "tells" (.val (.var 0) (.val (.tup (.cons (.str "weekday") (.cons (.bif .tuple (.cons e__law_leaves_right_9 .nil)) .nil))) (.val (.var 2) .nil))))))
def i__law_leaves_right : FnIR := ⟨3, 7, (.cons s__law_leaves_right_1 (.cons s__law_leaves_right_2 (.cons s__law_leaves_right_5 (.cons s__law_leaves_right_8 (.cons s__law_leaves_right_10 .nil)))))⟩
def s__law_dates_right_1 : IS := (.set (.tup [(.name 3), (.name 4), (.name 5), (.name 6), (.name 7)]) (.call "_law_any" (.val (.var 0) (.val (.var 2) .nil))))
def s__law_dates_right_2 : IS := (.set (.name 8) (.lst (.cons (.tup (.cons (.var 3) (.cons (.var 4) (.cons (.bin .Add (.bor 5) (.bor 6)) .nil)))) (.cons (.tup (.cons (.var 3) (.cons (.var 4) (.cons (.int 0) .nil)))) (.cons (.tup (.cons (.var 3) (.cons (.bif .len (.cons (.idx (.bor 1) (.int 1)) .nil)) (.cons (.var 5) .nil)))) (.cons (.tup (.cons (.neg (.int 1)) (.cons (.var 4) (.cons (.var 5) .nil)))) (.cons .non (.cons (.str "?") .nil))))))))
def s__law_dates_right_3 : IS := (.set (.name 8) (.bin .Add (.bor 8) (.lst (.cons (.lst (.cons (.var 3) (.cons (.var 4) (.cons (.var 5) .nil)))) (.cons (.tup (.cons (.var 3) (.cons (.var 4) .nil))) (.cons (.tup (.cons (.var 3) (.cons (.var 4) (.cons (.bl true) .nil)))) (.cons (.tup (.cons (.var 3) (.cons .non (.cons (.var 5) .nil)))) (.cons (.tup (.cons (.var 3) (.cons (.var 4) (.cons (.var 5) (.cons (.int 1) .nil))))) .nil))))))))
def s__law_dates_right_4 : IS := (.set (.name 10) (.call "_law_any" (.val (.var 0) (.val (.var 8) .nil))))
def s__law_dates_right_5 : IS := (.ret (.bl false))
def s__law_dates_right_6 : IS := (.ife (.or (.cmp .IsNot (.call "is_date" (.val (.var 1) (.val (.tup (.cons (.var 3) (.cons (.var 4) (.cons (.var 5) .nil)))) .nil))) (.bl true)) (.cmp .IsNot (.call "is_date" (.val (.var 1) (.val (.var 10) .nil))) (.bl false))) (.cons s__law_dates_right_5 .nil) .nil)
def s__law_dates_right_7 : IS := (.set (.name 11) (.call "_law_any" (.val (.var 0) (.val (.lst (.cons .non (.cons (.str "?") (.cons (.tup (.cons (.int 3) (.cons (.tup (.cons (.int 2) .nil)) .nil))) (.cons (.lst .nil) (.cons .dnew (.cons (.tup (.cons (.int 0) (.cons (.tup (.cons (.int 2) (.cons (.int 3) .nil))) (.cons (.tup (.cons (.int 1) (.cons (.tup .nil) (.cons (.int 0) (.cons (.int 1) .nil))))) .nil)))) .nil))))))) .nil))))
def s__law_dates_right_8 : IS := (.set (.name 12) (.call "_law_any" (.val (.var 0) (.val (.lst (.cons (.neg (.int 1)) (.cons .non (.cons (.str "?") (.cons (.bl true) (.cons (.tup (.cons (.int 0) .nil)) (.cons .dnew .nil))))))) .nil))))
def s__law_dates_right_9 : IS := (.setOwn 9 (.lst (.cons (.call "_law_word" (.lam 0 2 (.call "day_of" (.val (.var 1) (.val (.var 0) .nil))) [10, 11] .nil)) (.cons (.call "_law_none" (.val (.var 11) (.val (.var 12) .nil))) .nil))))
def s__law_dates_right_10 : IS := (.append 9 (.call "_law_word" (.lam 0 2 (.call "day_of" (.val (.var 1) (.val (.var 0) .nil))) [10, 1] .nil)))
def s__law_dates_right_11 : IS := (.append 9 (.call "_law_word" (.lam 0 2 (.call "date_of" (.val (.var 0) (.val (.var 1) .nil))) [1, 12] .nil)))
def s__law_dates_right_12 : IS := (.append 9 (.call "_law_word" (.lam 0 2 (.call "weekday_of" (.val (.var 0) (.val (.var 1) .nil))) [1, 12] .nil)))
def s__law_dates_right_13 : IS := (.append 9 (.call "_law_word" (.lam 0 2 (.call "date_ahead" (.val (.var 0) (.val (.var 1) .nil))) [1, 12] .nil)))
def s__law_dates_right_14 : IS := (.ret (.cmp .Eq (.bor 9) (.bin .Add (.bin .Add (.bin .Mult (.lst (.cons (.str "NoCalendar") .nil)) (.int 2)) (.lst (.cons (.str "NoDate") .nil))) (.bin .Mult (.lst (.cons (.str "NoDay") .nil)) (.int 3)))))
def i__law_dates_right : FnIR := ⟨3, 13, (.cons s__law_dates_right_1 (.cons s__law_dates_right_2 (.cons s__law_dates_right_3 (.cons s__law_dates_right_4 (.cons s__law_dates_right_6 (.cons s__law_dates_right_7 (.cons s__law_dates_right_8 (.cons s__law_dates_right_9 (.cons s__law_dates_right_10 (.cons s__law_dates_right_11 (.cons s__law_dates_right_12 (.cons s__law_dates_right_13 (.cons s__law_dates_right_14 .nil)))))))))))))⟩
def s__law_none_1 : IS := (.ret (.call "_law_word" (.lam 0 2 (.call "date_of" (.val (.var 0) (.val (.var 1) .nil))) [0, 1] .nil)))
def i__law_none : FnIR := ⟨2, 2, (.cons s__law_none_1 .nil)⟩
def s_law_1 : IS := (.set (.name 1) (.call "_law_hand" (.val (.var 0) .nil)))
def s_law_2 : IS := (.set (.name 2) (.tup (.cons (.int 7) (.cons (.tup (.cons (.int 3) (.cons (.int 2) .nil))) (.cons (.tup (.cons (.int 2) (.cons (.tup (.cons (.int 1) .nil)) (.cons (.int 1) (.cons (.int 1) .nil))))) .nil)))))
def s_law_3 : IS := (.ret (.bl false))
def s_law_4 : IS := (.ife (.cmp .NotEq (.lst (.cons (.call "date_of" (.val (.var 2) (.val (.int 10) .nil))) (.cons (.call "weekday_of" (.val (.var 2) (.val (.int 10) .nil))) (.cons (.call "day_of" (.val (.var 2) (.val (.tup (.cons (.int 2) (.cons (.int 0) (.cons (.int 1) .nil)))) .nil))) .nil)))) (.lst (.cons (.tup (.cons (.int 1) (.cons (.int 1) (.cons (.int 3) .nil)))) (.cons (.int 3) (.cons (.int 11) .nil))))) (.cons s_law_3 .nil) .nil)
def s_law_5 : IS := (.set (.tup [(.name 4), (.name 5)]) (.call "_law_calendar" (.val (.var 1) .nil)))
def s_law_6 : IS := (.set (.name 6) (.call "_law_days" (.val (.var 4) (.val (.call "_law_cycle" (.val (.var 4) .nil)) .nil))))
def s_law_7 : IS := (.set (.name 7) (.lst (.cons (.call "_law_draw" (.val (.var 1) (.val (.int 40) .nil))) (.cons (.call "_law_draw" (.val (.var 1) (.val (.int 400) .nil))) (.cons (.call "_law_draw" (.val (.var 1) (.val (.bin .Pow (.int 10) (.int 18)) .nil))) (.cons (.bin .Add (.bin .Pow (.int 10) (.int 39)) (.call "_law_draw" (.val (.var 1) (.val (.int 999) .nil)))) .nil))))))
def s_law_8 : IS := (.ret (.bl false))
def s_law_9 : IS := (.ife (.not (.call "_law_day_right" (.val (.var 4) (.val (.var 6) (.val (.var 8) .nil))))) (.cons s_law_8 .nil) .nil)
def b_law_10 : ISs := (.cons s_law_9 .nil)
def s_law_11 : IS := (.for (.name 8) (.seq (.var 7)) b_law_10)
def s_law_12 : IS := (.ret (.bl false))
def s_law_13 : IS := (.ife (.or (.not (.call "_law_leaves_right" (.val (.var 4) (.val (.var 6) (.val (.call "_law_draw" (.val (.var 1) (.val (.int 90) .nil))) .nil))))) (.not (.call "_law_dates_right" (.val (.var 1) (.val (.var 4) (.val (.var 6) .nil)))))) (.cons s_law_12 .nil) .nil)
def b_law_14 : ISs := (.cons s_law_5 (.cons s_law_6 (.cons s_law_7 (.cons s_law_11 (.cons s_law_13 .nil)))))
def s_law_15 : IS := (.for (.name 3) (.range1 (.int 4)) b_law_14)
def s_law_16 : IS := (.ret (.bl true))
def i_law : FnIR := ⟨1, 9, (.cons s_law_1 (.cons s_law_2 (.cons s_law_4 (.cons s_law_15 (.cons s_law_16 .nil)))))⟩
def fns : List (Str × FnIR) := [(("is_integer" : Str), i_is_integer), (("is_within" : Str), i_is_within), (("is_flag" : Str), i_is_flag), (("is_sized" : Str), i_is_sized), (("are_rising" : Str), i_are_rising), (("is_lot" : Str), i_is_lot), (("common_part" : Str), i_common_part), (("is_leap_rule" : Str), i_is_leap_rule), (("is_calendar" : Str), i_is_calendar), (("check_calendar" : Str), i_check_calendar), (("is_number" : Str), i_is_number), (("raw_is_leap" : Str), i_raw_is_leap), (("raw_year_days" : Str), i_raw_year_days), (("raw_month_days" : Str), i_raw_month_days), (("raw_cycle_days" : Str), i_raw_cycle_days), (("raw_year_begins" : Str), i_raw_year_begins), (("raw_month_begins" : Str), i_raw_month_begins), (("check_day" : Str), i_check_day), (("raw_date" : Str), i_raw_date), (("date_of" : Str), i_date_of), (("raw_is_date" : Str), i_raw_is_date), (("is_date" : Str), i_is_date), (("day_of" : Str), i_day_of), (("raw_weekday" : Str), i_raw_weekday), (("weekday_of" : Str), i_weekday_of), (("raw_ahead" : Str), i_raw_ahead), (("date_ahead" : Str), i_date_ahead), (("is_form" : Str), i_is_form), (("check_form" : Str), i_check_form), (("raw_flags" : Str), i_raw_flags), (("check_width" : Str), i_check_width), (("least_span" : Str), i_least_span), (("form_by" : Str), i_form_by), (("raw_has" : Str), i_raw_has), (("check_day_of" : Str), i_check_day_of), (("has_day" : Str), i_has_day), (("common_span" : Str), i_common_span), (("two_flags" : Str), i_two_flags), (("raw_turned" : Str), i_raw_turned), (("raw_either" : Str), i_raw_either), (("raw_both" : Str), i_raw_both), (("raw_without" : Str), i_raw_without), (("raw_shifted" : Str), i_raw_shifted), (("round_days_in" : Str), i_round_days_in), (("are_dates" : Str), i_are_dates), (("is_leaf_right" : Str), i_is_leaf_right), (("is_nth" : Str), i_is_nth), (("are_numbers_right" : Str), i_are_numbers_right), (("is_node" : Str), i_is_node), (("raw_parts" : Str), i_raw_parts), (("raw_is_rule" : Str), i_raw_is_rule), (("check_rule" : Str), i_check_rule), (("raw_nodes" : Str), i_raw_nodes), (("calendar_form" : Str), i_calendar_form), (("is_dated" : Str), i_is_dated), (("raw_leaf" : Str), i_raw_leaf), (("nearest_behind" : Str), i_nearest_behind), (("nearest_ahead" : Str), i_nearest_ahead), (("raw_rolled" : Str), i_raw_rolled), (("spans_by" : Str), i_spans_by), (("raw_nth" : Str), i_raw_nth), (("endless_nth" : Str), i_endless_nth), (("raw_nth_day" : Str), i_raw_nth_day), (("raw_counted" : Str), i_raw_counted), (("raw_past" : Str), i_raw_past), (("raw_each" : Str), i_raw_each), (("common_step" : Str), i_common_step), (("raw_made" : Str), i_raw_made), (("raw_form" : Str), i_raw_form), (("form_of" : Str), i_form_of), (("tells" : Str), i_tells), (("_law_hand" : Str), i__law_hand), (("_law_draw" : Str), i__law_draw), (("_law_any" : Str), i__law_any), (("_law_lot" : Str), i__law_lot), (("_law_calendar" : Str), i__law_calendar), (("_law_days" : Str), i__law_days), (("_law_word" : Str), i__law_word), (("_law_cycle" : Str), i__law_cycle), (("_law_row" : Str), i__law_row), (("_law_day_right" : Str), i__law_day_right), (("_law_leaves_right" : Str), i__law_leaves_right), (("_law_dates_right" : Str), i__law_dates_right), (("_law_none" : Str), i__law_none), (("law" : Str), i_law)]
def c_MOST_WEEK : D := (.int 10)
def c_MOST_MONTHS : D := (.int 12)
def c_MOST_MONTH : D := (.int 31)
def c_MOST_CYCLE : D := (.int 28)
def c_MOST_MORE : D := (.int 3)
def c_MOST_FORM : D := (.int 20000)
def c_MOST_RULES : D := (.int 30)
def c_MOST_DEEP : D := (.int 8)
def c_MOST_LISTED : D := (.int 12)
def c_MOST_NAMED_DAY : D := (.int 2000)
def c_MOST_DATE : D := (.int 31)
def c_MOST_YEARS : D := (.int 12)
def c_MOST_EVERY : D := (.int 60)
def c_MOST_MOVED : D := (.int 60)
def c_MOST_NTH : D := (.int 12)
def c_MOST_COUNT : D := (.int 60)
def c_MOST_EACH : D := (.int 12)
def c_ALL : D := (.str "all")
def c_NONE : D := (.str "none")
def c_ON : D := (.str "on")
def c_FROM : D := (.str "from")
def c_WEEKDAY : D := (.str "weekday")
def c_MONTH : D := (.str "month")
def c_DATE : D := (.str "date")
def c_YEAR : D := (.str "year")
def c_EVERY : D := (.str "every")
def c_NOT : D := (.str "not")
def c_OR : D := (.str "or")
def c_AND : D := (.str "and")
def c_LESS : D := (.str "less")
def c_MOVED : D := (.str "moved")
def c_ROLLED : D := (.str "rolled")
def c_NTH : D := (.str "nth")
def c_COUNT : D := (.str "count")
def c_PAST : D := (.str "past")
def c_EACH : D := (.str "each")
def c_ALL_DAYS : D := (.tup [(.int 0), (.int 1), (.kt [(.int 0)])])
def c_NO_DAYS : D := (.tup [(.int 0), (.int 1), (.kt [])])
def cons0 : List (Str × D) := [(("MOST_WEEK" : Str), c_MOST_WEEK), (("MOST_MONTHS" : Str), c_MOST_MONTHS), (("MOST_MONTH" : Str), c_MOST_MONTH), (("MOST_CYCLE" : Str), c_MOST_CYCLE), (("MOST_MORE" : Str), c_MOST_MORE), (("MOST_FORM" : Str), c_MOST_FORM), (("MOST_RULES" : Str), c_MOST_RULES), (("MOST_DEEP" : Str), c_MOST_DEEP), (("MOST_LISTED" : Str), c_MOST_LISTED), (("MOST_NAMED_DAY" : Str), c_MOST_NAMED_DAY), (("MOST_DATE" : Str), c_MOST_DATE), (("MOST_YEARS" : Str), c_MOST_YEARS), (("MOST_EVERY" : Str), c_MOST_EVERY), (("MOST_MOVED" : Str), c_MOST_MOVED), (("MOST_NTH" : Str), c_MOST_NTH), (("MOST_COUNT" : Str), c_MOST_COUNT), (("MOST_EACH" : Str), c_MOST_EACH), (("ALL" : Str), c_ALL), (("NONE" : Str), c_NONE), (("ON" : Str), c_ON), (("FROM" : Str), c_FROM), (("WEEKDAY" : Str), c_WEEKDAY), (("MONTH" : Str), c_MONTH), (("DATE" : Str), c_DATE), (("YEAR" : Str), c_YEAR), (("EVERY" : Str), c_EVERY), (("NOT" : Str), c_NOT), (("OR" : Str), c_OR), (("AND" : Str), c_AND), (("LESS" : Str), c_LESS), (("MOVED" : Str), c_MOVED), (("ROLLED" : Str), c_ROLLED), (("NTH" : Str), c_NTH), (("COUNT" : Str), c_COUNT), (("PAST" : Str), c_PAST), (("EACH" : Str), c_EACH), (("LEAVES" : Str), c_LEAVES), (("ALL_DAYS" : Str), c_ALL_DAYS), (("NO_DAYS" : Str), c_NO_DAYS), (("SPOTS" : Str), c_SPOTS), (("SIZES" : Str), c_SIZES)]
def isa (c' c : Str) : Bool := decide (c = "ValueError") || (decide (c = "DateError") || decide (c' = c))
def T : Tab := ⟨fun x => fns.lookup x, fun x => cons0.lookup x, isa⟩
end K01

set_option maxHeartbeats 0
/-! K01g: the runs of the head, part by part. -/
namespace K01
open PySem PySem.Spec PyProof.Rows L2 Ev
abbrev row := PySem.Challenge.rw_everydate_k01_whole_dates_and_days_undon
abbrev pr := PySem.Challenge.pw_everydate_k01_whole_dates_and_days_undon
abbrev bd : List Stmt := pr.main.body
abbrev R : PySem.W.OpenRow := PySem.W.OpenLaw.row row
def iLaw : Nat := 139
def q : Program := PySem.W.view R.prog [iLaw]
/-! the row's plain facts -/
open PySem.W PySem.Calls HandSHeadRun in
theorem z_e : opening R.prog = plainProg R.prog.main.scope.names := by kernel_rfl
open PySem.W PySem.Calls HandSHeadRun in
theorem z_f (s : _) : fenceModules? R.prog s = some s := by kernel_rfl
open PySem.W PySem.Calls HandSHeadRun in
theorem z_d : defOf q R.name = some (topDef R.prog iLaw, []) := by kernel_rfl
open PySem.W PySem.Calls HandSHeadRun in
theorem z_p : R.prog.theDef R.name = some ((topDef R.prog iLaw).params, (topDef R.prog iLaw).body, (topDef R.prog iLaw).scope) := by kernel_rfl
open PySem.W PySem.Calls HandSHeadRun in
theorem z_k : kwWritten? (topDef R.prog iLaw).params.kwonlyargs (topDef R.prog iLaw).params.kw_defaults = some [] := by kernel_rfl
open PySem.W PySem.Calls HandSHeadRun in
theorem z_s : R.wellSaid = true := by decide +kernel
open PySem.W PySem.Calls HandSHeadRun in
theorem z_o : (chainsOk q && opensWell R.prog && (frees R.toRowW && R.within.isEmpty)) = true := by decide +kernel
open PySem.W PySem.Calls HandSHeadRun in
theorem z_b : R.prog.bare := ⟨rfl, rfl, rfl, rfl, rfl, by decide +kernel⟩
theorem fns_eq : fns = topIR [("raw_form", "known")] ["_law_hand"] bd := by kernel_rfl
theorem cons_eq : topCons bd ++ (topDics bd).map dctOf = cons0 := by kernel_rfl
def S : LawSet := lawSet bd fns isa 200000
def hk : PySem.W.Hook := He.hookX 2 [] S.DS S.ts S.tf S.ex
def ob (s : PySem.W.SharedT) : He.AlX := He.obsX 2 [] S.DS S.ts S.tf S.ex (HandSHeadRun.getT s)
theorem ob_eq (s : PySem.W.SharedT) : ob s = hk.obs s.abs := He.obsX_eq (HandSHeadRun.getT_eq s)
def loose : List Str := topDefs (bd.take iLaw) ++ (topCls0 bd ++ topSets bd)
def wB (w : World) (b : Bool) : World := ⟨w.draws, { w.params with followText := fun s => match decide (s = "special-get-raises") with
  | true => b
  | false => w.params.followText s }⟩
theorem wB_eq (w : World) : w = wB w (w.params.followText "special-get-raises") := by
  obtain ⟨d, p⟩ := w
  cases p
  unfold wB
  congr 2
  funext s
  by_cases h : s = "special-get-raises"
  · rw [decide_eq_true h, h]
  · rw [decide_eq_false h]

/-! the run, and what is looked at, part by part: one check of all wants too much memory -/
noncomputable abbrev En (w : World) (os : OsState) : Option PySem.W.SharedT := HandSHeadRun.endF (HandSHeadRun.stepQ (HandSHeadRun.denQ HandSHeadRun.tabQ) R.prog w) 60000 R.prog w os
noncomputable abbrev Kf (s : PySem.W.SharedT) : PySem.W.Frag := He.frT (HandSHeadRun.getT s) (He.asD (HandSHeadRun.getT s) 2)
noncomputable abbrev D1 : List He.DefD := S.DS.take 40
noncomputable abbrev D2 : List He.DefD := S.DS.drop 40
open PySem.W PySem.Calls HandSHeadRun in
noncomputable abbrev pA (w : World) (s : SharedT) : Bool := looksF R.prog (boot_heap w.params) s.abs
open PySem.W PySem.Calls HandSHeadRun in
noncomputable abbrev pB (s : SharedT) := seenQ q loose (importedModules R.prog.main.body) (fun s => xlAt q [] s && recOk R.toRowW.records s) s.abs
noncomputable abbrev pC (ds : List He.DefD) (s : PySem.W.SharedT) : Bool × List He.FnW := (ds.all fun d => d.ok (Kf s), ds.map fun d => He.fnW (Kf s) d.at_)
noncomputable abbrev pD (s : PySem.W.SharedT) := S.ts.map fun t => He.dicW (Kf s) (t.1 (Kf s))
noncomputable abbrev pE (s : PySem.W.SharedT) : Bool := S.ex (Kf s) && He.tabsB (HandSHeadRun.getT s) S.tf (Kf s)
noncomputable abbrev vD (w : World) := S.ts.map fun t => some (He.keysIn w.params t.2)
theorem TA (w : World) (os : OsState) : (En (wB w true) os).map (pA (wB w true)) = some true := by kernel_rfl
theorem FA (w : World) (os : OsState) : (En (wB w false) os).map (pA (wB w false)) = some true := by kernel_rfl
theorem TB (w : World) (os : OsState) : (En (wB w true) os).map pB = some (PySem.W.openGood q loose) := by kernel_rfl
theorem FB (w : World) (os : OsState) : (En (wB w false) os).map pB = some (PySem.W.openGood q loose) := by kernel_rfl
theorem TC1 (w : World) (os : OsState) : (En (wB w true) os).map (pC D1) = some (true, D1.map He.DefD.val) := by kernel_rfl
theorem FC1 (w : World) (os : OsState) : (En (wB w false) os).map (pC D1) = some (true, D1.map He.DefD.val) := by kernel_rfl
theorem TC2 (w : World) (os : OsState) : (En (wB w true) os).map (pC D2) = some (true, D2.map He.DefD.val) := by kernel_rfl
theorem FC2 (w : World) (os : OsState) : (En (wB w false) os).map (pC D2) = some (true, D2.map He.DefD.val) := by kernel_rfl
theorem TD (w : World) (os : OsState) : (En (wB w true) os).map pD = some (vD (wB w true)) := by kernel_rfl
theorem FD (w : World) (os : OsState) : (En (wB w false) os).map pD = some (vD (wB w false)) := by kernel_rfl
theorem TE (w : World) (os : OsState) : (En (wB w true) os).map pE = some true := by kernel_rfl
theorem FE (w : World) (os : OsState) : (En (wB w false) os).map pE = some true := by kernel_rfl
end K01

/-! M1: begin and round, in plain Lean. -/
namespace Lib
def Per (f : Nat → Bool) (b p : Nat) : Prop := ∀ n, b ≤ n → f (n + p) = f n
theorem Per.later {f : Nat → Bool} {b b' p : Nat} (h : Per f b p) (hb : b ≤ b') : Per f b' p := fun n hn => h n (Nat.le_trans hb hn)
theorem Per.mul {f : Nat → Bool} {b p : Nat} (h : Per f b p) : ∀ k, Per f b (p * k)
  | 0 => fun n _ => by rw [Nat.mul_zero, Nat.add_zero]
  | k + 1 => fun n hn => by
    rw [Nat.mul_succ, ← Nat.add_assoc, h _ (by omega), h.mul k n hn]
theorem Per.mod {f : Nat → Bool} {b p n : Nat} (h : Per f b p) (hn : b ≤ n) : f n = f (b + (n - b) % p) := by
  have e : n = b + (n - b) % p + p * ((n - b) / p) := by
    have := Nat.mod_add_div (n - b) p
    omega
  conv => lhs; rw [e]
  exact h.mul _ _ (by omega)
theorem Per.back {f : Nat → Bool} {b b' p q : Nat} (h : Per f b p) (hp : 0 < p) (g : Per f b' q) : Per f b q := fun n hn => by
  have l : b' ≤ p * b' := Nat.le_mul_of_pos_left _ hp
  rw [← h.mul b' (n + q) (by omega), ← h.mul b' n hn, show n + q + p * b' = n + p * b' + q by omega]
  exact g _ (by omega)
structure Least (f : Nat → Bool) (b p : Nat) : Prop where
  pos : 0 < p
  per : Per f b p
  min : ∀ b' p', 0 < p' → Per f b' p' → p ≤ p'
  low : ∀ b', Per f b' p → b ≤ b'
theorem Least.unique {f : Nat → Bool} {b p b' p' : Nat} (h : Least f b p) (g : Least f b' p') : b = b' ∧ p = p' := by
  have e : p = p' := Nat.le_antisymm (h.min _ _ g.pos g.per) (g.min _ _ h.pos h.per)
  subst e
  exact ⟨Nat.le_antisymm (h.low _ g.per) (g.low _ h.per), rfl⟩
theorem dvd_of {f : Nat → Bool} {b p b' q : Nat} (hp : 0 < p) (h : Per f b p) (hm : ∀ b' p', 0 < p' → Per f b' p' → p ≤ p') (g : Per f b' q) : p ∣ q := by
  have g' := h.back hp g
  have r : Per f b (q % p) := fun n hn => by
    rw [← h.mul (q / p) (n + q % p) (by omega), show n + q % p + p * (q / p) = n + q by
      have := Nat.mod_add_div q p
      omega]
    exact g' n hn
  by_cases z : q % p = 0
  · exact Nat.dvd_of_mod_eq_zero z
  · exact absurd (hm _ _ (Nat.pos_of_ne_zero z) r) (by have := Nat.mod_lt q hp; omega)
theorem Least.dvd {f : Nat → Bool} {b p b' q : Nat} (h : Least f b p) (g : Per f b' q) : p ∣ q := dvd_of h.pos h.per h.min g
theorem exists_min {P : Nat → Prop} (h : ∃ n, P n) : ∃ n, P n ∧ ∀ m, P m → n ≤ m := by
  obtain ⟨n, hn⟩ := h
  induction n using Nat.strongRecOn with
  | _ n ih =>
    by_cases q : ∃ m, m < n ∧ P m
    · obtain ⟨m, hm, pm⟩ := q
      exact ih m hm pm
    · exact ⟨n, hn, fun m pm => Nat.le_of_not_lt fun hm => q ⟨m, hm, pm⟩⟩
theorem exists_least {f : Nat → Bool} {b p : Nat} (hp : 0 < p) (h : Per f b p) : ∃ b' p', Least f b' p' := by
  obtain ⟨p', ⟨⟨h0, b1, h1⟩, h2⟩⟩ := exists_min (P := fun q => 0 < q ∧ ∃ b, Per f b q) ⟨p, hp, b, h⟩
  obtain ⟨b', h3, h4⟩ := exists_min (P := fun b => Per f b p') ⟨b1, h1⟩
  exact ⟨b', p', h0, h3, fun b q hq hb => h2 q ⟨hq, b, hb⟩, fun b hb => h4 b hb⟩
/-- what is known of a ring that comes again, its first span that it comes again by -/
theorem least_of {f : Nat → Bool} {b n s : Nat} (hn : 0 < n) (h : Per f b n) (hs : 0 < s) (hp : Per f b s) (hm : ∀ t, 0 < t → t < s → t ∣ n → ¬ Per f b t) : ∀ b' p', 0 < p' → Per f b' p' → s ≤ p' := by
  intro b' p' h0 h1
  obtain ⟨b1, p1, h2⟩ := exists_least hn h
  have h3 : Per f b p1 := h.back hn h2.per
  have h4 : s ≤ p1 := Nat.le_of_not_lt fun l => hm p1 h2.pos l (h2.dvd h) h3
  exact Nat.le_trans h4 (h2.min _ _ h0 h1)
theorem per_back1 {f : Nat → Bool} {b p : Nat} (h : Per f (b + 1) p) (e : f b = f (b + p)) : Per f b p := fun n hn => by
  by_cases z : n = b
  · subst z
    exact e.symm
  · exact h n (by omega)
theorem low_of {f : Nat → Bool} {b p : Nat} (h : Per f b p) (e : b = 0 ∨ f (b - 1) ≠ f (b - 1 + p)) : ∀ b', Per f b' p → b ≤ b' := by
  intro b' g
  rcases e with e | e
  · omega
  · refine Nat.le_of_not_lt fun l => e ?_
    exact (g (b - 1) (by omega)).symm
/-- a ring turned by t -/
theorem per_iff_rot {f : Nat → Bool} {b n t : Nat} (hn : 0 < n) (h : Per f b n) (ht : t ≤ n) : Per f b t ↔ ∀ i, i < n → f (b + (if i < n - t then t + i else i - (n - t))) = f (b + i) := by
  constructor
  · intro g i hi
    split
    · rw [show b + (t + i) = b + i + t by omega]
      exact g _ (by omega)
    · rw [← h (b + (i - (n - t))) (by omega), show b + (i - (n - t)) + n = b + i + t by omega]
      exact g _ (by omega)
  · intro g m hm
    have l := Nat.mod_lt (m - b) hn
    rw [h.mod hm, ← g _ l]
    have e : m + t = b + ((m - b) % n + t) + n * ((m - b) / n) := by
      have := Nat.mod_add_div (m - b) n
      omega
    rw [e, h.mul _ _ (by omega)]
    split
    · congr 1
      omega
    · rw [← h (b + ((m - b) % n - (n - t))) (by omega)]
      congr 1
      omega
end Lib

set_option maxHeartbeats 2000000
/-! K00b: what the program's functions compute. -/
namespace Lib
open PySem Ev
/-- an int that is no bool -/
def isI : D → Bool
  | .int _ => true
  | _ => false
section
variable {T : Tab} {L : Nat} (B : LCal T) variable {k : Nat} {o : Objs}
/-- what a value of one's own may be -/
def okD : D → Bool
  | .obj _ => false
  | .kt _ => false
  | _ => true
include B in
theorem v_is_integer (d : D) (h : okD d = true) : cf T L (k + 1) "is_integer" [.val d] o = .ok (.bl (isI d)) o := by
  refine cf_ok B.is_integer rfl ?_ trunc_ok
  cases d <;> first
    | (cases h; done)
    | rfl
def wi (d : D) (a b : Int) : Bool := match d with
  | .int i => decide (a ≤ i) && decide (i ≤ b)
  | _ => false
include B in
theorem v_is_within (d : D) (a b : Int) (h : okD d = true) : cf T L (k + 2) "is_within" [.val d, .val (.int a), .val (.int b)] o = .ok (.bl (wi d a b)) o := by
  refine cf_ok B.is_within rfl ?_ trunc_ok
  simp only [s_is_within_1, i_is_within, exSs, exS, evE, evEs, evAs, evEo, evC, evSrc, evT, frame, getV, getB, Res.ofO, Res.bind, Res.st, SRes.seq, SRes.out, List.getElem?_cons_zero, List.getElem?_cons_succ, List.cons_append, List.nil_append, List.replicate, List.length_cons, List.length_nil, bindT, bindTs, List.set_cons_zero, List.set_cons_succ, frzF, wipeF, setsO, slotF, ownS, v_is_integer B d h]
  cases d <;> first
    | (cases h; done)
    | rfl
    | (rename_i i; simp only [isI, cmpD, leD, Option.map, wi]; cases decide (a ≤ i) <;> simp)
def szT (d : D) (a b : Int) : Bool := match d with
  | .tup ds => decide (a ≤ ds.length) && decide ((ds.length : Int) ≤ b)
  | _ => false
include B in
theorem v_is_sized (d : D) (a b : Int) (h : okD d = true) : cf T L (k + 1) "is_sized" [.val d, .val (.int a), .val (.int b)] o = .ok (.bl (szT d a b)) o := by
  refine cf_ok B.is_sized rfl ?_ trunc_ok
  cases d <;> first
    | (cases h; done)
    | rfl
    | skip
  rename_i ds
  have e : isiD (.tup ds) "tuple" = some true := by rfl
  simp only [s_is_sized_1, i_is_sized, exSs, exS, evE, evEs, evAs, evEo, evC, evSrc, evT, frame, getV, getB, Res.ofO, Res.bind, Res.st, SRes.seq, SRes.out, List.getElem?_cons_zero, List.getElem?_cons_succ, List.cons_append, List.nil_append, List.replicate, List.length_cons, List.length_nil, bindT, bindTs, List.set_cons_zero, List.set_cons_succ, frzF, wipeF, setsO, slotF, ownS, e, Option.map, bifD, cmpD, leD, szT]
  cases decide (a ≤ (ds.length : Int)) <;> simp
theorem compL_pure {bd : D → Option Frm} {cnd : Frm → Objs → Res Bool} {el : Frm → Objs → Res D} {o : Objs} {f : D → D} {p : D → Bool} : ∀ {ds : List D}, (∀ d ∈ ds, ∃ ρ, bd d = some ρ ∧ cnd ρ o = .ok (p d) o ∧ (p d = true → el ρ o = .ok (f d) o)) → compL bd cnd el ds o = .ok ((ds.filter p).map f) o
  | [], _ => rfl
  | d :: ds, h => by
    obtain ⟨ρ, h1, h2, h3⟩ := h d List.mem_cons_self
    have ih := compL_pure fun d' hd => h d' (List.mem_cons_of_mem _ hd)
    unfold compL
    simp only [h1, h2, Res.bind]
    cases hp : p d with
    | false =>
      rw [if_neg Bool.false_ne_true, ih, List.filter_cons_of_neg (by rw [hp]; exact Bool.false_ne_true)]
    | true =>
      simp only [if_true, h3 hp, Res.bind, ih]
      rw [List.filter_cons_of_pos hp]
      rfl
theorem comp_ok {F : FnT} {C : CloT} {G : Str → Option D} {is : Str → Str → Bool} {elt : IE} {tg : Tg} {src : ISrc} {c : IEo} {own : List Nat} {ρ : Frm} {o1 o2 : Objs} {ds xs : List D} (h1 : evSrc F C G is src ρ o = .ok ds o1)
    (h2 : compL (fun d => bindT tg d (wipeF ρ own)) (fun ρ' o' => evC F C G is c ρ' o') (fun ρ' o' => evE F C G is elt ρ' o') ds o1 = .ok xs o2) (hz : xs.length ≤ sizeLine) : evE F C G is (.comp elt tg src c own) ρ o = .ok (.lst xs) o2 := by
  unfold evE
  rw [h1]
  show ((compL _ _ _ ds o1).calm).bind _ = _
  rw [h2]
  show (if sz xs.length then Res.ok (D.lst xs) o2 else .stuck) = _
  exact if_pos (decide_eq_true hz)
theorem compL_map {bd : D → Option Frm} {cnd : Frm → Objs → Res Bool} {el : Frm → Objs → Res D} {o : Objs} {f : D → D} {ds : List D} (h : ∀ d ∈ ds, ∃ ρ, bd d = some ρ ∧ cnd ρ o = .ok true o ∧ el ρ o = .ok (f d) o) : compL bd cnd el ds o = .ok (ds.map f) o := by
  have z := compL_pure (p := fun _ => true) (f := f) fun d hd => by
    obtain ⟨ρ, h1, h2, h3⟩ := h d hd
    exact ⟨ρ, h1, h2, fun _ => h3⟩
  rw [z, List.filter_eq_self.mpr fun _ _ => rfl]
theorem blsD_map {α : Type} (f : α → Bool) : ∀ l : List α, blsD (l.map fun x => .bl (f x)) = some (l.map f)
  | [] => rfl
  | a :: l => by
    show (blsD (l.map fun x => .bl (f x))).map (f a :: ·) = _
    rw [blsD_map f l]
    rfl
theorem intsD_map {α : Type} (f : α → Int) : ∀ l : List α, intsD (l.map fun x => .int (f x)) = some (l.map f)
  | [] => rfl
  | a :: l => by
    show (intsD (l.map fun x => .int (f x))).map (f a :: ·) = _
    rw [intsD_map f l]
    rfl
theorem inD_ints (i : Int) (l : List Int) : inD (.int i) (.tup (l.map D.int)) = some (decide (i ∈ l)) := by
  have h1 : ((l.map D.int).all flatD) = true := by
    rw [List.all_eq_true]
    rintro x hx
    obtain ⟨j, _, rfl⟩ := List.mem_map.mp hx
    rfl
  have h2 : ((l.map D.int).any fun y => eqF y (.int i)) = decide (i ∈ l) := by
    rw [List.any_map, Bool.eq_iff_iff, List.any_eq_true, decide_eq_true_eq]
    constructor
    · rintro ⟨j, hj, e⟩
      have e : (j == i) = true := e
      rw [← eq_of_beq e]
      exact hj
    · exact fun h => ⟨i, h, beq_self_eq_true i⟩
  show (if (flatD (.int i) && (l.map D.int).all flatD) = true then some ((l.map D.int).any fun y => eqF y (.int i)) else none) = _
  rw [h1, h2]
  rfl
theorem mulOk_of {i j : Int} (h1 : i.natAbs < 2 ^ 400) (h2 : j.natAbs < 2 ^ 400) : mulOk i j = true := by
  have g : ∀ {n : Nat}, n < 2 ^ 400 → n.log2 < 400 := fun {n} h => by
    by_cases z : n = 0
    · subst z
      decide
    · exact (Nat.log2_lt z).mpr h
  unfold mulOk
  have a := g h1
  have b := g h2
  exact decide_eq_true (by omega)
/-! ### calendars -/
structure Cal where
  w : Int
  ms : List Int
  cy : Int
  ls : List Int
  mo : Int
  mr : Int
def iT (l : List Int) : D := .tup (l.map D.int)
def Cal.leap (c : Cal) : D := .tup [.int c.cy, iT c.ls, .int c.mo, .int c.mr]
def Cal.d (c : Cal) : D := .tup [.int c.w, iT c.ms, c.leap]
def ris (l : List Int) : Bool := ((l.zip (l.drop 1)).map fun p => decide (p.1 < p.2)).all id
structure Cal.Ok (c : Cal) : Prop where
  w1 : 1 ≤ c.w
  w2 : c.w ≤ 10
  m1 : 1 ≤ c.ms.length
  m2 : c.ms.length ≤ 4
  mm : ∀ m ∈ c.ms, 1 ≤ m ∧ m ≤ 31
  c1 : 1 ≤ c.cy
  c2 : c.cy ≤ 28
  lr : ris c.ls = true
  ll : ∀ y ∈ c.ls, 0 ≤ y ∧ y < c.cy
  ln : c.ls.length ≤ 28
  o1 : 0 ≤ c.mo
  o2 : c.mo < c.ms.length
  r1 : 1 ≤ c.mr
  r2 : c.mr ≤ 3
variable (R : LRaw T) {c : Cal} {y m : Int}
def lpB (c : Cal) (y : Int) : Bool := decide (y % c.cy ∈ c.ls)
theorem at3 {a b d : D} : L2.atI [a, b, d] 0 = some a ∧ L2.atI [a, b, d] 1 = some b ∧ L2.atI [a, b, d] 2 = some d := ⟨rfl, rfl, rfl⟩
theorem at4 {a b d e : D} : L2.atI [a, b, d, e] 0 = some a ∧ L2.atI [a, b, d, e] 1 = some b ∧ L2.atI [a, b, d, e] 2 = some d ∧ L2.atI [a, b, d, e] 3 = some e := ⟨rfl, rfl, rfl, rfl⟩
include R in
theorem v_raw_is_leap (C : c.Ok) : cf T L (k + 1) "raw_is_leap" [.val c.d, .val (.int y)] o = .ok (.bl (lpB c y)) o := by
  have h : decide (0 < c.cy) = true := decide_eq_true (by have := C.c1; omega)
  refine cf_ok R.raw_is_leap rfl ?_ trunc_ok
  simp only [s_raw_is_leap_1, i_raw_is_leap, exSs, exS, evE, evEs, evAs, evEo, evC, evSrc, evT, frame, getV, getB, Res.ofO, Res.bind, Res.st, SRes.seq, SRes.out, List.getElem?_cons_zero, List.getElem?_cons_succ, List.cons_append, List.nil_append, List.replicate, List.length_cons, List.length_nil, bindT, bindTs, List.set_cons_zero, List.set_cons_succ, frzF, wipeF, setsO, slotF, ownS, Cal.d, Cal.leap, idxD, at3, at4, binD, h, if_true, iT, cmpD, inD_ints, Option.map, lpB]
theorem sumD (l : List Int) : bifD .sum [iT l] = some (.int l.sum) := by
  have z := intsD_map (fun i : Int => i) l
  rw [List.map_id'] at z
  show (intsD (l.map D.int)).map _ = _
  rw [z]
  rfl
include R in
theorem v_raw_year_days (C : c.Ok) : cf T L (k + 2) "raw_year_days" [.val c.d, .val (.int y)] o = .ok (.int (c.ms.sum + if lpB c y then c.mr else 0)) o := by
  refine cf_ok R.raw_year_days rfl ?_ trunc_ok
  have e : (Cal.d c) = .tup [.int c.w, iT c.ms, c.leap] := rfl
  simp only [s_raw_year_days_1, i_raw_year_days, exSs, exS, evE, evEs, evAs, evEo, evC, evSrc, evT, frame, getV, getB, Res.ofO, Res.bind, Res.st, SRes.seq, SRes.out, List.getElem?_cons_zero, List.getElem?_cons_succ, List.cons_append, List.nil_append, List.replicate, List.length_cons, List.length_nil, bindT, bindTs, List.set_cons_zero, List.set_cons_succ, frzF, wipeF, setsO, slotF, ownS, v_raw_is_leap R C]
  simp only [e, Cal.leap, idxD, at3, at4, sumD]
  cases lpB c y <;> rfl
end
end Lib

set_option maxHeartbeats 2000000
/-! K00c: is_calendar of anything. -/
namespace Lib
open PySem Ev
mutual
/-- no shared object within -/
def nQ : D → Bool
  | .obj _ => false
  | .kt _ => false
  | .tup ds => nQs ds
  | .lst ds => nQs ds
  | _ => true
def nQs : List D → Bool
  | [] => true
  | d :: ds => nQ d && nQs ds
end
theorem nQs_mem : ∀ {ds : List D}, nQs ds = true → ∀ d ∈ ds, nQ d = true
  | [], _, d, hd => absurd hd (by simp)
  | a :: ds, h, d, hd => by
    unfold nQs at h
    rw [Bool.and_eq_true] at h
    rcases List.mem_cons.mp hd with rfl | hd
    · exact h.1
    · exact nQs_mem h.2 d hd
theorem nQ_ok {d : D} (h : nQ d = true) : okD d = true := by
  cases d <;> first
    | rfl
    | (unfold nQ at h; cases h)
theorem nQ_tup {ds : List D} (h : nQ (.tup ds) = true) : nQs ds = true := by
  unfold nQ at h
  exact h
section
variable {T : Tab} {L : Nat} (B : LCal T) variable {k : Nat} {o : Objs}
theorem cut1 (l : List D) : cutD l (some 1) none = l.drop 1 := by
  unfold cutD HT.sIx
  cases l with
  | nil => rfl
  | cons a l => simp
theorem cutN (l : List D) (n : Nat) : cutD l none (some (n : Int)) = l.take n := by
  unfold cutD HT.sIx
  have h : ¬ ((n : Int) < 0) := by omega
  simp [h]
theorem zipE {xs ys : List Int} : ((xs.map D.int).zip (ys.map D.int)).map (fun p => D.tup [p.1, p.2]) = (xs.zip ys).map fun p => D.tup [.int p.1, .int p.2] := by
  rw [List.zip_map, List.map_map]
  rfl
theorem len_zip (l : List Int) {α : Type} (f : Int × Int → α) : ((l.zip (l.drop 1)).map f).length ≤ l.length := by
  rw [List.length_map, List.length_zip]
  omega
include B in
theorem v_are_rising (l : List Int) (hl : l.length ≤ sizeLine) : cf T L (k + 1) "are_rising" [.val (iT l)] o = .ok (.bl (ris l)) o := by
  have hc : evE (cf T L k) (cc T L k) T.con T.isa e_are_rising_1 [.val (iT l), .none, .none] o = .ok (.lst ((l.zip (l.drop 1)).map fun p => D.bl (decide (p.1 < p.2)))) o := by
    refine comp_ok (ds := (l.zip (l.drop 1)).map fun p => D.tup [.int p.1, .int p.2]) (o1 := o) ?_ ?_ (Nat.le_trans (len_zip l _) hl)
    · simp only [exSs, exS, evE, evEs, evAs, evEo, evC, evSrc, evT, frame, getV, getB, Res.ofO, Res.bind, Res.st, SRes.seq, SRes.out, List.getElem?_cons_zero, List.getElem?_cons_succ, List.cons_append, List.nil_append, List.replicate, List.length_cons, List.length_nil, bindT, bindTs, List.set_cons_zero, List.set_cons_succ, frzF, wipeF, setsO, slotF, ownS, slcD, iT, cut1, ← List.map_drop, zipE]
    · have z := compL_map (o := o) (f := fun d => match d with
        | .tup [.int a, .int b] => D.bl (decide (a < b))
        | _ => .non) (ds := (l.zip (l.drop 1)).map fun p => D.tup [.int p.1, .int p.2]) (bd := fun d => bindT (.tup [(.name 1), (.name 2)]) d (wipeF [.val (iT l), .none, .none] [1, 2])) (cnd := fun ρ' o' => evC (cf T L k) (cc T L k) T.con T.isa .none ρ' o') (el := fun ρ' o' => evE (cf T L k) (cc T L k) T.con T.isa (.cmp .Lt (.bor 1) (.bor 2)) ρ' o') fun d hd => by
        obtain ⟨p, _, rfl⟩ := List.mem_map.mp hd
        exact ⟨_, rfl, rfl, rfl⟩
      rw [List.map_map] at z
      exact z
  have hb : blsD ((l.zip (l.drop 1)).map fun p => D.bl (decide (p.1 < p.2))) = some ((l.zip (l.drop 1)).map fun p => decide (p.1 < p.2)) := blsD_map _ _
  refine cf_ok B.are_rising rfl ?_ trunc_ok
  simp only [s_are_rising_2, i_are_rising, exSs, exS, evE, evEs, evAs, evEo, evC, evSrc, evT, frame, getV, getB, Res.ofO, Res.bind, Res.st, SRes.seq, SRes.out, List.getElem?_cons_zero, List.getElem?_cons_succ, List.cons_append, List.nil_append, List.replicate, List.length_cons, List.length_nil, bindT, bindTs, List.set_cons_zero, List.set_cons_succ, frzF, wipeF, setsO, slotF, ownS, hc, bifD, hb, Option.map, ris]
theorem ints_of {a b : Int} : ∀ {ds : List D}, ds.all (fun d => wi d a b) = true → ∃ l : List Int, ds = l.map D.int ∧ ∀ i ∈ l, a ≤ i ∧ i ≤ b
  | [], _ => ⟨[], rfl, fun _ h => absurd h (by simp)⟩
  | d :: ds, h => by
    rw [List.all_cons, Bool.and_eq_true] at h
    obtain ⟨l, rfl, hl⟩ := ints_of h.2
    cases d <;> first
      | (cases h.1; done)
      | skip
    rename_i i
    have z : (decide (a ≤ i) && decide (i ≤ b)) = true := h.1
    rw [Bool.and_eq_true, decide_eq_true_eq, decide_eq_true_eq] at z
    refine ⟨i :: l, rfl, fun j hj => ?_⟩
    rcases List.mem_cons.mp hj with rfl | hj
    · exact z
    · exact hl j hj
/-- all are within -/
theorem e_within {F : FnT} {C : CloT} {G : Str → Option D} {is : Str → Str → Bool} {ds : List D} {o : Objs} {a b : Int} (h : nQs ds = true) {bd : D → Option Frm} {cnd : Frm → Objs → Res Bool} {el : Frm → Objs → Res D} (hb : ∀ d ∈ ds, ∃ ρ, bd d = some ρ ∧ cnd ρ o = .ok true o ∧ el ρ o = .ok (.bl (wi d a b)) o) :
    compL bd cnd el ds o = .ok (ds.map fun d => D.bl (wi d a b)) o := compL_map hb
def asI : D → Option Int
  | .int i => some i
  | _ => none
def lotB (d : D) (many : Int) : Bool := match d with
  | .tup ds => ds.all (fun d => wi d 0 (many - 1)) && ris (ds.filterMap asI)
  | _ => false
theorem fm_ints (l : List Int) : (l.map D.int).filterMap asI = l := by
  rw [List.filterMap_map]
  exact List.filterMap_some
include B in
theorem v_is_lot (d : D) (many : Int) (h : nQ d = true) (hl : ∀ ds, d = .tup ds → ds.length ≤ sizeLine) : cf T L (k + 3) "is_lot" [.val d, .val (.int many)] o = .ok (.bl (lotB d many)) o := by
  refine cf_ok B.is_lot rfl ?_ trunc_ok
  cases d with
  | tup ds =>
    have hn := nQ_tup h
    have hc : evE (cf T L (k + 2)) (cc T L (k + 2)) T.con T.isa e_is_lot_1 [.val (.tup ds), .val (.int many), .none] o = .ok (.lst (ds.map fun d => D.bl (wi d 0 (many - 1)))) o := by
      refine comp_ok (ds := ds) (o1 := o) rfl (compL_map fun d hd => ⟨[.val (.tup ds), .val (.int many), .val d], rfl, rfl, ?_⟩) (by rw [List.length_map]; exact hl ds rfl)
      have e : binD .Sub (.int many) (.int 1) = some (.int (many - 1)) := rfl
      simp only [exSs, exS, evE, evEs, evAs, evEo, evC, evSrc, evT, frame, getV, getB, Res.ofO, Res.bind, Res.st, SRes.seq, SRes.out, List.getElem?_cons_zero, List.getElem?_cons_succ, List.cons_append, List.nil_append, List.replicate, List.length_cons, List.length_nil, bindT, bindTs, List.set_cons_zero, List.set_cons_succ, frzF, wipeF, setsO, slotF, ownS, e, v_is_within B d 0 (many - 1) (nQ_ok (nQs_mem hn d hd))]
    have hb : blsD (ds.map fun d => D.bl (wi d 0 (many - 1))) = some (ds.map fun d => wi d 0 (many - 1)) := blsD_map _ _
    have ha : (ds.map fun d => wi d 0 (many - 1)).all id = ds.all fun d => wi d 0 (many - 1) := by
      rw [List.all_map]
      rfl
    have et : isiD (.tup ds) "tuple" = some true := by rfl
    cases q : ds.all fun d => wi d 0 (many - 1) with
    | false =>
      simp only [s_is_lot_2, s_is_lot_3, s_is_lot_4, i_is_lot, exSs, exS, evE, evEs, evAs, evEo, evC, evSrc, evT, frame, getV, getB, Res.ofO, Res.bind, Res.st, SRes.seq, SRes.out, List.getElem?_cons_zero, List.getElem?_cons_succ, List.cons_append, List.nil_append, List.replicate, List.length_cons, List.length_nil, bindT, bindTs, List.set_cons_zero, List.set_cons_succ, frzF, wipeF, setsO, slotF, ownS, hc, bifD, hb, Option.map, ha, q, et, lotB, Bool.not_true, Bool.not_false, Bool.false_and, if_true]
    | true =>
      obtain ⟨l, rfl, _⟩ := ints_of q
      have hr := v_are_rising B (L := L) (k := k + 1) (o := o) l (by have := hl _ rfl; rwa [List.length_map] at this)
      unfold iT at hr
      simp only [s_is_lot_2, s_is_lot_3, s_is_lot_4, i_is_lot, exSs, exS, evE, evEs, evAs, evEo, evC, evSrc, evT, frame, getV, getB, Res.ofO, Res.bind, Res.st, SRes.seq, SRes.out, List.getElem?_cons_zero, List.getElem?_cons_succ, List.cons_append, List.nil_append, List.replicate, List.length_cons, List.length_nil, bindT, bindTs, List.set_cons_zero, List.set_cons_succ, frzF, wipeF, setsO, slotF, ownS, hc, bifD, hb, Option.map, ha, q, et, lotB, Bool.not_true, Bool.not_false, hr, Bool.true_and, fm_ints, Bool.false_eq_true, if_false]
  | obj => cases h
  | kt => cases h
  | _ => rfl
end
end Lib

set_option maxHeartbeats 2000000
/-! K00d: is_calendar of anything; the checks. -/
namespace Lib
open PySem Ev
def toI : D → Int
  | .int i => i
  | _ => 0
/-- no long tuple -/
def smB : D → Bool
  | .tup ds => decide (ds.length ≤ 1000000)
  | _ => true
def sm1 : D → Bool
  | .tup ds => ds.all smB
  | _ => true
theorem smB_le {d : D} (h : smB d = true) : ∀ ds, d = .tup ds → ds.length ≤ sizeLine := fun ds e => by
  subst e
  have z := of_decide_eq_true h
  unfold sizeLine
  omega
theorem wi_int {d : D} {a b : Int} (h : wi d a b = true) : d = .int (toI d) ∧ a ≤ toI d ∧ toI d ≤ b := by
  cases d <;> first
    | (cases h; done)
    | skip
  have z : (decide (a ≤ _) && decide (_ ≤ b)) = true := h
  rw [Bool.and_eq_true, decide_eq_true_eq, decide_eq_true_eq] at z
  exact ⟨rfl, z⟩
def lpR (n : Int) (d : D) : Bool := match d with
  | .tup [a, b, c, e] => (wi a 1 28 && lotB b (toI a)) && (wi c 0 (n - 1) && wi e 1 3)
  | _ => false
theorem sz4 {ds : List D} (h : szT (.tup ds) 4 4 = true) : ∃ a b c e, ds = [a, b, c, e] := by
  have z : (decide ((4 : Int) ≤ ds.length) && decide ((ds.length : Int) ≤ 4)) = true := h
  rw [Bool.and_eq_true, decide_eq_true_eq, decide_eq_true_eq] at z
  match ds, z with
  | [a, b, c, e], _ => exact ⟨a, b, c, e, rfl⟩
  | [], z => simp at z
  | [_], z => simp at z
  | [_, _], z => simp at z
  | [_, _, _], z => simp at z
  | _ :: _ :: _ :: _ :: _ :: _, z => simp only [List.length_cons] at z; omega
theorem sz3 {ds : List D} (h : szT (.tup ds) 3 3 = true) : ∃ a b c, ds = [a, b, c] := by
  have z : (decide ((3 : Int) ≤ ds.length) && decide ((ds.length : Int) ≤ 3)) = true := h
  rw [Bool.and_eq_true, decide_eq_true_eq, decide_eq_true_eq] at z
  match ds, z with
  | [a, b, c], _ => exact ⟨a, b, c, rfl⟩
  | [], z => simp at z
  | [_], z => simp at z
  | [_, _], z => simp at z
  | _ :: _ :: _ :: _ :: _, z => simp only [List.length_cons] at z; omega
section
variable {T : Tab} {L : Nat} (B : LCal T) variable {k : Nat} {o : Objs}
include B in
theorem v_is_leap_rule (n : Int) (d : D) (h : nQ d = true) (hm : sm1 d = true) : cf T L (k + 4) "is_leap_rule" [.val (.int n), .val d] o = .ok (.bl (lpR n d)) o := by
  have hz := v_is_sized B (L := L) (k := k + 2) (o := o) d 4 4 (nQ_ok h)
  have cn := B.c_c
  have cm := B.c_mo
  refine cf_ok B.is_leap_rule rfl ?_ trunc_ok
  cases q : szT d 4 4 with
  | false =>
    rw [q] at hz
    have e : lpR n d = false := by
      unfold lpR
      split
      · exact absurd q (by simp [szT])
      · rfl
    simp only [s_is_leap_rule_1, s_is_leap_rule_2, s_is_leap_rule_3, i_is_leap_rule, exSs, exS, evE, evEs, evAs, evEo, evC, evSrc, evT, frame, getV, getB, Res.ofO, Res.bind, Res.st, SRes.seq, SRes.out, List.getElem?_cons_zero, List.getElem?_cons_succ, List.cons_append, List.nil_append, List.replicate, List.length_cons, List.length_nil, bindT, bindTs, List.set_cons_zero, List.set_cons_succ, frzF, wipeF, setsO, slotF, ownS, hz, Bool.not_false, if_true, e]
  | true =>
    rw [q] at hz
    cases d with
    | tup ds =>
      obtain ⟨a, b, c, e, rfl⟩ := sz4 q
      have hn := nQs_mem (nQ_tup h)
      have na := hn a (by simp)
      have nb := hn b (by simp)
      have nc := hn c (by simp)
      have ne := hn e (by simp)
      have m4 : smB b = true := List.all_eq_true.mp hm b (by simp)
      have h1 := v_is_within B (L := L) (k := k + 1) (o := o) a 1 28 (nQ_ok na)
      have h3 := v_is_within B (L := L) (k := k + 1) (o := o) c 0 (n - 1) (nQ_ok nc)
      have h4 := v_is_within B (L := L) (k := k + 1) (o := o) e 1 3 (nQ_ok ne)
      have es : binD .Sub (.int n) (.int 1) = some (.int (n - 1)) := rfl
      cases q1 : wi a 1 28 with
      | false =>
        rw [q1] at h1
        simp only [s_is_leap_rule_1, s_is_leap_rule_2, s_is_leap_rule_3, i_is_leap_rule, exSs, exS, evE, evEs, evAs, evEo, evC, evSrc, evT, frame, getV, getB, Res.ofO, Res.bind, Res.st, SRes.seq, SRes.out, List.getElem?_cons_zero, List.getElem?_cons_succ, List.cons_append, List.nil_append, List.replicate, List.length_cons, List.length_nil, bindT, bindTs, List.set_cons_zero, List.set_cons_succ, frzF, wipeF, setsO, slotF, ownS, hz, Bool.not_false, Bool.not_true, if_true, idxD, at4, cn, h1, lpR, q1, Bool.false_and]
      | true =>
        rw [q1] at h1
        obtain ⟨ea, _, _⟩ := wi_int q1
        have h2 := v_is_lot B (L := L) (k := k) (o := o) b (toI a) nb (smB_le m4)
        rw [← ea] at h2
        cases q2 : lotB b (toI a) with
        | false =>
          rw [q2] at h2
          simp only [s_is_leap_rule_1, s_is_leap_rule_2, s_is_leap_rule_3, i_is_leap_rule, exSs, exS, evE, evEs, evAs, evEo, evC, evSrc, evT, frame, getV, getB, Res.ofO, Res.bind, Res.st, SRes.seq, SRes.out, List.getElem?_cons_zero, List.getElem?_cons_succ, List.cons_append, List.nil_append, List.replicate, List.length_cons, List.length_nil, bindT, bindTs, List.set_cons_zero, List.set_cons_succ, frzF, wipeF, setsO, slotF, ownS, hz, Bool.not_false, Bool.not_true, if_true, idxD, at4, cn, h1, h2, lpR, q1, q2, Bool.false_and, Bool.and_false]
        | true =>
          rw [q2] at h2
          cases q3 : wi c 0 (n - 1) with
          | false =>
            rw [q3] at h3
            simp only [s_is_leap_rule_1, s_is_leap_rule_2, s_is_leap_rule_3, i_is_leap_rule, exSs, exS, evE, evEs, evAs, evEo, evC, evSrc, evT, frame, getV, getB, Res.ofO, Res.bind, Res.st, SRes.seq, SRes.out, List.getElem?_cons_zero, List.getElem?_cons_succ, List.cons_append, List.nil_append, List.replicate, List.length_cons, List.length_nil, bindT, bindTs, List.set_cons_zero, List.set_cons_succ, frzF, wipeF, setsO, slotF, ownS, hz, Bool.not_false, Bool.not_true, Bool.false_eq_true, if_false, idxD, at4, cn, cm, h1, h2, h3, es, lpR, q1, q2, q3, Bool.false_and, Bool.and_false]
          | true =>
            rw [q3] at h3
            simp only [s_is_leap_rule_1, s_is_leap_rule_2, s_is_leap_rule_3, i_is_leap_rule, exSs, exS, evE, evEs, evAs, evEo, evC, evSrc, evT, frame, getV, getB, Res.ofO, Res.bind, Res.st, SRes.seq, SRes.out, List.getElem?_cons_zero, List.getElem?_cons_succ, List.cons_append, List.nil_append, List.replicate, List.length_cons, List.length_nil, bindT, bindTs, List.set_cons_zero, List.set_cons_succ, frzF, wipeF, setsO, slotF, ownS, hz, Bool.not_false, Bool.not_true, Bool.false_eq_true, if_false, idxD, at4, cn, cm, h1, h2, h3, h4, es, lpR, q1, q2, q3, Bool.true_and]
    | _ => cases q
end
end Lib

set_option maxHeartbeats 2000000
/-! K00e: is_calendar of anything; the checks. -/
namespace Lib
open PySem Ev
def itm : D → List D
  | .tup ds => ds
  | _ => []
def calB (d : D) : Bool := match d with
  | .tup [a, b, c] => (wi a 1 10 && szT b 1 12) && (((itm b).all fun m => wi m 1 31) && lpR ((itm b).length : Int) c)
  | _ => false
/-- no long tuple, deeper -/
def sm2 : D → Bool
  | .tup ds => ds.all fun x => smB x && sm1 x
  | _ => true
section
variable {T : Tab} {L : Nat} (B : LCal T) variable {k : Nat} {o : Objs}
include B in
theorem v_is_calendar (d : D) (h : nQ d = true) (hm : sm2 d = true) : cf T L (k + 5) "is_calendar" [.val d] o = .ok (.bl (calB d)) o := by
  have hz := v_is_sized B (L := L) (k := k + 3) (o := o) d 3 3 (nQ_ok h)
  have g1 := B.c_w
  have g2 := B.c_ms
  have g3 := B.c_m
  refine cf_ok B.is_calendar rfl ?_ trunc_ok
  cases q : szT d 3 3 with
  | false =>
    rw [q] at hz
    have e : calB d = false := by
      unfold calB
      split
      · exact absurd q (by simp [szT])
      · rfl
    simp only [s_is_calendar_1, s_is_calendar_2, s_is_calendar_4, s_is_calendar_5, s_is_calendar_6, i_is_calendar, exSs, exS, evE, evEs, evAs, evEo, evC, evSrc, evT, frame, getV, getB, Res.ofO, Res.bind, Res.st, SRes.seq, SRes.out, List.getElem?_cons_zero, List.getElem?_cons_succ, List.cons_append, List.nil_append, List.replicate, List.length_cons, List.length_nil, bindT, bindTs, List.set_cons_zero, List.set_cons_succ, frzF, wipeF, setsO, slotF, ownS, hz, Bool.not_false, if_true, e]
  | true =>
    rw [q] at hz
    cases d with
    | tup ds =>
      obtain ⟨a, b, c, rfl⟩ := sz3 q
      have hn := nQs_mem (nQ_tup h)
      have na := hn a (by simp)
      have nb := hn b (by simp)
      have nc := hn c (by simp)
      have mb := List.all_eq_true.mp hm b (by simp)
      have mc := List.all_eq_true.mp hm c (by simp)
      rw [Bool.and_eq_true] at mb mc
      have h1 := v_is_within B (L := L) (k := k + 2) (o := o) a 1 10 (nQ_ok na)
      have h2 := v_is_sized B (L := L) (k := k + 3) (o := o) b 1 12 (nQ_ok nb)
      cases q1 : wi a 1 10 with
      | false =>
        rw [q1] at h1
        simp only [s_is_calendar_1, s_is_calendar_2, s_is_calendar_4, s_is_calendar_5, s_is_calendar_6, i_is_calendar, exSs, exS, evE, evEs, evAs, evEo, evC, evSrc, evT, frame, getV, getB, Res.ofO, Res.bind, Res.st, SRes.seq, SRes.out, List.getElem?_cons_zero, List.getElem?_cons_succ, List.cons_append, List.nil_append, List.replicate, List.length_cons, List.length_nil, bindT, bindTs, List.set_cons_zero, List.set_cons_succ, frzF, wipeF, setsO, slotF, ownS, hz, Bool.not_false, Bool.not_true, if_true, idxD, at3, g1, h1, calB, q1, Bool.false_and]
      | true =>
        rw [q1] at h1
        cases q2 : szT b 1 12 with
        | false =>
          rw [q2] at h2
          simp only [s_is_calendar_1, s_is_calendar_2, s_is_calendar_4, s_is_calendar_5, s_is_calendar_6, i_is_calendar, exSs, exS, evE, evEs, evAs, evEo, evC, evSrc, evT, frame, getV, getB, Res.ofO, Res.bind, Res.st, SRes.seq, SRes.out, List.getElem?_cons_zero, List.getElem?_cons_succ, List.cons_append, List.nil_append, List.replicate, List.length_cons, List.length_nil, bindT, bindTs, List.set_cons_zero, List.set_cons_succ, frzF, wipeF, setsO, slotF, ownS, hz, Bool.not_false, Bool.not_true, if_true, idxD, at3, g1, g2, h1, h2, calB, q1, q2, Bool.false_and, Bool.and_false]
        | true =>
          rw [q2] at h2
          cases b with
          | tup ms =>
            have hms := nQs_mem (nQ_tup nb)
            have lms : ms.length ≤ sizeLine := smB_le mb.1 ms rfl
            have hc : evE (cf T L (k + 4)) (cc T L (k + 4)) T.con T.isa e_is_calendar_3 [.val (.tup [a, .tup ms, c]), .none] o = .ok (.lst (ms.map fun d => D.bl (wi d 1 31))) o := by
              refine comp_ok (ds := ms) (o1 := o) rfl (compL_map fun d hd => ⟨[.val (.tup [a, .tup ms, c]), .val d], rfl, rfl, ?_⟩) (by rw [List.length_map]; exact lms)
              simp only [exSs, exS, evE, evEs, evAs, evEo, evC, evSrc, evT, frame, getV, getB, Res.ofO, Res.bind, Res.st, SRes.seq, SRes.out, List.getElem?_cons_zero, List.getElem?_cons_succ, List.cons_append, List.nil_append, List.replicate, List.length_cons, List.length_nil, bindT, bindTs, List.set_cons_zero, List.set_cons_succ, frzF, wipeF, setsO, slotF, ownS, g3, v_is_within B d 1 31 (nQ_ok (hms d hd))]
            have hb : blsD (ms.map fun d => D.bl (wi d 1 31)) = some (ms.map fun d => wi d 1 31) := blsD_map _ _
            have ha : (ms.map fun d => wi d 1 31).all id = ms.all fun d => wi d 1 31 := by
              rw [List.all_map]
              rfl
            have h5 := v_is_leap_rule B (L := L) (k := k) (o := o) (ms.length : Int) c nc mc.2
            cases q3 : ms.all fun d => wi d 1 31 with
            | false =>
              simp only [s_is_calendar_1, s_is_calendar_2, s_is_calendar_4, s_is_calendar_5, s_is_calendar_6, i_is_calendar, exSs, exS, evE, evEs, evAs, evEo, evC, evSrc, evT, frame, getV, getB, Res.ofO, Res.bind, Res.st, SRes.seq, SRes.out, List.getElem?_cons_zero, List.getElem?_cons_succ, List.cons_append, List.nil_append, List.replicate, List.length_cons, List.length_nil, bindT, bindTs, List.set_cons_zero, List.set_cons_succ, frzF, wipeF, setsO, slotF, ownS, hz, Bool.not_false, Bool.not_true, if_true, Bool.false_eq_true, if_false, idxD, at3, g1, g2, h1, h2, hc, bifD, hb, Option.map, ha, q3, calB, q1, q2, itm, Bool.false_and, Bool.and_false]
            | true =>
              simp only [s_is_calendar_1, s_is_calendar_2, s_is_calendar_4, s_is_calendar_5, s_is_calendar_6, i_is_calendar, exSs, exS, evE, evEs, evAs, evEo, evC, evSrc, evT, frame, getV, getB, Res.ofO, Res.bind, Res.st, SRes.seq, SRes.out, List.getElem?_cons_zero, List.getElem?_cons_succ, List.cons_append, List.nil_append, List.replicate, List.length_cons, List.length_nil, bindT, bindTs, List.set_cons_zero, List.set_cons_succ, frzF, wipeF, setsO, slotF, ownS, hz, Bool.not_false, Bool.not_true, if_true, Bool.false_eq_true, if_false, idxD, at3, g1, g2, h1, h2, hc, bifD, hb, Option.map, ha, q3, calB, q1, q2, itm, h5, Bool.true_and]
          | _ => cases q2
    | _ => cases q
def isN : D → Bool
  | .int i => decide (0 ≤ i)
  | _ => false
include B in
theorem v_is_number (d : D) (h : okD d = true) : cf T L (k + 2) "is_number" [.val d] o = .ok (.bl (isN d)) o := by
  refine cf_ok B.is_number rfl ?_ trunc_ok
  simp only [s_is_number_1, i_is_number, exSs, exS, evE, evEs, evAs, evEo, evC, evSrc, evT, frame, getV, getB, Res.ofO, Res.bind, Res.st, SRes.seq, SRes.out, List.getElem?_cons_zero, List.getElem?_cons_succ, List.cons_append, List.nil_append, List.replicate, List.length_cons, List.length_nil, bindT, bindTs, List.set_cons_zero, List.set_cons_succ, frzF, wipeF, setsO, slotF, ownS, v_is_integer B d h]
  cases d <;> first
    | (cases h; done)
    | rfl
include B in
theorem v_check_calendar (d : D) (h : nQ d = true) (hm : sm2 d = true) : cf T L (k + 6) "check_calendar" [.val d] o = if calB d then .ok .non o else .err "NoCalendar" [] o := by
  refine cf_ok B.check_calendar rfl ?_ (by repeat' (first | exact trunc_ok | exact trunc_err | split))
  simp only [s_check_calendar_1, s_check_calendar_2, i_check_calendar, exSs, exS, evE, evEs, evAs, evEo, evC, evSrc, evT, frame, getV, getB, Res.ofO, Res.bind, Res.st, SRes.seq, SRes.out, List.getElem?_cons_zero, List.getElem?_cons_succ, List.cons_append, List.nil_append, List.replicate, List.length_cons, List.length_nil, bindT, bindTs, List.set_cons_zero, List.set_cons_succ, frzF, wipeF, setsO, slotF, ownS, v_is_calendar B d h hm]
  cases calB d <;> rfl
include B in
end
end Lib

set_option maxHeartbeats 2000000
/-! W: what expressions and statements come to, by rules. -/
namespace Lib
open PySem Ev
section
variable (F : FnT) (C : CloT) (G : Str → Option D) (is : Str → Str → Bool) (L : Nat)
structure WE (e : IE) (ρ : Frm) (o : Objs) (Q : D → Objs → Prop) : Prop where
  p : ∃ d o', evE F C G is e ρ o = .ok d o' ∧ Q d o'
structure WEs (e : IEs) (ρ : Frm) (o : Objs) (Q : List D → Objs → Prop) : Prop where
  p : ∃ d o', evEs F C G is e ρ o = .ok d o' ∧ Q d o'
structure WAs (e : IAs) (ρ : Frm) (o : Objs) (Q : List Slot → Objs → Prop) : Prop where
  p : ∃ d o', evAs F C G is e ρ o = .ok d o' ∧ Q d o'
structure WEo (e : IEo) (ρ : Frm) (o : Objs) (Q : Option Int → Objs → Prop) : Prop where
  p : ∃ d o', evEo F C G is e ρ o = .ok d o' ∧ Q d o'
structure WC (e : IEo) (ρ : Frm) (o : Objs) (Q : Bool → Objs → Prop) : Prop where
  p : ∃ d o', evC F C G is e ρ o = .ok d o' ∧ Q d o'
structure WT (e : IE) (ρ : Frm) (o : Objs) (Q : Bool → Objs → Prop) : Prop where
  p : ∃ d o', evT F C G is e ρ o = .ok d o' ∧ Q d o'
structure WR (e : ISrc) (ρ : Frm) (o : Objs) (Q : List D → Objs → Prop) : Prop where
  p : ∃ d o', evSrc F C G is e ρ o = .ok d o' ∧ Q d o'
/-- an operator's answer -/
structure G1 (x : Option D) (P : D → Prop) : Prop where
  p : ∃ d, x = some d ∧ P d
/-- two ways -/
structure IfG (c : Bool) (A B : Prop) : Prop where
  t : c = true → A
  f : c = false → B
/-- statements: on to what is behind, or an answer -/
def WSr (r : SRes) (N : Frm → Objs → Prop) (R : D → Objs → Prop) : Prop := match r with
  | .nx ρ o => N ρ o
  | .ret d o => R d o
  | _ => False
structure WS (s : IS) (ρ : Frm) (o : Objs) (N : Frm → Objs → Prop) (R : D → Objs → Prop) : Prop where
  p : WSr (exS F C G is L s ρ o) N R
structure WSs (s : ISs) (ρ : Frm) (o : Objs) (N : Frm → Objs → Prop) (R : D → Objs → Prop) : Prop where
  p : WSr (exSs F C G is L s ρ o) N R
end
section
variable {F : FnT} {C : CloT} {G : Str → Option D} {is : Str → Str → Bool} {L : Nat} {ρ : Frm} {o : Objs}
section
variable {Q : D → Objs → Prop}
theorem we_imp {e : IE} {P : D → Objs → Prop} (h : WE F C G is e ρ o P) (i : ∀ d o', P d o' → Q d o') : WE F C G is e ρ o Q := by
  obtain ⟨d, o', h1, h2⟩ := h
  exact ⟨d, o', h1, i d o' h2⟩
theorem we_of {e : IE} {d : D} {o' : Objs} (h : evE F C G is e ρ o = .ok d o') (q : Q d o') : WE F C G is e ρ o Q := ⟨d, o', h, q⟩
theorem we_non (h : Q .non o) : WE F C G is .non ρ o Q := ⟨_, _, by unfold evE; rfl, h⟩
theorem we_bl {b : Bool} (h : Q (.bl b) o) : WE F C G is (.bl b) ρ o Q := ⟨_, _, by unfold evE; rfl, h⟩
theorem we_int {b : Int} (h : Q (.int b) o) : WE F C G is (.int b) ρ o Q := ⟨_, _, by unfold evE; rfl, h⟩
theorem we_str {b : Str} (h : Q (.str b) o) : WE F C G is (.str b) ρ o Q := ⟨_, _, by unfold evE; rfl, h⟩
theorem we_var {i : Nat} {d : D} (h : getV ρ i = some d) (q : Q d o) : WE F C G is (.var i) ρ o Q := ⟨d, o, by unfold evE; rw [h]; rfl, q⟩
theorem we_bor {i : Nat} {d : D} (h : getB ρ i = some d) (q : Q d o) : WE F C G is (.bor i) ρ o Q := ⟨d, o, by unfold evE; rw [h]; rfl, q⟩
theorem we_glob {x : Str} {d : D} (h : globD G x = some d) (q : Q d o) : WE F C G is (.glob x) ρ o Q := ⟨d, o, by unfold evE; rw [h]; rfl, q⟩
theorem we_dnew (h : Q (.dct [] []) o) : WE F C G is .dnew ρ o Q := ⟨_, _, by unfold evE; rfl, h⟩
theorem wes_nil {Q : List D → Objs → Prop} (h : Q [] o) : WEs F C G is .nil ρ o Q := ⟨_, _, by unfold evEs; rfl, h⟩
theorem wes_cons {e : IE} {r : IEs} {Q : List D → Objs → Prop} (h : WE F C G is e ρ o fun d o1 => WEs F C G is r ρ o1 fun ds o2 => Q (d :: ds) o2) : WEs F C G is (.cons e r) ρ o Q := by
  obtain ⟨d, o1, h1, ds, o2, h2, h3⟩ := h
  exact ⟨_, _, by unfold evEs; rw [h1]; show (evEs F C G is r ρ o1).bind _ = _; rw [h2]; rfl, h3⟩
theorem was_nil {Q : List Slot → Objs → Prop} (h : Q [] o) : WAs F C G is .nil ρ o Q := ⟨_, _, by unfold evAs; rfl, h⟩
theorem was_val {e : IE} {r : IAs} {Q : List Slot → Objs → Prop} (h : WE F C G is e ρ o fun d o1 => WAs F C G is r ρ o1 fun ds o2 => Q (.val d :: ds) o2) : WAs F C G is (.val e r) ρ o Q := by
  obtain ⟨d, o1, h1, ds, o2, h2, h3⟩ := h
  exact ⟨_, _, by unfold evAs; rw [h1]; show (evAs F C G is r ρ o1).bind _ = _; rw [h2]; rfl, h3⟩
theorem was_lam {np nl : Nat} {b : IE} {cap : List Nat} {cs : List D} {r : IAs} {Q : List Slot → Objs → Prop} (h : cap.mapM (getV ρ) = some cs) (q : WAs F C G is r ρ o fun ds o2 => Q (.clo np nl b cs :: ds) o2) : WAs F C G is (.lam np nl b cap r) ρ o Q := by
  obtain ⟨ds, o2, h2, h3⟩ := q
  exact ⟨_, _, by unfold evAs; rw [h]; show (evAs F C G is r ρ o).bind _ = _; rw [h2]; rfl, h3⟩
theorem we_tup {es : IEs} (h : WEs F C G is es ρ o fun ds o1 => ds.length ≤ sizeLine ∧ Q (.tup ds) o1) : WE F C G is (.tup es) ρ o Q := by
  obtain ⟨ds, o1, h1, h2, h3⟩ := h
  exact ⟨_, _, by unfold evE; rw [h1]; exact if_pos (decide_eq_true h2), h3⟩
theorem we_lst {es : IEs} (h : WEs F C G is es ρ o fun ds o1 => ds.length ≤ sizeLine ∧ Q (.lst ds) o1) : WE F C G is (.lst es) ρ o Q := by
  obtain ⟨ds, o1, h1, h2, h3⟩ := h
  exact ⟨_, _, by unfold evE; rw [h1]; exact if_pos (decide_eq_true h2), h3⟩
theorem we_bin {op : Operator} {a b : IE} (h : WE F C G is a ρ o fun x o1 => WE F C G is b ρ o1 fun y o2 => G1 (binD op x y) fun d => Q d o2) : WE F C G is (.bin op a b) ρ o Q := by
  obtain ⟨x, o1, h1, y, o2, h2, ⟨d, h3, h4⟩⟩ := h
  exact ⟨d, o2, by unfold evE; rw [h1]; show (evE F C G is b ρ o1).bind _ = _; rw [h2]; show Res.ofO (binD op x y) o2 = _; rw [h3]; rfl, h4⟩
theorem we_neg {a : IE} (h : WE F C G is a ρ o fun x o1 => G1 (negD x) fun d => Q d o1) : WE F C G is (.neg a) ρ o Q := by
  obtain ⟨x, o1, h1, d, h3, h4⟩ := h
  exact ⟨d, o1, by unfold evE; rw [h1]; show Res.ofO (negD x) o1 = _; rw [h3]; rfl, h4⟩
theorem we_not {a : IE} (h : WE F C G is a ρ o fun x o1 => ∃ b, x = .bl b ∧ Q (.bl (!b)) o1) : WE F C G is (.not a) ρ o Q := by
  obtain ⟨x, o1, h1, b, rfl, h4⟩ := h
  exact ⟨_, o1, by unfold evE; rw [h1]; rfl, h4⟩
theorem we_and {a b : IE} (h : WE F C G is a ρ o fun x o1 => ∃ c, x = .bl c ∧ IfG c (WE F C G is b ρ o1 Q) (Q (.bl false) o1)) : WE F C G is (.and a b) ρ o Q := by
  obtain ⟨x, o1, h1, c, rfl, ⟨h3, h4⟩⟩ := h
  cases c with
  | false => exact ⟨_, o1, by unfold evE; rw [h1]; rfl, h4 rfl⟩
  | true =>
    obtain ⟨y, o2, h5, h6⟩ := h3 rfl
    exact ⟨y, o2, by unfold evE; rw [h1]; exact h5, h6⟩
theorem we_or {a b : IE} (h : WE F C G is a ρ o fun x o1 => ∃ c, x = .bl c ∧ IfG c (Q (.bl true) o1) (WE F C G is b ρ o1 Q)) : WE F C G is (.or a b) ρ o Q := by
  obtain ⟨x, o1, h1, c, rfl, ⟨h3, h4⟩⟩ := h
  cases c with
  | true => exact ⟨_, o1, by unfold evE; rw [h1]; rfl, h3 rfl⟩
  | false =>
    obtain ⟨y, o2, h5, h6⟩ := h4 rfl
    exact ⟨y, o2, by unfold evE; rw [h1]; exact h5, h6⟩
theorem we_cmp {op : CmpOp} {a b : IE} (h : WE F C G is a ρ o fun x o1 => WE F C G is b ρ o1 fun y o2 => G1 (cmpD op x y) fun d => Q d o2) : WE F C G is (.cmp op a b) ρ o Q := by
  obtain ⟨x, o1, h1, y, o2, h2, ⟨d, h3, h4⟩⟩ := h
  exact ⟨d, o2, by unfold evE; rw [h1]; show (evE F C G is b ρ o1).bind _ = _; rw [h2]; show Res.ofO (cmpD op x y) o2 = _; rw [h3]; rfl, h4⟩
theorem we_chain {op op' : CmpOp} {a b c : IE} (h : WE F C G is a ρ o fun x o1 => WE F C G is b ρ o1 fun y o2 => ∃ q, cmpD op x y = some (.bl q) ∧ IfG q (WE F C G is c ρ o2 fun z o3 => G1 (cmpD op' y z) fun d => Q d o3) (Q (.bl false) o2)) : WE F C G is (.chain op op' a b c) ρ o Q := by
  obtain ⟨x, o1, h1, y, o2, h2, q, h3, ⟨h4, h5⟩⟩ := h
  cases q with
  | false =>
    exact ⟨_, o2, by unfold evE; rw [h1]; show (evE F C G is b ρ o1).bind _ = _; rw [h2]; simp only [Res.bind, h3], h5 rfl⟩
  | true =>
    obtain ⟨z, o3, h6, ⟨d, h7, h8⟩⟩ := h4 rfl
    exact ⟨d, o3, by unfold evE; rw [h1]; show (evE F C G is b ρ o1).bind _ = _; rw [h2]; simp only [Res.bind, h3, h6, h7]; rfl, h8⟩
theorem we_ite {t a b : IE} (h : WE F C G is t ρ o fun x o1 => ∃ c, x = .bl c ∧ IfG c (WE F C G is a ρ o1 Q) (WE F C G is b ρ o1 Q)) : WE F C G is (.ite t a b) ρ o Q := by
  obtain ⟨x, o1, h1, c, rfl, ⟨h3, h4⟩⟩ := h
  cases c with
  | true =>
    obtain ⟨y, o2, h5, h6⟩ := h3 rfl
    exact ⟨y, o2, by unfold evE; rw [h1]; exact h5, h6⟩
  | false =>
    obtain ⟨y, o2, h5, h6⟩ := h4 rfl
    exact ⟨y, o2, by unfold evE; rw [h1]; exact h5, h6⟩
/-- x[i], x no shared object -/
theorem we_idx {a i : IE} (h : WE F C G is a ρ o fun x o1 => WE F C G is i ρ o1 fun y o2 => G1 (idxD x y) fun d => Q d o2) : WE F C G is (.idx a i) ρ o Q := by
  obtain ⟨x, o1, h1, y, o2, h2, ⟨d, h3, h4⟩⟩ := h
  refine ⟨d, o2, ?_, h4⟩
  unfold evE
  rw [h1]
  show (evE F C G is i ρ o1).bind _ = _
  rw [h2]
  cases x <;> first
    | (cases h3; done)
    | (show Res.ofO (idxD _ y) o2 = _; rw [h3]; rfl)
/-- x[i], x a shared object -/
theorem we_idxo {a i : IE} (h : WE F C G is a ρ o fun x o1 => WE F C G is i ρ o1 fun y o2 => ∃ k so d, x = .obj k ∧ o2[k]? = some so ∧ getO so y = some d ∧ Q d o2) : WE F C G is (.idx a i) ρ o Q := by
  obtain ⟨x, o1, h1, y, o2, h2, k, so, d, rfl, h3, h5, h4⟩ := h
  refine ⟨d, o2, ?_, h4⟩
  unfold evE
  rw [h1]
  show (evE F C G is i ρ o1).bind _ = _
  rw [h2]
  simp only [Res.bind, h3, h5]
  rfl
theorem weo_none {Q : Option Int → Objs → Prop} (h : Q none o) : WEo F C G is .none ρ o Q := ⟨_, _, by unfold evEo; rfl, h⟩
theorem weo_some {e : IE} {Q : Option Int → Objs → Prop} (h : WE F C G is e ρ o fun d o1 => ∃ i, d = .int i ∧ Q (some i) o1) : WEo F C G is (.some e) ρ o Q := by
  obtain ⟨d, o1, h1, i, rfl, h2⟩ := h
  exact ⟨_, o1, by unfold evEo; rw [h1]; rfl, h2⟩
theorem we_slc {a : IE} {lo hi : IEo} (h : WE F C G is a ρ o fun x o1 => WEo F C G is lo ρ o1 fun l o2 => WEo F C G is hi ρ o2 fun u o3 => G1 (slcD x l u) fun d => Q d o3) : WE F C G is (.slc a lo hi) ρ o Q := by
  obtain ⟨x, o1, h1, l, o2, h2, u, o3, h3, ⟨d, h4, h5⟩⟩ := h
  exact ⟨d, o3, by unfold evE; rw [h1]; show (evEo F C G is lo ρ o1).bind _ = _; rw [h2]; show (evEo F C G is hi ρ o2).bind _ = _; rw [h3]; show Res.ofO (slcD x l u) o3 = _; rw [h4]; rfl, h5⟩
theorem we_call {f : Str} {as : IAs} (h : WAs F C G is as ρ o fun sl o1 => ∃ d o2, F f sl o1 = .ok d o2 ∧ Q d o2) : WE F C G is (.call f as) ρ o Q := by
  obtain ⟨sl, o1, h1, d, o2, h2, h3⟩ := h
  exact ⟨d, o2, by unfold evE; rw [h1]; exact h2, h3⟩
theorem we_callv {i np nl : Nat} {b : IE} {cap : List D} {as : IEs} (g : ρ[i]? = some (.clo np nl b cap)) (h : WEs F C G is as ρ o fun ds o1 => ∃ d o2, C np nl b cap ds o1 = .ok d o2 ∧ Q d o2) : WE F C G is (.callv i as) ρ o Q := by
  obtain ⟨sl, o1, h1, d, o2, h2, h3⟩ := h
  exact ⟨d, o2, by unfold evE; simp only [g, h1, Res.bind, h2], h3⟩
theorem we_bif {f : Bif} {as : IEs} (h : WEs F C G is as ρ o fun ds o1 => G1 (bifD f ds) fun d => Q d o1) : WE F C G is (.bif f as) ρ o Q := by
  obtain ⟨sl, o1, h1, d, h2, h3⟩ := h
  exact ⟨d, o1, by unfold evE; rw [h1]; show Res.ofO (bifD f sl) o1 = _; rw [h2]; rfl, h3⟩
theorem we_isi {a : IE} {ty : String} (h : WE F C G is a ρ o fun x o1 => ∃ b, isiD x ty = some b ∧ Q (D.bl b) o1) : WE F C G is (.isi a ty) ρ o Q := by
  obtain ⟨x, o1, h1, d, h3, h4⟩ := h
  exact ⟨_, o1, by unfold evE; rw [h1]; show Res.ofO ((isiD x ty).map D.bl) o1 = _; rw [h3]; rfl, h4⟩
theorem we_rev {a : IE} (h : WE F C G is a ρ o fun x o1 => ∃ ds, x = .lst ds ∧ Q (.lst ds.reverse) o1) : WE F C G is (.rev a) ρ o Q := by
  obtain ⟨x, o1, h1, d, rfl, h4⟩ := h
  exact ⟨_, o1, by unfold evE; rw [h1]; rfl, h4⟩
theorem we_gin {n : Bool} {a : IE} {g : Str} {t : D} (e : G g = some t) (h : WE F C G is a ρ o fun x o1 => ∃ d, ginD n x t = some d ∧ Q d o1) : WE F C G is (.gin n a g) ρ o Q := by
  obtain ⟨x, o1, h1, d, h3, h4⟩ := h
  exact ⟨_, o1, by unfold evE; simp only [e, h1, Res.bind, h3]; rfl, h4⟩
theorem we_gidx {a : IE} {g : Str} {t : D} (e : G g = some t) (h : WE F C G is a ρ o fun x o1 => ∃ d, gidxD x t = some d ∧ Q d o1) : WE F C G is (.gidx g a) ρ o Q := by
  obtain ⟨x, o1, h1, d, h3, h4⟩ := h
  exact ⟨_, o1, by unfold evE; simp only [e, h1, Res.bind, h3]; rfl, h4⟩
theorem we_gget {a b : IE} {g : Str} {t : D} (e : G g = some t) (h : WE F C G is a ρ o fun x o1 => WE F C G is b ρ o1 fun y o2 => ∃ d, ggetD x y t = some d ∧ Q d o2) : WE F C G is (.gget g a b) ρ o Q := by
  obtain ⟨x, o1, h1, y, o2, h2, ⟨d, h3, h4⟩⟩ := h
  exact ⟨_, o2, by unfold evE; simp only [e, h1, Res.bind, h2, h3]; rfl, h4⟩
theorem wc_none {Q : Bool → Objs → Prop} (h : Q true o) : WC F C G is .none ρ o Q := ⟨_, _, by unfold evC; rfl, h⟩
theorem wc_some {e : IE} {Q : Bool → Objs → Prop} (h : WE F C G is e ρ o fun d o1 => ∃ b, d = D.bl b ∧ Q b o1) : WC F C G is (.some e) ρ o Q := by
  obtain ⟨d, o1, h1, b, rfl, h2⟩ := h
  exact ⟨_, o1, by unfold evC; rw [h1]; rfl, h2⟩
theorem wt {e : IE} {Q : Bool → Objs → Prop} (h : WE F C G is e ρ o fun d o1 => ∃ b, d = .bl b ∧ Q b o1) : WT F C G is e ρ o Q := by
  obtain ⟨d, o1, h1, b, rfl, h2⟩ := h
  exact ⟨_, o1, by unfold evT; rw [h1]; rfl, h2⟩
/-! what a walk goes through -/
theorem wr_seq {e : IE} {Q : List D → Objs → Prop} (h : WE F C G is e ρ o fun d o1 => ∃ ds, (d = .tup ds ∨ d = .lst ds ∨ d = .kt ds) ∧ Q ds o1) : WR F C G is (.seq e) ρ o Q := by
  obtain ⟨d, o1, h1, ds, h2, h3⟩ := h
  refine ⟨ds, o1, ?_, h3⟩
  unfold evSrc
  rw [h1]
  rcases h2 with rfl | rfl | rfl <;> rfl
/-- the numbers below n -/
def rgD (s n : Nat) : List D := (List.range' s n).map fun (j : Nat) => .int (j : Int)
theorem rgD_eq {a b : Int} {s n : Nat} (ha : a = (s : Int)) (hb : b = ((s + n : Nat) : Int)) : rangeD a b = rgD s n := by
  subst ha hb
  unfold rangeD rgD
  have e : (((s + n : Nat) : Int) - (s : Int)).toNat = n := by omega
  rw [e, List.range'_eq_map_range, List.map_map]
  refine List.map_congr_left fun i _ => ?_
  show D.int ((s : Int) + (i : Int)) = D.int (((s + i : Nat)) : Int)
  rw [Int.natCast_add]
theorem rngOk_of {a : Int} {s : Nat} (ha : a = (s : Int)) (h : s ≤ 1000000) : rngOk a = true := by
  unfold rngOk
  rw [decide_eq_true (show -(2 ^ 62) ≤ a by omega), decide_eq_true (show a < 2 ^ 62 by omega)]
  rfl
theorem wr_rng1 {e : IE} {Q : List D → Objs → Prop} (h : WE F C G is e ρ o fun d o1 => ∃ (x : Int) (n : Nat), d = .int x ∧ x = (n : Int) ∧ n ≤ 1000000 ∧ Q (rgD 0 n) o1) : WR F C G is (.range1 e) ρ o Q := by
  obtain ⟨d, o1, h1, x, n, rfl, h2, h3, h4⟩ := h
  refine ⟨_, o1, ?_, h4⟩
  unfold evSrc
  rw [h1]
  show (if rngOk x then Res.ok (rangeD 0 x) o1 else .stuck) = _
  rw [rngOk_of h2 h3, if_pos rfl, rgD_eq (a := 0) (s := 0) (n := n) rfl (by rw [h2, Nat.zero_add])]
theorem wr_rng2 {e f : IE} {Q : List D → Objs → Prop} (h : WE F C G is e ρ o fun d o1 => WE F C G is f ρ o1 fun d' o2 => ∃ (x y : Int) (s n : Nat), d = .int x ∧ d' = .int y ∧ x = (s : Int) ∧ y = ((s + n : Nat) : Int) ∧ s + n ≤ 1000000 ∧ Q (rgD s n) o2) : WR F C G is (.range2 e f) ρ o Q := by
  obtain ⟨d, o1, h1, d', o2, h2, x, y, s, n, rfl, rfl, h3, h4, h5, h6⟩ := h
  refine ⟨_, o2, ?_, h6⟩
  unfold evSrc
  rw [h1]
  show (evE F C G is f ρ o1).bind _ = _
  rw [h2]
  show (if rngOk x && rngOk y then Res.ok (rangeD x y) o2 else .stuck) = _
  rw [rngOk_of h3 (by omega), rngOk_of h4 h5, rgD_eq h3 h4]
  rfl
theorem wr_zip {e f : IE} {Q : List D → Objs → Prop} (h : WE F C G is e ρ o fun d o1 => WE F C G is f ρ o1 fun d' o2 => ∃ xs ys, ((d = .lst xs ∧ d' = .lst ys) ∨ (d = .tup xs ∧ d' = .tup ys)) ∧ Q ((xs.zip ys).map fun p => .tup [p.1, p.2]) o2) : WR F C G is (.zip e f) ρ o Q := by
  obtain ⟨d, o1, h1, d', o2, h2, xs, ys, h3, h4⟩ := h
  refine ⟨_, o2, ?_, h4⟩
  unfold evSrc
  rw [h1]
  show (evE F C G is f ρ o1).bind _ = _
  rw [h2]
  rcases h3 with ⟨rfl, rfl⟩ | ⟨rfl, rfl⟩ <;> rfl
def enD (s : Nat) (xs : List D) : List D := (List.range' s xs.length).zipWith (fun (i : Nat) x => .tup [.int i, x]) xs
theorem wr_enum {e : IE} {Q : List D → Objs → Prop} (h : WE F C G is e ρ o fun d o1 => ∃ xs, (d = .lst xs ∨ d = .tup xs) ∧ Q (enD 0 xs) o1) : WR F C G is (.enum e) ρ o Q := by
  obtain ⟨d, o1, h1, xs, h2, h4⟩ := h
  refine ⟨_, o1, ?_, h4⟩
  unfold evSrc
  rw [h1]
  rcases h2 with rfl | rfl
  · show Res.ok _ o1 = _
    unfold enD
    rw [List.range_eq_range']
  · show Res.ok _ o1 = _
    unfold enD
    rw [List.range_eq_range']
/-! comprehensions -/
/-- that make nothing happen: filtered, mapped -/
theorem we_comp {elt : IE} {tg : Tg} {src : ISrc} {c : IEo} {own : List Nat} {f : D → D} {p : D → Bool} (h : WR F C G is src ρ o fun ds o1 => (∀ d ∈ ds, ∃ ρ', bindT tg d (wipeF ρ own) = some ρ' ∧ WC F C G is c ρ' o1 (fun b o2 => b = p d ∧ o2 = o1) ∧ (p d = true → WE F C G is elt ρ' o1 fun x o2 => x = f d ∧ o2 = o1)) ∧ ds.length ≤ sizeLine ∧ Q (.lst ((ds.filter p).map f)) o1) : WE F C G is (.comp elt tg src c own) ρ o Q := by
  obtain ⟨ds, o1, h1, h2, h3, h4⟩ := h
  refine ⟨_, o1, comp_ok h1 (compL_pure (f := f) (p := p) fun d hd => ?_) ?_, h4⟩
  · obtain ⟨ρ', h5, ⟨b, o2, h6, rfl, rfl⟩, h7⟩ := h2 d hd
    refine ⟨ρ', h5, h6, fun z => ?_⟩
    obtain ⟨x, o3, h8, rfl, rfl⟩ := h7 z
    exact h8
  · rw [List.length_map]
    exact Nat.le_trans (List.length_filter_le _ _) h3
inductive All2 (V : D → D → Prop) : List D → List D → Prop where
  | nil : All2 V [] []
  | cons {a b : D} {as bs : List D} (h : V a b) (r : All2 V as bs) : All2 V (a :: as) (b :: bs)
theorem All2.length_eq {V : D → D → Prop} : ∀ {as bs : List D}, All2 V as bs → as.length = bs.length
  | _, _, .nil => rfl
  | _, _, .cons _ r => by rw [List.length_cons, List.length_cons, r.length_eq]
/-- what holds of the objects while it goes on -/
theorem compL_inv {bd : D → Option Frm} {cnd : Frm → Objs → Res Bool} {el : Frm → Objs → Res D} {I : Nat → Objs → Prop} {V : D → D → Prop} : ∀ {ds : List D} {n : Nat} {o : Objs}, I (n + ds.length) o → (∀ d ∈ ds, ∀ n o, I (n + 1) o → ∃ ρ b o2, bd d = some ρ ∧ cnd ρ o = .ok b o2 ∧ ((b = false ∧ I n o2) ∨ (b = true ∧ ∃ x o3, el ρ o2 = .ok x o3 ∧ V d x ∧ I n o3))) → ∃ xs o', compL bd cnd el ds o = .ok xs o' ∧ (∃ ss : List D, ss.Sublist ds ∧ All2 V ss xs) ∧ I n o'
  | [], n, o, h, _ => ⟨[], o, rfl, ⟨[], List.Sublist.refl _, .nil⟩, h⟩
  | d :: ds, n, o, h, hs => by
    obtain ⟨ρ, b, o2, h1, h2, h3⟩ := hs d List.mem_cons_self (n + ds.length) o (by rw [List.length_cons, ← Nat.add_assoc] at h; exact h)
    rcases h3 with ⟨rfl, h4⟩ | ⟨rfl, x, o3, h4, h5, h6⟩
    · obtain ⟨xs, o', h7, ⟨ss, h8, h9⟩, h10⟩ := compL_inv (n := n) h4 fun d hd => hs d (List.mem_cons_of_mem _ hd)
      refine ⟨xs, o', ?_, ⟨ss, h8.cons _, h9⟩, h10⟩
      unfold compL
      simp only [h1, h2, Res.bind]
      exact h7
    · obtain ⟨xs, o', h7, ⟨ss, h8, h9⟩, h10⟩ := compL_inv (n := n) h6 fun d hd => hs d (List.mem_cons_of_mem _ hd)
      refine ⟨x :: xs, o', ?_, ⟨d :: ss, h8.cons₂ _, .cons h5 h9⟩, h10⟩
      unfold compL
      simp only [h1, h2, Res.bind, if_true, h4, h7]
theorem we_compI {elt : IE} {tg : Tg} {src : ISrc} {c : IEo} {own : List Nat} {I : Nat → Objs → Prop} {V : D → D → Prop} (h : WR F C G is src ρ o fun ds o1 => ∃ n, I (n + ds.length) o1 ∧ (∀ d ∈ ds, ∀ n o, I (n + 1) o → ∃ ρ', bindT tg d (wipeF ρ own) = some ρ' ∧ WC F C G is c ρ' o (fun b o2 => (b = false ∧ I n o2) ∨ (b = true ∧ WE F C G is elt ρ' o2 fun x o3 => V d x ∧ I n o3))) ∧ ds.length ≤ sizeLine ∧ (∀ xs o', (∃ ss : List D, ss.Sublist ds ∧ All2 V ss xs) → I n o' → Q (.lst xs) o')) : WE F C G is (.comp elt tg src c own) ρ o Q := by
  obtain ⟨ds, o1, h1, n, h2, h3, h4, h5⟩ := h
  obtain ⟨xs, o', h6, ⟨ss, h7, h8⟩, h9⟩ := compL_inv (bd := fun d => bindT tg d (wipeF ρ own)) (cnd := fun ρ' o' => evC F C G is c ρ' o') (el := fun ρ' o' => evE F C G is elt ρ' o') (V := V) h2 (fun d hd n o hI => by
    obtain ⟨ρ', h10, b, o2, h11, h12⟩ := h3 d hd n o hI
    refine ⟨ρ', b, o2, h10, h11, ?_⟩
    rcases h12 with h12 | ⟨h12, x, o3, h13, h14⟩
    · exact .inl h12
    · exact .inr ⟨h12, x, o3, h13, h14⟩)
  have z : xs.length ≤ sizeLine := by
    have := h8.length_eq
    have := h7.length_le
    omega
  exact ⟨_, o', comp_ok h1 h6 z, h5 xs o' ⟨ss, h7, h8⟩ h9⟩
end
section
variable {N : Frm → Objs → Prop} {R : D → Objs → Prop}
theorem wsr_imp {r : SRes} {N' : Frm → Objs → Prop} {R' : D → Objs → Prop} (h : WSr r N' R') (h1 : ∀ ρ o, N' ρ o → N ρ o) (h2 : ∀ d o, R' d o → R d o) : WSr r N R := by
  cases r <;> first
    | exact h1 _ _ h
    | exact h2 _ _ h
    | exact h
theorem wss_nil (h : N ρ o) : WSs F C G is L .nil ρ o N R := by
  constructor
  rw [exSs]
  exact h
theorem wss_cons {s : IS} {r : ISs} (h : WS F C G is L s ρ o (fun ρ' o' => WSs F C G is L r ρ' o' N R) R) : WSs F C G is L (.cons s r) ρ o N R := by
  replace h := h.p
  constructor
  rw [exSs]
  revert h
  generalize exS F C G is L s ρ o = x
  intro h
  cases x <;> first
    | exact h.p
    | exact h
theorem ws_set {t : Tg} {e : IE} (h : WE F C G is e ρ o fun d o1 => ∃ ρ', bindT t d ρ = some ρ' ∧ N ρ' o1) : WS F C G is L (.set t e) ρ o N R := by
  obtain ⟨d, o1, h1, ρ', h2, h3⟩ := h
  constructor
  rw [exS, h1]
  simp only [Res.st, h2]
  exact h3
theorem ws_setOwn {i : Nat} {e : IE} (h : WE F C G is e ρ o fun d o1 => N (ρ.set i (ownS d)) o1) : WS F C G is L (.setOwn i e) ρ o N R := by
  obtain ⟨d, o1, h1, h3⟩ := h
  constructor
  rw [exS, h1]
  exact h3
theorem ws_par {js : List Nat} {es : IEs} (h : WEs F C G is es ρ o fun ds o1 => ∃ ρ', setsF ρ js ds = some ρ' ∧ N ρ' o1) : WS F C G is L (.par js es) ρ o N R := by
  obtain ⟨d, o1, h1, ρ', h2, h3⟩ := h
  constructor
  rw [exS, h1]
  simp only [Res.st, h2]
  exact h3
theorem ws_parO {js : List Nat} {fl : List Bool} {es : IEs} (h : WEs F C G is es ρ o fun ds o1 => ∃ ρ', setsO ρ js fl ds = some ρ' ∧ N ρ' o1) : WS F C G is L (.parO js fl es) ρ o N R := by
  obtain ⟨d, o1, h1, ρ', h2, h3⟩ := h
  constructor
  rw [exS, h1]
  simp only [Res.st, h2]
  exact h3
theorem ws_expr {e : IE} (h : WE F C G is e ρ o fun d o1 => N ρ o1) : WS F C G is L (.expr e) ρ o N R := by
  obtain ⟨d, o1, h1, h3⟩ := h
  constructor
  rw [exS, h1]
  exact h3
theorem ws_append {i : Nat} {e : IE} {ds : List D} (g : ρ[i]? = some (.own (.lst ds))) (h : WE F C G is e ρ o fun d o1 => ds.length < sizeLine ∧ N (ρ.set i (.own (.lst (ds ++ [d])))) o1) : WS F C G is L (.append i e) ρ o N R := by
  obtain ⟨d, o1, h1, h2, h3⟩ := h
  constructor
  rw [exS]
  simp only [g, h1, Res.st, decide_eq_true h2, if_true]
  exact h3
theorem ws_extend {i : Nat} {e : IE} {ds : List D} (g : ρ[i]? = some (.own (.lst ds))) (h : WE F C G is e ρ o fun d o1 => ∃ es, d = .lst es ∧ ds.length + es.length ≤ sizeLine ∧ N (ρ.set i (.own (.lst (ds ++ es)))) o1) : WS F C G is L (.extend i e) ρ o N R := by
  obtain ⟨d, o1, h1, es, rfl, h2, h3⟩ := h
  constructor
  rw [exS]
  simp only [g, h1, Res.st, sz, decide_eq_true h2, if_true]
  exact h3
theorem ws_popT {i : Nat} {t : Tg} {ds : List D} {d : D} {ρ' : Frm} (g : ρ[i]? = some (.own (.lst (ds ++ [d])))) (e : bindT t d (ρ.set i (.own (.lst ds))) = some ρ') (h : N ρ' o) : WS F C G is L (.popT i t) ρ o N R := by
  constructor
  rw [exS]
  simp only [g, List.getLast?_concat, List.dropLast_concat, e]
  exact h
theorem ws_popT2 {i : Nat} {t : Tg} {e : IE} {ds : List D} {d : D} (g : ρ[i]? = some (.own (.lst (ds ++ [d])))) (h : WE F C G is e (ρ.set i (.own (.lst ds))) o fun y o1 => ∃ ρ', bindT t (.tup [d, y]) (ρ.set i (.own (.lst ds))) = some ρ' ∧ N ρ' o1) : WS F C G is L (.popT2 i e t) ρ o N R := by
  obtain ⟨y, o1, h1, ρ', h2, h3⟩ := h
  constructor
  rw [exS]
  simp only [g, List.getLast?_concat, List.dropLast_concat, h1, Res.st, h2]
  exact h3
theorem ws_newDic {i : Nat} {tk : Bool} (h : N (ρ.set i (.val (.obj o.length))) (o ++ [if tk then .dT [] else .dK []])) : WS F C G is L (.newDic i tk) ρ o N R := by
  constructor
  rw [exS]
  exact h
/-- into a list of the frame's own -/
theorem ws_put {i : Nat} {k e : IE} {ds : List D} (g : ρ[i]? = some (.own (.lst ds))) (h : WE F C G is e ρ o fun d o1 => WE F C G is k ρ o1 fun kd o2 => ∃ j ds', kd = .int j ∧ putD ds j d = some ds' ∧ N (ρ.set i (.own (.lst ds'))) o2) : WS F C G is L (.setIdx (.bor i) k e) ρ o N R := by
  obtain ⟨d, o1, h1, kd, o2, h2, j, ds', rfl, h4, h5⟩ := h
  constructor
  rw [exS]
  simp only [g, h1, Res.st, h2, h4]
  exact h5
/-- into a shared object -/
theorem ws_putO {i n : Nat} {k e : IE} (g : ρ[i]? = some (.val (.obj n))) (h : WE F C G is e ρ o fun d o1 => WE F C G is k ρ o1 fun kd o2 => ∃ so so', o2[n]? = some so ∧ putO so kd d = some so' ∧ N ρ (o2.set n so')) : WS F C G is L (.setIdx (.bor i) k e) ρ o N R := by
  obtain ⟨d, o1, h1, kd, o2, h2, so, so', h3, h4, h5⟩ := h
  constructor
  rw [exS]
  simp only [g, h1, Res.st, h2, h3, h4]
  exact h5
theorem ws_aug {i : Nat} {op : Operator} {e : IE} {x : D} (g : getV ρ i = some x) (h : WE F C G is e ρ o fun y o1 => ∃ d, augD op x y = some d ∧ N (ρ.set i (.val d)) o1) : WS F C G is L (.aug i op e) ρ o N R := by
  obtain ⟨d, o1, h1, d', h2, h3⟩ := h
  constructor
  rw [exS]
  simp only [g, h1, Res.st, h2]
  exact h3
theorem ws_ife {t : IE} {a b : ISs} (h : WE F C G is t ρ o fun x o1 => ∃ c, x = .bl c ∧ IfG c (WSs F C G is L a ρ o1 N R) (WSs F C G is L b ρ o1 N R)) : WS F C G is L (.ife t a b) ρ o N R := by
  obtain ⟨x, o1, h1, c, rfl, ⟨h2, h3⟩⟩ := h
  constructor
  rw [exS, evT, h1]
  cases c with
  | true => exact (h2 rfl).p
  | false => exact (h3 rfl).p
theorem ws_ret {e : IE} (h : WE F C G is e ρ o R) : WS F C G is L (.ret e) ρ o N R := by
  obtain ⟨x, o1, h1, h2⟩ := h
  constructor
  rw [exS, h1]
  exact h2
theorem ws_retN (h : R .non o) : WS F C G is L .retN ρ o N R := by
  constructor
  rw [exS]
  exact h
theorem ws_retObj {es : IEs} (h : WEs F C G is es ρ o fun ds o1 => ds.length ≤ sizeLine ∧ R (.obj o1.length) (o1 ++ [.lst ds])) : WS F C G is L (.retObj es) ρ o N R := by
  obtain ⟨x, o1, h1, h2, h3⟩ := h
  constructor
  rw [exS, h1]
  simp only [Res.st, sz, decide_eq_true h2, if_true]
  exact h3
theorem ws_pass (h : N ρ o) : WS F C G is L .pass ρ o N R := by
  constructor
  rw [exS]
  exact h
theorem ws_frz {js : List Nat} (h : N (frzF ρ js) o) : WS F C G is L (.frz js) ρ o N R := by
  constructor
  rw [exS]
  exact h
/-- a while: I m holds when m turns are left at most -/
theorem ws_whl {t : IE} {b : ISs} (I : Nat → Frm → Objs → Prop) {m : Nat} (h : I m ρ o) (hm : m < L) (step : ∀ m ρ o, I m ρ o → WE F C G is t ρ o fun x o1 => ∃ c, x = .bl c ∧ IfG c (∃ m', m = m' + 1 ∧ WSs F C G is L b ρ o1 (fun ρ' o' => I m' ρ' o') R) (N ρ o1)) : WS F C G is L (.whl t b) ρ o N R := by
  have key : ∀ n m ρ o, m < n → I m ρ o → WSr (loopW (fun ρ o => evT F C G is t ρ o) (fun ρ o => exSs F C G is L b ρ o) n ρ o) N R := by
    intro n
    induction n with
    | zero => intro m ρ o h; omega
    | succ n ih =>
      intro m ρ o hn hI
      obtain ⟨x, o1, h1, c, rfl, ⟨h2, h3⟩⟩ := step m ρ o hI
      unfold loopW
      have e : evT F C G is t ρ o = .ok c o1 := by rw [evT, h1]; rfl
      simp only [e, Res.st]
      cases c with
      | false =>
        rw [if_neg Bool.false_ne_true]
        exact h3 rfl
      | true =>
        rw [if_pos rfl]
        obtain ⟨m', rfl, h4⟩ := h2 rfl
        replace h4 := h4.p
        revert h4
        generalize exSs F C G is L b ρ o1 = r
        intro h4
        cases r with
        | nx ρ' o' => exact ih m' ρ' o' (by omega) h4
        | ret d o' => exact h4
        | _ => exact h4.elim
  constructor
  rw [exS]
  exact key L m ρ o hm h
/-- a for -/
theorem loopF_w {bd : D → Frm → Option Frm} {b : Frm → Objs → SRes} {I : Nat → Frm → Objs → Prop} : ∀ (ds : List D) (j : Nat) (ρ : Frm) (o : Objs), I j ρ o → (∀ i ρ o d, ds[i]? = some d → I (j + i) ρ o → ∃ ρ1, bd d ρ = some ρ1 ∧ WSr (b ρ1 o) (fun ρ' o' => I (j + i + 1) ρ' o') R) → (∀ ρ o, I (j + ds.length) ρ o → N ρ o) → WSr (loopF bd b ds ρ o) N R
  | [], j, ρ, o, h, _, hn => hn ρ o h
  | d :: ds, j, ρ, o, h, hs, hn => by
    obtain ⟨ρ1, h1, h2⟩ := hs 0 ρ o d rfl h
    unfold loopF
    simp only [h1]
    revert h2
    generalize b ρ1 o = r
    intro h2
    cases r with
    | nx ρ' o' =>
      refine loopF_w ds (j + 1) ρ' o' h2 (fun i ρ o d' hd hI => ?_) (fun ρ o hI => hn ρ o ?_)
      · have z := hs (i + 1) ρ o d' hd (by rw [show j + (i + 1) = j + 1 + i by omega]; exact hI)
        rw [show j + (i + 1) + 1 = j + 1 + i + 1 by omega] at z
        exact z
      · rw [List.length_cons, show j + (ds.length + 1) = j + 1 + ds.length by omega]
        exact hI
    | ret d o' => exact h2
    | _ => exact h2.elim
theorem ws_for {t : Tg} {src : ISrc} {b : ISs} (I : Nat → Frm → Objs → Prop) (h : WR F C G is src ρ o fun ds o1 => I 0 ρ o1 ∧ (∀ i ρ o d, ds[i]? = some d → I i ρ o → ∃ ρ1, bindT t d ρ = some ρ1 ∧ WSs F C G is L b ρ1 o (fun ρ' o' => I (i + 1) ρ' o') R) ∧ (∀ ρ o, I ds.length ρ o → N ρ o)) : WS F C G is L (.for t src b) ρ o N R := by
  obtain ⟨ds, o1, h1, h2, h3, h4⟩ := h
  constructor
  rw [exS, h1]
  refine loopF_w (I := I) ds 0 ρ o1 h2 (fun i ρ o d hd hI => ?_) (fun ρ o hI => h4 ρ o (by rw [Nat.zero_add] at hI; exact hI))
  rw [Nat.zero_add] at hI
  obtain ⟨ρ1, h5, h6⟩ := h3 i ρ o d hd hI
  rw [Nat.zero_add]
  exact ⟨ρ1, h5, h6.p⟩
end
end
/-! ### the operators -/
section
variable {P : D → Prop} {A B : Prop} {i j : Int} {x y d : D}
theorem if_t (h : A) : IfG true A B := ⟨fun _ => h, fun z => nomatch z⟩
theorem if_f (h : B) : IfG false A B := ⟨fun z => (nomatch z), fun _ => h⟩
theorem if_nt (h : B) : IfG (!true) A B := ⟨fun z => (nomatch z), fun _ => h⟩
theorem if_nf (h : A) : IfG (!false) A B := ⟨fun _ => h, fun z => nomatch z⟩
theorem if_n {c : Bool} (h : IfG c B A) : IfG (!c) A B := by
  cases c
  · exact ⟨fun _ => h.f rfl, fun z => nomatch z⟩
  · exact ⟨fun z => (nomatch z), fun _ => h.t rfl⟩
theorem g_add (h : P (.int (i + j))) : G1 (binD .Add (.int i) (.int j)) P := ⟨_, rfl, h⟩
theorem g_sub (h : P (.int (i - j))) : G1 (binD .Sub (.int i) (.int j)) P := ⟨_, rfl, h⟩
theorem g_neg (h : P (.int (-i))) : G1 (negD (.int i)) P := ⟨_, rfl, h⟩
theorem g_lt (h : P (.bl (decide (i < j)))) : G1 (cmpD .Lt (.int i) (.int j)) P := ⟨_, rfl, h⟩
theorem g_le (h : P (.bl (decide (i ≤ j)))) : G1 (cmpD .LtE (.int i) (.int j)) P := ⟨_, rfl, h⟩
theorem g_gt (h : P (.bl (decide (j < i)))) : G1 (cmpD .Gt (.int i) (.int j)) P := ⟨_, rfl, h⟩
theorem g_ge (h : P (.bl (decide (j ≤ i)))) : G1 (cmpD .GtE (.int i) (.int j)) P := ⟨_, rfl, h⟩
theorem g_idx (h : idxD x y = some d) (q : P d) : G1 (idxD x y) P := ⟨_, h, q⟩
theorem g_bif {f : Bif} {ds : List D} (h : bifD f ds = some d) (q : P d) : G1 (bifD f ds) P := ⟨_, h, q⟩
end
/-! ### calls -/
section
variable {T : Tab} {L k : Nat} {f : Str} {ir : FnIR} {sl : List Slot} {o : Objs}
/-- a call that leaves as many objects -/
theorem cf_w {P : D → Objs → Prop} (h : T.fn f = some ir) (hl : sl.length = ir.np) (w : WSs (cf T L k) (cc T L k) T.con T.isa L ir.body (frame sl ir.nl) o (fun ρ o' => o'.length = o.length ∧ P .non o') (fun d o' => o'.length = o.length ∧ P d o')) : ∃ d o', cf T L (k + 1) f sl o = .ok d o' ∧ o'.length = o.length ∧ P d o' := by
  replace w := w.p
  revert w
  generalize hr : exSs (cf T L k) (cc T L k) T.con T.isa L ir.body (frame sl ir.nl) o = r
  intro w
  cases r with
  | nx ρ o' => exact ⟨_, o', cf_ok h hl (by rw [hr]; rfl) (by rw [← w.1]; exact trunc_ok), w⟩
  | ret d o' => exact ⟨_, o', cf_ok h hl (by rw [hr]; rfl) (by rw [← w.1]; exact trunc_ok), w⟩
  | _ => exact w.elim
/-- a call that leaves the objects as they are -/
theorem cf_p {v : D} (h : T.fn f = some ir) (hl : sl.length = ir.np) (w : WSs (cf T L k) (cc T L k) T.con T.isa L ir.body (frame sl ir.nl) o (fun ρ o' => v = .non ∧ o' = o) (fun d o' => d = v ∧ o' = o)) : cf T L (k + 1) f sl o = .ok v o := by
  obtain ⟨d, o', h1, h2, rfl, rfl⟩ := cf_w (P := fun d o' => d = v ∧ o' = o) h hl ⟨wsr_imp w.p (fun ρ o' z => by obtain ⟨rfl, rfl⟩ := z; exact ⟨rfl, rfl, rfl⟩) (fun d o' z => by obtain ⟨rfl, rfl⟩ := z; exact ⟨rfl, rfl, rfl⟩)⟩
  exact h1
end
end Lib

set_option maxHeartbeats 2000000
/-! Lf: equal values. -/
namespace Lib
open PySem Ev
mutual
/-- plain data -/
def plD : D → Bool
  | .non => true
  | .bl _ => true
  | .int _ => true
  | .str x => PyData.strOk x
  | .tup ds => plDs ds
  | .lst ds => plDs ds
  | _ => false
def plDs : List D → Bool
  | [] => true
  | d :: ds => plD d && plDs ds
end
mutual
def dpD : D → Nat
  | .tup ds => dpDs ds + 1
  | .lst ds => dpDs ds + 1
  | _ => 0
def dpDs : List D → Nat
  | [] => 0
  | d :: ds => max (dpD d) (dpDs ds)
end
mutual
def tp : D → PyData
  | .bl b => .bool b
  | .int i => .int i
  | .str x => .str x
  | .tup ds => .tuple (tps ds)
  | .lst ds => .list (tps ds)
  | _ => .none
def tps : List D → List PyData
  | [] => []
  | d :: ds => tp d :: tps ds
end
mutual
theorem py_of : ∀ d : D, plD d = true → d.py = some (tp d)
  | .non, _ => by unfold D.py tp; rfl
  | .bl _, _ => by unfold D.py tp; rfl
  | .int _, _ => by unfold D.py tp; rfl
  | .str _, _ => by unfold D.py tp; rfl
  | .tup ds, h => by
    unfold plD at h
    unfold D.py tp
    rw [pys_of ds h]
    rfl
  | .lst ds, h => by
    unfold plD at h
    unfold D.py tp
    rw [pys_of ds h]
    rfl
  | .kt _, h => by unfold plD at h; cases h
  | .obj _, h => by unfold plD at h; cases h
  | .dct _ _, h => by unfold plD at h; cases h
theorem pys_of : ∀ ds : List D, plDs ds = true → D.pys ds = some (tps ds)
  | [], _ => by unfold D.pys tps; rfl
  | d :: ds, h => by
    unfold plDs at h
    rw [Bool.and_eq_true] at h
    unfold D.pys tps
    rw [py_of d h.1, pys_of ds h.2]
end
mutual
theorem lay_of : ∀ d : D, plD d = true → (tp d).canLay0 = true
  | .non, _ => by unfold tp; rfl
  | .bl _, _ => by unfold tp; rfl
  | .int _, _ => by unfold tp; rfl
  | .str _, h => by unfold plD at h; unfold tp; exact h
  | .tup ds, h => by
    unfold plD at h
    unfold tp
    exact lays_of ds h
  | .lst ds, h => by
    unfold plD at h
    unfold tp
    exact lays_of ds h
  | .kt _, h => by unfold plD at h; cases h
  | .obj _, h => by unfold plD at h; cases h
  | .dct _ _, h => by unfold plD at h; cases h
theorem lays_of : ∀ ds : List D, plDs ds = true → PyData.canLayAll0 (tps ds) = true
  | [], _ => by unfold tps; rfl
  | d :: ds, h => by
    unfold plDs at h
    rw [Bool.and_eq_true] at h
    unfold tps
    show (PyData.canLay0 (tp d) && PyData.canLayAll0 (tps ds)) = true
    rw [lay_of d h.1, lays_of ds h.2]
    rfl
end
mutual
theorem dp_of : ∀ d : D, (tp d).depth = dpD d
  | .non => by unfold tp dpD; rfl
  | .bl _ => by unfold tp dpD; rfl
  | .int _ => by unfold tp dpD; rfl
  | .str _ => by unfold tp dpD; rfl
  | .tup ds => by
    unfold tp dpD
    show PyData.depthAll (tps ds) + 1 = _
    rw [dps_of ds]
  | .lst ds => by
    unfold tp dpD
    show PyData.depthAll (tps ds) + 1 = _
    rw [dps_of ds]
  | .kt _ => by unfold tp dpD; rfl
  | .obj _ => by unfold tp dpD; rfl
  | .dct _ _ => by unfold tp dpD; rfl
theorem dps_of : ∀ ds : List D, PyData.depthAll (tps ds) = dpDs ds
  | [] => by unfold tps dpDs; rfl
  | d :: ds => by
    unfold tps dpDs
    show max (tp d).depth (PyData.depthAll (tps ds)) = _
    rw [dp_of d, dps_of ds]
end
def plk (d : D) : Bool := plD d && decide (dpD d ≤ 64)
theorem eqD_eq {x y : D} (hx : plk x = true) (hy : plk y = true) : eqD x y = some (PyData.eqv (tp x) (tp y)) := by
  unfold plk at hx hy
  rw [Bool.and_eq_true, decide_eq_true_eq] at hx hy
  have sh : ∀ {d : D}, plD d = true → dpD d ≤ 64 → SeqAt.shaped (tp d) = true := fun {d} h1 h2 => by
    unfold SeqAt.shaped
    rw [lay_of d h1, dp_of d, decide_eq_true h2]
    rfl
  unfold eqD
  rw [py_of x hx.1, py_of y hy.1]
  show (if (SeqAt.shaped (tp x) && SeqAt.shaped (tp y)) = true then _ else _) = _
  rw [sh hx.1 hx.2, sh hy.1 hy.2]
  rfl
theorem eqD_refl {x : D} (hx : plk x = true) : eqD x x = some true := by
  rw [eqD_eq hx hx]
  unfold plk at hx
  rw [Bool.and_eq_true] at hx
  rw [SeqAt.eqv_refl _ (lay_of x hx.1)]
mutual
/-- without bools -/
def nbD : D → Bool
  | .non => true
  | .int _ => true
  | .str _ => true
  | .tup ds => nbDs ds
  | .lst ds => nbDs ds
  | _ => false
def nbDs : List D → Bool
  | [] => true
  | d :: ds => nbD d && nbDs ds
end
mutual
theorem eqv_nb : ∀ x y : D, nbD x = true → nbD y = true → PyData.eqv (tp x) (tp y) = true → x = y
  | .tup xs, y, hx, hy, e => by
    cases y <;> first
      | (unfold nbD at hy; cases hy; done)
      | (unfold tp PyData.eqv at e; cases e; done)
      | skip
    rename_i ys
    unfold nbD at hx hy
    unfold tp PyData.eqv at e
    rw [eqvs_nb xs ys hx hy e]
  | .lst xs, y, hx, hy, e => by
    cases y <;> first
      | (unfold nbD at hy; cases hy; done)
      | (unfold tp PyData.eqv at e; cases e; done)
      | skip
    rename_i ys
    unfold nbD at hx hy
    unfold tp PyData.eqv at e
    rw [eqvs_nb xs ys hx hy e]
  | .non, y, hx, hy, e => by
    cases y <;> first
      | rfl
      | (unfold nbD at hy; cases hy; done)
      | (unfold tp PyData.eqv at e; cases e; done)
  | .int i, y, hx, hy, e => by
    cases y <;> first
      | (unfold nbD at hy; cases hy; done)
      | (unfold tp PyData.eqv at e; cases e; done)
      | skip
    unfold tp PyData.eqv at e
    rw [eq_of_beq e]
  | .str i, y, hx, hy, e => by
    cases y <;> first
      | (unfold nbD at hy; cases hy; done)
      | (unfold tp PyData.eqv at e; cases e; done)
      | skip
    unfold tp PyData.eqv at e
    rw [eq_of_beq e]
  | .bl _, _, hx, _, _ => by unfold nbD at hx; cases hx
  | .kt _, _, hx, _, _ => by unfold nbD at hx; cases hx
  | .obj _, _, hx, _, _ => by unfold nbD at hx; cases hx
  | .dct _ _, _, hx, _, _ => by unfold nbD at hx; cases hx
theorem eqvs_nb : ∀ x y : List D, nbDs x = true → nbDs y = true → PyData.eqvAll (tps x) (tps y) = true → x = y
  | [], [], _, _, _ => rfl
  | [], _ :: _, _, _, e => by unfold tps PyData.eqvAll at e; cases e
  | _ :: _, [], _, _, e => by unfold tps PyData.eqvAll at e; cases e
  | x :: xs, y :: ys, hx, hy, e => by
    unfold nbDs at hx hy
    unfold tps PyData.eqvAll at e
    rw [Bool.and_eq_true] at hx hy e
    rw [eqv_nb x y hx.1 hy.1 e.1, eqvs_nb xs ys hx.2 hy.2 e.2]
end
theorem eqD_ne {x y : D} (hx : plk x = true) (hy : plk y = true) (nx : nbD x = true) (ny : nbD y = true) (h : x ≠ y) : eqD x y = some false := by
  rw [eqD_eq hx hy]
  congr 1
  cases e : PyData.eqv (tp x) (tp y) with
  | false => rfl
  | true => exact absurd (eqv_nb x y nx ny e) h
theorem eqD_b {x y : D} {b : Bool} (hx : plk x = true) (hy : plk y = true) (nx : nbD x = true) (ny : nbD y = true) (h : b = true ↔ x = y) : eqD x y = some b := by
  cases b with
  | true => rw [h.mp rfl]; exact eqD_refl hy
  | false => exact eqD_ne hx hy nx ny fun e => Bool.false_ne_true (h.mpr e)
theorem eqI (a b : Int) : eqD (.int a) (.int b) = some (decide (a = b)) := by
  rw [eqD_eq (by rfl) (by rfl)]
  congr 1
theorem g_eqI {P : D → Prop} {i j : Int} (h : P (.bl (decide (i = j)))) : G1 (cmpD .Eq (.int i) (.int j)) P := ⟨_, by show (eqD (.int i) (.int j)).map D.bl = _; rw [eqI]; rfl, h⟩
theorem eqBl (a b : Bool) : eqD (.bl a) (.bl b) = some (a == b) := by
  rw [eqD_eq (by rfl) (by rfl)]
  congr 1
theorem eqIr (a : Int) : eqD (.int a) (.int a) = some true := by
  rw [eqI, decide_eq_true rfl]
theorem eqS (a b : Str) (ha : PyData.strOk a = true) (hb : PyData.strOk b = true) : eqD (.str a) (.str b) = some (decide (a = b)) := by
  have h1 : ∀ {a : Str}, PyData.strOk a = true → plk (.str a) = true := fun {a} h => by
    unfold plk plD
    rw [h]
    rfl
  refine eqD_b (h1 ha) (h1 hb) (by unfold nbD; rfl) (by unfold nbD; rfl) ?_
  rw [decide_eq_true_eq]
  exact ⟨fun e => by rw [e], fun e => by injection e⟩
/-! ### rows of flags -/
def flg (f : Nat → Bool) (n : Nat) : List D := (List.range n).map fun i => .bl (f i)
theorem flg_len {f : Nat → Bool} {n : Nat} : (flg f n).length = n := by
  unfold flg
  rw [List.length_map, List.length_range]
theorem flg_congr {f g : Nat → Bool} {n : Nat} (h : ∀ i, i < n → f i = g i) : flg f n = flg g n := List.map_congr_left fun i hi => by rw [h i (List.mem_range.mp hi)]
theorem flg_inj {f g : Nat → Bool} {n : Nat} (h : flg f n = flg g n) : ∀ i, i < n → f i = g i := fun i hi => by
  have z := List.map_inj_left.mp h i (List.mem_range.mpr hi)
  injection z
theorem pl_flg {f : Nat → Bool} {l : List Nat} : plDs (l.map fun i => D.bl (f i)) = true ∧ dpDs (l.map fun i => D.bl (f i)) = 0 := by
  induction l with
  | nil => exact ⟨by unfold List.map plDs; rfl, by unfold List.map dpDs; rfl⟩
  | cons a l ih =>
    rw [List.map_cons]
    unfold plDs dpDs
    rw [ih.1, ih.2]
    exact ⟨by unfold plD; rfl, by unfold dpD; rfl⟩
theorem plk_flg {f : Nat → Bool} {n : Nat} : plk (.lst (flg f n)) = true ∧ plk (.tup (flg f n)) = true := by
  have z := pl_flg (f := f) (l := List.range n)
  unfold plk plD dpD
  unfold flg
  rw [z.1, z.2]
  exact ⟨rfl, rfl⟩
theorem eqv_flg {f g : Nat → Bool} : ∀ {l m : List Nat}, PyData.eqvAll (tps (l.map fun i => D.bl (f i))) (tps (m.map fun i => D.bl (g i))) = true → l.map f = m.map g
  | [], [], _ => rfl
  | [], _ :: _, e => by simp only [List.map_nil, List.map_cons] at e; unfold tps PyData.eqvAll at e; cases e
  | _ :: _, [], e => by simp only [List.map_nil, List.map_cons] at e; unfold tps PyData.eqvAll at e; cases e
  | x :: xs, y :: ys, e => by
    rw [List.map_cons, List.map_cons] at e
    unfold tps PyData.eqvAll at e
    rw [Bool.and_eq_true] at e
    have h1 := e.1
    unfold tp PyData.eqv at h1
    rw [List.map_cons, List.map_cons, eq_of_beq h1, eqv_flg e.2]
theorem flg_eq {f g : Nat → Bool} {n : Nat} {b : Bool} (h : b = true ↔ ∀ i, i < n → f i = g i) : PyData.eqvAll (tps (flg f n)) (tps (flg g n)) = b := by
  cases b with
  | true =>
    rw [flg_congr (h.mp rfl)]
    have z := SeqAt.eqv_refl (.list (tps (flg g n))) (lays_of _ (pl_flg (f := g) (l := List.range n)).1)
    exact z
  | false =>
    cases e : PyData.eqvAll (tps (flg f n)) (tps (flg g n)) with
    | false => rfl
    | true =>
      have z := eqv_flg e
      exact absurd (h.mpr fun i hi => List.map_inj_left.mp z i (List.mem_range.mpr hi)) Bool.false_ne_true
theorem eqD_flgL {f g : Nat → Bool} {n : Nat} {b : Bool} (h : b = true ↔ ∀ i, i < n → f i = g i) : eqD (.lst (flg f n)) (.lst (flg g n)) = some b := by
  rw [eqD_eq plk_flg.1 plk_flg.1]
  congr 1
  unfold tp PyData.eqv
  exact flg_eq h
theorem eqD_flgT {f g : Nat → Bool} {n : Nat} {b : Bool} (h : b = true ↔ ∀ i, i < n → f i = g i) : eqD (.tup (flg f n)) (.tup (flg g n)) = some b := by
  rw [eqD_eq plk_flg.2 plk_flg.2]
  congr 1
  unfold tp PyData.eqv
  exact flg_eq h
theorem flg_get {f : Nat → Bool} {n i : Nat} (h : i < n) : (flg f n)[i]? = some (.bl (f i)) := by
  unfold flg
  rw [List.getElem?_map, List.getElem?_range h]
  rfl
theorem flg_app {f g : Nat → Bool} {n m : Nat} : flg f n ++ flg g m = flg (fun i => if i < n then f i else g (i - n)) (n + m) := by
  refine List.ext_getElem? fun i => ?_
  by_cases h : i < n
  · rw [List.getElem?_append_left (by rw [flg_len]; exact h), flg_get h, flg_get (by omega), if_pos h]
  · rw [List.getElem?_append_right (by rw [flg_len]; omega), flg_len]
    by_cases h2 : i < n + m
    · rw [flg_get (by omega), flg_get h2, if_neg h]
    · rw [List.getElem?_eq_none (by rw [flg_len]; omega), List.getElem?_eq_none (by rw [flg_len]; omega)]
theorem flg_take {f : Nat → Bool} {n m : Nat} (h : m ≤ n) : (flg f n).take m = flg f m := by
  unfold flg
  rw [← List.map_take, List.take_range, Nat.min_eq_left h]
theorem flg_drop {f : Nat → Bool} {n m : Nat} (h : m ≤ n) : (flg f n).drop m = flg (fun i => f (m + i)) (n - m) := by
  refine List.ext_getElem? fun i => ?_
  rw [List.getElem?_drop]
  by_cases h2 : i < n - m
  · rw [flg_get (by omega), flg_get h2]
  · rw [List.getElem?_eq_none (by rw [flg_len]; omega), List.getElem?_eq_none (by rw [flg_len]; omega)]
theorem flg_const {b : Bool} {n : Nat} : List.replicate n (D.bl b) = flg (fun _ => b) n := by
  refine List.ext_getElem? fun i => ?_
  by_cases h : i < n
  · rw [flg_get h, List.getElem?_replicate_of_lt h]
  · rw [List.getElem?_eq_none (by rw [List.length_replicate]; omega), List.getElem?_eq_none (by rw [flg_len]; omega)]
theorem flg_set {f : Nat → Bool} {n j : Nat} {b : Bool} (h : j < n) : (flg f n).set j (.bl b) = flg (fun i => if i = j then b else f i) n := by
  refine List.ext_getElem? fun i => ?_
  by_cases h2 : i < n
  · rw [flg_get h2]
    by_cases h3 : i = j
    · subst h3
      rw [List.getElem?_set_self (by rw [flg_len]; exact h2), if_pos rfl]
    · rw [List.getElem?_set_ne (fun e => h3 e.symm), flg_get h2, if_neg h3]
  · rw [List.getElem?_eq_none (by rw [List.length_set, flg_len]; omega), List.getElem?_eq_none (by rw [flg_len]; omega)]
theorem g_lenf {P : D → Prop} {f : Nat → Bool} {n : Nat} (h : P (.int (n : Int))) : G1 (bifD .len [.lst (flg f n)]) P := ⟨_, by show some (D.int (((flg f n).length : Nat) : Int)) = _; rw [flg_len], h⟩
theorem g_lenfT {P : D → Prop} {f : Nat → Bool} {n : Nat} (h : P (.int (n : Int))) : G1 (bifD .len [.tup (flg f n)]) P := ⟨_, by show some (D.int (((flg f n).length : Nat) : Int)) = _; rw [flg_len], h⟩
theorem g_eqS {P : D → Prop} {a b : Str} (ha : PyData.strOk a = true) (hb : PyData.strOk b = true) (h : P (.bl (decide (a = b)))) : G1 (cmpD .Eq (.str a) (.str b)) P := ⟨_, by show (eqD (.str a) (.str b)).map D.bl = _; rw [eqS a b ha hb]; rfl, h⟩
theorem g_in {P : D → Prop} {x y : D} {c : Bool} (h : inD x y = some c) (q : P (.bl c)) : G1 (cmpD .In x y) P := ⟨_, by show (inD x y).map D.bl = _; rw [h]; rfl, q⟩
theorem if_eqt {c : Bool} {A B : Prop} (h : c = true) (a : A) : IfG c A B := by subst h; exact if_t a
theorem if_eqf {c : Bool} {A B : Prop} (h : c = false) (a : B) : IfG c A B := by subst h; exact if_f a
theorem g_neI {P : D → Prop} {i j : Int} (h : P (.bl (!decide (i = j)))) : G1 (cmpD .NotEq (.int i) (.int j)) P := ⟨_, by show (eqD (.int i) (.int j)).map (fun b => D.bl !b) = _; rw [eqI]; rfl, h⟩
theorem g_neS {P : D → Prop} {a b : Str} (ha : PyData.strOk a = true) (hb : PyData.strOk b = true) (h : P (.bl (!decide (a = b)))) : G1 (cmpD .NotEq (.str a) (.str b)) P := ⟨_, by show (eqD (.str a) (.str b)).map (fun b => D.bl !b) = _; rw [eqS a b ha hb]; rfl, h⟩
theorem g_lenT0 {P : D → Prop} (h : P (.int 0)) : G1 (bifD .len [.tup []]) P := ⟨_, rfl, h⟩
theorem g_lenT1 {P : D → Prop} {a : D} (h : P (.int 1)) : G1 (bifD .len [.tup [a]]) P := ⟨_, rfl, h⟩
theorem g_lenT2 {P : D → Prop} {a b : D} (h : P (.int 2)) : G1 (bifD .len [.tup [a, b]]) P := ⟨_, rfl, h⟩
theorem g_lenT3 {P : D → Prop} {a b c : D} (h : P (.int 3)) : G1 (bifD .len [.tup [a, b, c]]) P := ⟨_, rfl, h⟩
theorem g_lenT4 {P : D → Prop} {a b c d : D} (h : P (.int 4)) : G1 (bifD .len [.tup [a, b, c, d]]) P := ⟨_, rfl, h⟩
theorem g_isnB {P : D → Prop} {a b : Bool} (h : P (.bl (!decide (a = b)))) : G1 (cmpD .IsNot (.bl a) (.bl b)) P := ⟨_, rfl, h⟩
theorem g_isB {P : D → Prop} {a b : Bool} (h : P (.bl (decide (a = b)))) : G1 (cmpD .Is (.bl a) (.bl b)) P := ⟨_, rfl, h⟩
theorem atI_c {α : Type} {l : List α} {i : Nat} {d : α} (h : l[i]? = some d) : L2.atI l (i : Int) = some d := by
  have hi : i < l.length := by
    obtain ⟨z, _⟩ := List.getElem?_eq_some_iff.mp h
    exact z
  unfold L2.atI L2.ixN
  rw [if_pos (by omega), if_pos (by omega)]
  show l[((i : Int)).toNat]? = _
  rw [Int.toNat_natCast]
  exact h
theorem g_idx0 {P : D → Prop} {a : D} {l : List D} (h : P a) : G1 (idxD (.tup (a :: l)) (.int 0)) P := ⟨_, atI_c (i := 0) rfl, h⟩
theorem g_idx1 {P : D → Prop} {a b : D} {l : List D} (h : P b) : G1 (idxD (.tup (a :: b :: l)) (.int 1)) P := ⟨_, atI_c (i := 1) rfl, h⟩
theorem g_idx2 {P : D → Prop} {a b c : D} {l : List D} (h : P c) : G1 (idxD (.tup (a :: b :: c :: l)) (.int 2)) P := ⟨_, atI_c (i := 2) rfl, h⟩
theorem g_len {P : D → Prop} {l : List D} (h : P (.int (l.length : Int))) : G1 (bifD .len [.lst l]) P := ⟨_, rfl, h⟩
theorem g_lenT {P : D → Prop} {l : List D} (h : P (.int (l.length : Int))) : G1 (bifD .len [.tup l]) P := ⟨_, rfl, h⟩
end Lib

set_option maxHeartbeats 2000000
/-! Lg: forms. -/
namespace Lib
open PySem Ev
theorem tf {P : Prop} (h : true = false) : P := nomatch h
theorem ft {P : Prop} (h : false = true) : P := nomatch h
local macro_rules | `(tactic| infer_instance) => `(tactic| first
  | refine wss_cons ?_
  | refine wss_nil ?_
  | refine ws_set ?_
  | refine ws_setOwn ?_
  | refine ws_par ?_
  | refine ws_parO ?_
  | refine ws_expr ?_
  | refine ws_ret ?_
  | refine ws_retN ?_
  | refine ws_retObj ?_
  | refine ws_ife ?_
  | refine ws_append rfl ?_
  | refine ws_extend rfl ?_
  | refine ws_put rfl ?_
  | refine ws_putO rfl ?_
  | refine ws_aug rfl ?_
  | refine ws_frz ?_
  | refine ws_pass ?_
  | refine ws_newDic ?_
  | refine we_var rfl ?_
  | refine we_bor rfl ?_
  | refine we_int ?_
  | refine we_bl ?_
  | refine we_non ?_
  | refine we_str ?_
  | refine we_tup ?_
  | refine we_lst ?_
  | refine we_dnew ?_
  | refine we_bin ?_
  | refine we_neg ?_
  | refine we_not ?_
  | refine we_and ?_
  | refine we_or ?_
  | refine we_cmp ?_
  | refine we_chain ?_
  | refine we_ite ?_
  | refine we_slc ?_
  | refine we_idx ?_
  | refine we_glob (by assumption) ?_
  | refine we_gin (by assumption) ?_
  | refine we_gidx (by assumption) ?_
  | refine we_gget (by assumption) ?_
  | refine we_call ?_
  | refine we_callv rfl ?_
  | refine we_bif ?_
  | refine we_isi ?_
  | refine we_rev ?_
  | refine weo_none ?_
  | refine weo_some ?_
  | refine wes_nil ?_
  | refine wes_cons ?_
  | refine was_nil ?_
  | refine was_val ?_
  | refine was_lam rfl ?_
  | refine wc_none ?_
  | refine wc_some ?_
  | refine wr_seq ?_
  | refine wr_zip ?_
  | refine wr_enum ?_
  | refine wr_rng1 ?_
  | refine wr_rng2 ?_
  | refine And.intro (Nat.le_of_ble_eq_true rfl) ?_
  | refine Exists.intro _ (And.intro rfl ?_)
  | refine Exists.intro _ (And.intro (Or.inl rfl) ?_)
  | refine Exists.intro _ (And.intro (Or.inr rfl) ?_)
  | refine Exists.intro _ (Exists.intro _ (And.intro (Or.inl (And.intro rfl rfl)) ?_))
  | refine Exists.intro _ (And.intro (Or.inr (Or.inl rfl)) ?_)
  | with_reducible refine if_t ?_
  | with_reducible refine if_f ?_
  | with_reducible refine if_nt ?_
  | with_reducible refine if_nf ?_
  | with_reducible refine if_n ?_
  | with_reducible refine g_add ?_
  | with_reducible refine g_sub ?_
  | with_reducible refine g_neg ?_
  | with_reducible refine g_lt ?_
  | with_reducible refine g_le ?_
  | with_reducible refine g_gt ?_
  | with_reducible refine g_ge ?_
  | with_reducible refine g_eqI ?_
  | with_reducible refine g_neI ?_
  | with_reducible refine g_lenf ?_
  | with_reducible refine g_lenfT ?_
  | with_reducible refine g_lenT0 ?_
  | with_reducible refine g_lenT1 ?_
  | with_reducible refine g_lenT2 ?_
  | with_reducible refine g_lenT3 ?_
  | with_reducible refine g_lenT4 ?_
  | with_reducible refine g_len ?_
  | with_reducible refine g_lenT ?_
  | with_reducible refine g_idx0 ?_
  | with_reducible refine g_idx1 ?_
  | with_reducible refine g_idx2 ?_
  | with_reducible refine g_isnB ?_
  | with_reducible refine g_isB ?_
  | ((with_reducible apply g_idx); exact rfl)
  | ((with_reducible apply g_bif); exact rfl)
  | ((with_reducible apply g_eqS); (· decide +kernel); (· decide +kernel))
  | ((with_reducible apply g_neS); (· decide +kernel); (· decide +kernel))
  | ((with_reducible apply g_in); assumption)
  | ((with_reducible apply g_in); exact rfl)
  | refine if_eqt (by decide +kernel) ?_
  | refine if_eqf (by decide +kernel) ?_
  | fail)
theorem ten {a : Nat} (h : a ≤ 1000000) : a ≤ sizeLine := Nat.le_trans h (Nat.le_of_ble_eq_true rfl)
theorem atI_nat {α : Type} {l : List α} {i : Nat} {d : α} (h : l[i]? = some d) : L2.atI l (i : Int) = some d := by
  have hi : i < l.length := by
    obtain ⟨z, _⟩ := List.getElem?_eq_some_iff.mp h
    exact z
  unfold L2.atI L2.ixN
  rw [if_pos (by omega), if_pos (by omega)]
  show l[((i : Int)).toNat]? = _
  rw [Int.toNat_natCast]
  exact h
theorem idx_lst {l : List D} {i : Nat} {x : Int} {d : D} (hx : x = (i : Int)) (h : l[i]? = some d) : idxD (.lst l) (.int x) = some d := by
  subst hx
  exact atI_nat h
theorem flat_rep {α : Type} (a : α) : ∀ n : Nat, (List.replicate n [a]).flatten = List.replicate n a
  | 0 => rfl
  | n + 1 => by
    rw [List.replicate_succ, List.replicate_succ, List.flatten_cons, flat_rep a n]
    rfl
theorem mul_bl {b : Bool} {n : Nat} {x : Int} (hx : x = (n : Int)) (hn : n ≤ 100000) : binD .Mult (.lst [.bl b]) (.int x) = some (.lst (flg (fun _ => b) n)) := by
  subst hx
  have h : repOk 1 (n : Int) = true := by
    unfold repOk
    rw [decide_eq_true (show -(2 ^ 63) ≤ (n : Int) by omega), decide_eq_true (show (n : Int) < 2 ^ 63 by omega), decide_eq_true (show 1 * ((n : Int)).toNat ≤ sizeLine from ten (by omega))]
    rfl
  show (if repOk 1 (n : Int) = true then some (D.lst (List.replicate ((n : Int)).toNat [D.bl b]).flatten) else none) = _
  rw [if_pos h, Int.toNat_natCast, ← flg_const]
  rw [flat_rep]
theorem cut_fl {f : Nat → Bool} {n a c : Nat} {x y : Int} (hx : x = (a : Int)) (hy : y = (c : Int)) (h1 : a ≤ c) (h2 : c ≤ n) : slcD (.lst (flg f n)) (some x) (some y) = some (.lst (flg (fun i => f (a + i)) (c - a))) := by
  subst hx hy
  show some (D.lst (((flg f n).drop (HT.sIx (flg f n).length 0 (some (a : Int)))).take (HT.sIx (flg f n).length (flg f n).length (some (c : Int)) - HT.sIx (flg f n).length 0 (some (a : Int))))) = _
  rw [HT.sIx_nat, HT.sIx_nat, flg_len, Nat.min_eq_left (by omega), Nat.min_eq_left (by omega), flg_drop (by omega), flg_take (by omega)]
theorem cut_to {f : Nat → Bool} {n c : Nat} {y : Int} (hy : y = (c : Int)) (h2 : c ≤ n) : slcD (.lst (flg f n)) none (some y) = some (.lst (flg f c)) := by
  subst hy
  show some (D.lst (((flg f n).drop (HT.sIx (flg f n).length 0 none)).take (HT.sIx (flg f n).length (flg f n).length (some (c : Int)) - HT.sIx (flg f n).length 0 none))) = _
  rw [HT.sIx_nat, HT.sIx_none, flg_len, Nat.min_eq_left (by omega), List.drop_zero, Nat.sub_zero, flg_take (by omega)]
theorem cut_from {f : Nat → Bool} {n a : Nat} {x : Int} (hx : x = (a : Int)) (h2 : a ≤ n) : slcD (.lst (flg f n)) (some x) none = some (.lst (flg (fun i => f (a + i)) (n - a))) := by
  subst hx
  show some (D.lst (((flg f n).drop (HT.sIx (flg f n).length 0 (some (a : Int)))).take (HT.sIx (flg f n).length (flg f n).length none - HT.sIx (flg f n).length 0 (some (a : Int))))) = _
  rw [HT.sIx_nat, HT.sIx_none, flg_len, Nat.min_eq_left (by omega), flg_drop (by omega), flg_take (by omega)]
theorem put_fl {f : Nat → Bool} {n j : Nat} {b : Bool} {x : Int} (hx : x = (j : Int)) (h : j < n) : putD (flg f n) x (.bl b) = some (flg (fun i => if i = j then b else f i) n) := by
  subst hx
  unfold putD L2.ixN
  rw [flg_len, if_pos (by omega), if_pos (by omega)]
  show some ((flg f n).set ((j : Int)).toNat (.bl b)) = _
  rw [Int.toNat_natCast, flg_set h]
theorem bin_mod {i j : Int} (h : 0 < j) : binD .Mod (.int i) (.int j) = some (.int (i % j)) := by
  show (if decide (0 < j) = true then some (D.int (i % j)) else none) = _
  rw [decide_eq_true h, if_pos rfl]
theorem bin_lst {xs ys : List D} (h : xs.length + ys.length ≤ sizeLine) : binD .Add (.lst xs) (.lst ys) = some (.lst (xs ++ ys)) := if_pos (decide_eq_true h)
theorem lt_int {a b : Int} {c : Bool} (h : c = true ↔ a < b) : cmpD .Lt (.int a) (.int b) = some (.bl c) := by
  have e : decide (a < b) = c := by
    cases c with
    | true => exact decide_eq_true (h.mp rfl)
    | false => exact decide_eq_false fun z => Bool.false_ne_true (h.mpr z)
  show some (D.bl (decide (a < b))) = _
  rw [e]
theorem gt_int {a b : Int} {c : Bool} (h : c = true ↔ b < a) : cmpD .Gt (.int a) (.int b) = some (.bl c) := by
  have e : decide (b < a) = c := by
    cases c with
    | true => exact decide_eq_true (h.mp rfl)
    | false => exact decide_eq_false fun z => Bool.false_ne_true (h.mpr z)
  show some (D.bl (decide (b < a))) = _
  rw [e]
theorem cmp_eq {x y : D} {c : Bool} (h : eqD x y = some c) : cmpD .Eq x y = some (.bl c) := by
  show (eqD x y).map D.bl = _
  rw [h]
  rfl
theorem cmp_ne {x y : D} {c : Bool} (h : eqD x y = some c) : cmpD .NotEq x y = some (.bl !c) := by
  show (eqD x y).map (fun b => D.bl !b) = _
  rw [h]
  rfl
/-- the days below n -/
def dys (f : Nat → Bool) (n : Nat) : List Nat := (List.range n).filter f
def nT (l : List Nat) : List D := l.map fun (j : Nat) => .int (j : Int)
def fD (b p : Nat) (f : Nat → Bool) : D := .tup [.int (b : Int), .int (p : Int), .tup (nT (dys f (b + p)))]
theorem mem_dys {f : Nat → Bool} {n i : Nat} : i ∈ dys f n ↔ i < n ∧ f i = true := by
  unfold dys
  rw [List.mem_filter, List.mem_range]
/-- what forms want -/
structure LCore (T : Tab) (L : Nat) : Prop where
  hL : 100001 ≤ L
  raw_flags : T.fn "raw_flags" = some i_raw_flags
  check_width : T.fn "check_width" = some i_check_width
  least_span : T.fn "least_span" = some i_least_span
  form_by : T.fn "form_by" = some i_form_by
  c_f : globD T.con "MOST_FORM" = some (.int 20000)
section
variable {T : Tab} {L : Nat} (B : LCore T L) variable {k : Nat} {o : Objs} {b p m : Nat} {f : Nat → Bool} {x y : Int}
include B in
theorem v_raw_flags (hx : x = (m : Int)) (hp : 0 < p) (per : Per f b p) (hb : b + p ≤ 20000) (hm : m ≤ 100000) : cf T L (k + 1) "raw_flags" [.val (fD b p f), .val (.int x)] o = .ok (.lst (flg f m)) o := by
  have hL := B.hL
  refine cf_p B.raw_flags rfl ?_
  repeat infer_instance
  refine ⟨_, mul_bl (n := b + p) (Int.natCast_add _ _).symm (by omega), ?_⟩
  repeat infer_instance
  refine ws_for (fun j ρ o' => o = o' ∧ ∃ s, ρ = [.val (fD b p f), .val (.int x), .val (.int (b : Int)), .val (.int (p : Int)), .val (.tup (nT (dys f (b + p)))), .own (.lst (flg (fun i => decide (i ∈ (dys f (b + p)).take j)) (b + p))), s]) ?_
  repeat infer_instance
  have e0 : flg (fun i => decide (i ∈ (dys f (b + p)).take 0)) (b + p) = flg (fun _ => false) (b + p) := flg_congr fun i hi => by
    rw [List.take_zero]
    exact decide_eq_false List.not_mem_nil
  refine ⟨⟨rfl, .none, by rw [e0]; rfl⟩, ?_, ?_⟩
  · rintro i ρ o' d hd ⟨rfl, s, rfl⟩
    have hd' := hd
    unfold nT at hd'
    rw [List.getElem?_map] at hd'
    obtain ⟨j, h1, rfl⟩ := Option.map_eq_some_iff.mp hd'
    have hj : j < b + p := (mem_dys.mp (List.mem_of_getElem? h1)).1
    refine ⟨_, rfl, ?_⟩
    have e1 : flg (fun a => if a = j then true else decide (a ∈ (dys f (b + p)).take i)) (b + p) = flg (fun a => decide (a ∈ (dys f (b + p)).take (i + 1))) (b + p) := flg_congr fun a ha => by
      rw [List.take_add_one, h1]
      by_cases z : a = j
      · rw [if_pos z, z]
        exact (decide_eq_true (List.mem_append_right _ (List.mem_singleton.mpr rfl))).symm
      · rw [if_neg z]
        congr 1
        refine propext ⟨fun h => List.mem_append_left _ h, fun h => ?_⟩
        rcases List.mem_append.mp h with h | h
        · exact h
        · exact absurd (List.mem_singleton.mp h) z
    repeat infer_instance
    refine ⟨_, _, rfl, put_fl rfl hj, ?_⟩
    repeat infer_instance
    exact ⟨rfl, _, by rw [e1]; rfl⟩
  · rintro ρ o' ⟨rfl, s, rfl⟩
    have e : flg (fun i => decide (i ∈ (dys f (b + p)).take (nT (dys f (b + p))).length)) (b + p) = flg f (b + p) := flg_congr fun i hi => by
      unfold nT
      rw [List.length_map, List.take_length]
      cases q : f i with
      | true => exact decide_eq_true (mem_dys.mpr ⟨hi, q⟩)
      | false => exact decide_eq_false fun z => by rw [(mem_dys.mp z).2] at q; cases q
    rw [e]
    repeat infer_instance
    refine ws_whl (fun j ρ o' => o = o' ∧ ∃ t, m ≤ j + (b + p * (t + 1)) ∧ b + p * (t + 1) ≤ 20000 + m + p ∧ ρ = [.val (fD b p f), .val (.int x), .val (.int (b : Int)), .val (.int (p : Int)), .val (.tup (nT (dys f (b + p)))), .own (.lst (flg f (b + p * (t + 1)))), s]) (m := m) ?_ (by omega) ?_
    · exact ⟨rfl, 0, by omega, by omega, by rw [Nat.zero_add, Nat.mul_one]⟩
    · rintro j ρ o' ⟨rfl, t, h1, h2, rfl⟩
      repeat infer_instance
      refine ⟨fun h => ?_, fun h => ?_⟩
      · have l : b + p * (t + 1) < m := by
          have := of_decide_eq_true h
          omega
        have e2 : p * (t + 1 + 1) = p * (t + 1) + p := Nat.mul_succ _ _
        have e4 : p ≤ p * (t + 1) := Nat.le_mul_of_pos_right _ (by omega)
        refine ⟨j - 1, by omega, ?_⟩
        repeat infer_instance
        refine ⟨_, cut_fl (a := b) (c := b + p) rfl (Int.natCast_add _ _).symm (by omega) (by omega), ?_⟩
        repeat infer_instance
        refine ⟨by rw [flg_len, flg_len]; exact ten (by omega), ?_⟩
        rw [flg_app]
        repeat infer_instance
        refine ⟨rfl, t + 1, by omega, by omega, ?_⟩
        have e3 : flg (fun i => if i < b + p * (t + 1) then f i else f (b + (i - (b + p * (t + 1))))) (b + p * (t + 1) + (b + p - b)) = flg f (b + p * (t + 1 + 1)) := by
          rw [show b + p * (t + 1) + (b + p - b) = b + p * (t + 1 + 1) by omega]
          refine flg_congr fun i hi => ?_
          by_cases z : i < b + p * (t + 1)
          · rw [if_pos z]
          · rw [if_neg z, ← per.mul (t + 1) (b + _) (by omega)]
            congr 1
            omega
        rw [e3]
        rfl
      · have l : m ≤ b + p * (t + 1) := by
          have := of_decide_eq_false h
          omega
        repeat infer_instance
        refine ⟨_, cut_to hx l, ?_⟩
        exact ⟨rfl, rfl⟩
end
end Lib

set_option maxHeartbeats 2000000
/-! Lh: the least form of flags. -/
namespace Lib
open PySem Ev
local macro_rules | `(tactic| infer_instance) => `(tactic| first
  | refine wss_cons ?_
  | refine wss_nil ?_
  | refine ws_set ?_
  | refine ws_setOwn ?_
  | refine ws_par ?_
  | refine ws_parO ?_
  | refine ws_expr ?_
  | refine ws_ret ?_
  | refine ws_retN ?_
  | refine ws_retObj ?_
  | refine ws_ife ?_
  | refine ws_append rfl ?_
  | refine ws_extend rfl ?_
  | refine ws_put rfl ?_
  | refine ws_putO rfl ?_
  | refine ws_aug rfl ?_
  | refine ws_frz ?_
  | refine ws_pass ?_
  | refine ws_newDic ?_
  | refine we_var rfl ?_
  | refine we_bor rfl ?_
  | refine we_int ?_
  | refine we_bl ?_
  | refine we_non ?_
  | refine we_str ?_
  | refine we_tup ?_
  | refine we_lst ?_
  | refine we_dnew ?_
  | refine we_bin ?_
  | refine we_neg ?_
  | refine we_not ?_
  | refine we_and ?_
  | refine we_or ?_
  | refine we_cmp ?_
  | refine we_chain ?_
  | refine we_ite ?_
  | refine we_slc ?_
  | refine we_idx ?_
  | refine we_glob (by assumption) ?_
  | refine we_gin (by assumption) ?_
  | refine we_gidx (by assumption) ?_
  | refine we_gget (by assumption) ?_
  | refine we_call ?_
  | refine we_callv rfl ?_
  | refine we_bif ?_
  | refine we_isi ?_
  | refine we_rev ?_
  | refine weo_none ?_
  | refine weo_some ?_
  | refine wes_nil ?_
  | refine wes_cons ?_
  | refine was_nil ?_
  | refine was_val ?_
  | refine was_lam rfl ?_
  | refine wc_none ?_
  | refine wc_some ?_
  | refine wr_seq ?_
  | refine wr_zip ?_
  | refine wr_enum ?_
  | refine wr_rng1 ?_
  | refine wr_rng2 ?_
  | refine And.intro (Nat.le_of_ble_eq_true rfl) ?_
  | refine Exists.intro _ (And.intro rfl ?_)
  | refine Exists.intro _ (And.intro (Or.inl rfl) ?_)
  | refine Exists.intro _ (And.intro (Or.inr rfl) ?_)
  | refine Exists.intro _ (Exists.intro _ (And.intro (Or.inl (And.intro rfl rfl)) ?_))
  | refine Exists.intro _ (And.intro (Or.inr (Or.inl rfl)) ?_)
  | with_reducible refine if_t ?_
  | with_reducible refine if_f ?_
  | with_reducible refine if_nt ?_
  | with_reducible refine if_nf ?_
  | with_reducible refine if_n ?_
  | with_reducible refine g_add ?_
  | with_reducible refine g_sub ?_
  | with_reducible refine g_neg ?_
  | with_reducible refine g_lt ?_
  | with_reducible refine g_le ?_
  | with_reducible refine g_gt ?_
  | with_reducible refine g_ge ?_
  | with_reducible refine g_eqI ?_
  | with_reducible refine g_neI ?_
  | with_reducible refine g_lenf ?_
  | with_reducible refine g_lenfT ?_
  | with_reducible refine g_lenT0 ?_
  | with_reducible refine g_lenT1 ?_
  | with_reducible refine g_lenT2 ?_
  | with_reducible refine g_lenT3 ?_
  | with_reducible refine g_lenT4 ?_
  | with_reducible refine g_len ?_
  | with_reducible refine g_lenT ?_
  | with_reducible refine g_idx0 ?_
  | with_reducible refine g_idx1 ?_
  | with_reducible refine g_idx2 ?_
  | with_reducible refine g_isnB ?_
  | with_reducible refine g_isB ?_
  | ((with_reducible apply g_idx); exact rfl)
  | ((with_reducible apply g_bif); exact rfl)
  | ((with_reducible apply g_eqS); (· decide +kernel); (· decide +kernel))
  | ((with_reducible apply g_neS); (· decide +kernel); (· decide +kernel))
  | ((with_reducible apply g_in); assumption)
  | ((with_reducible apply g_in); exact rfl)
  | refine if_eqt (by decide +kernel) ?_
  | refine if_eqf (by decide +kernel) ?_
  | fail)
theorem rgD_get {s n i : Nat} {d : D} (h : (rgD s n)[i]? = some d) : i < n ∧ d = .int ((s + i : Nat) : Int) := by
  unfold rgD at h
  obtain ⟨z, e⟩ := List.getElem?_eq_some_iff.mp h
  rw [List.length_map, List.length_range'] at z
  rw [List.getElem_map, List.getElem_range'] at e
  exact ⟨z, by rw [← e, Nat.one_mul]⟩
theorem rgD_len {s n : Nat} : (rgD s n).length = n := by
  unfold rgD
  rw [List.length_map, List.length_range']
/-- a ring turned by t is itself -/
def Rot (h : Nat → Bool) (n t : Nat) : Prop := ∀ i, i < n → (if i < n - t then h (t + i) else h (i - (n - t))) = h i
theorem rot_per {f : Nat → Bool} {b n t : Nat} (hn : 0 < n) (h : Per f b n) (ht : t ≤ n) : Per f b t ↔ Rot (fun i => f (b + i)) n t := by
  rw [per_iff_rot hn h ht]
  unfold Rot
  constructor
  · intro z i hi
    have := z i hi
    split at this
    · rename_i q
      rw [if_pos q]
      exact this
    · rename_i q
      rw [if_neg q]
      exact this
  · intro z i hi
    have := z i hi
    split at this
    · rename_i q
      rw [if_pos q]
      exact this
    · rename_i q
      rw [if_neg q]
      exact this
theorem dec_iff {p : Prop} [Decidable p] : decide p = true ↔ p := decide_eq_true_iff
section
variable {T : Tab} {L : Nat} (B : LCore T L) variable {k : Nat} {o : Objs} {b p m n : Nat} {f h : Nat → Bool} {x y : Int}
include B in
theorem v_least_span (hn : 0 < n) (hb : n ≤ 20000) : ∃ s : Nat, cf T L (k + 1) "least_span" [.val (.lst (flg h n))] o = .ok (.int (s : Int)) o ∧ 0 < s ∧ s ≤ n ∧ Rot h n s ∧ ∀ t, 0 < t → t < s → t ∣ n → ¬ Rot h n t := by
  obtain ⟨d, o', h1, h2, s, rfl, rfl, h3⟩ := cf_w (T := T) (L := L) (k := k) (o := o) (sl := [.val (.lst (flg h n))]) (P := fun d o' => ∃ s : Nat, d = .int (s : Int) ∧ o = o' ∧ 0 < s ∧ s ≤ n ∧ Rot h n s ∧ ∀ t, 0 < t → t < s → t ∣ n → ¬ Rot h n t) B.least_span rfl (by
    repeat infer_instance
    refine ws_for (fun j ρ o' => o = o' ∧ (∃ s', ρ = [.val (.lst (flg h n)), s']) ∧ ∀ t, 0 < t → t < j + 1 → t ∣ n → ¬ Rot h n t) ?_
    repeat infer_instance
    refine ⟨_, _, 1, n, rfl, rfl, rfl, by omega, by omega, ?_⟩
    refine ⟨⟨rfl, ⟨.none, rfl⟩, fun t h1 h2 => by omega⟩, ?_, ?_⟩
    · rintro i ρ o' d hd ⟨rfl, ⟨s', rfl⟩, hI⟩
      obtain ⟨hi, rfl⟩ := rgD_get hd
      refine ⟨_, rfl, ?_⟩
      repeat infer_instance
      refine ⟨_, bin_mod (by omega), ?_⟩
      repeat infer_instance
      refine ⟨fun hc => ?_, fun hc => ?_⟩
      · have hc := of_decide_eq_true hc
        repeat infer_instance
        refine ⟨_, cut_from (a := 1 + i) rfl (by omega), ?_⟩
        repeat infer_instance
        refine ⟨_, cut_to (c := 1 + i) rfl (by omega), ?_⟩
        repeat infer_instance
        refine ⟨_, bin_lst (by rw [flg_len, flg_len]; exact ten (by omega)), ?_⟩
        rw [flg_app, show n - (1 + i) + (1 + i) = n by omega]
        repeat infer_instance
        by_cases q : Rot h n (1 + i)
        · refine ⟨_, cmp_eq (eqD_flgL (b := true) ⟨fun _ => q, fun _ => rfl⟩), ?_⟩
          repeat infer_instance
          refine ⟨by trivial, 1 + i, rfl, rfl, by omega, by omega, q, fun t h1 h2 => hI t h1 (by omega)⟩
        · refine ⟨_, cmp_eq (eqD_flgL (b := false) ⟨fun z => (nomatch z), fun z => (q z).elim⟩), ?_⟩
          repeat infer_instance
          refine ⟨rfl, ⟨_, rfl⟩, fun t h1 h2 h3 => ?_⟩
          by_cases z : t = 1 + i
          · rw [z]
            exact q
          · exact hI t h1 (by omega) h3
      · have hc := of_decide_eq_false hc
        repeat infer_instance
        refine ⟨rfl, ⟨_, rfl⟩, fun t h1 h2 h3 => ?_⟩
        by_cases z : t = 1 + i
        · refine absurd ?_ hc
          rw [← z]
          exact_mod_cast Nat.mod_eq_zero_of_dvd h3
        · exact hI t h1 (by omega) h3
    · rintro ρ o' ⟨rfl, ⟨s', rfl⟩, hI⟩
      rw [rgD_len] at hI
      repeat infer_instance
      refine ⟨by trivial, n, rfl, rfl, hn, Nat.le_refl _, fun i hi => ?_, fun t h1 h2 => hI t h1 (by omega)⟩
      rw [if_neg (by omega), Nat.sub_self, Nat.sub_zero])
  exact ⟨s, h1, h3⟩
/-- no more than is gone through -/
theorem check_width_ok (h0 : T.fn "check_width" = some i_check_width) (h1 : globD T.con "MOST_FORM" = some (.int 20000)) (h : x + y ≤ 20000) : cf T L (k + 1) "check_width" [.val (.int x), .val (.int y)] o = .ok .non o := by
  refine cf_p h0 rfl ?_
  repeat infer_instance
  refine ⟨fun z => ?_, fun z => ?_⟩
  · have := of_decide_eq_true z
    omega
  · repeat infer_instance
    exact ⟨rfl, rfl⟩
theorem enD_flg {f : Nat → Bool} {n : Nat} : enD 0 (flg f n) = (List.range n).map fun (i : Nat) => D.tup [.int (i : Int), .bl (f i)] := by
  unfold enD
  rw [flg_len, ← List.range_eq_range']
  refine List.ext_getElem? fun i => ?_
  rw [List.getElem?_zipWith, List.getElem?_map]
  by_cases z : i < n
  · rw [List.getElem?_range z, flg_get z]
    rfl
  · rw [List.getElem?_eq_none (by rw [List.length_range]; omega)]
    rfl
def sndB : D → Bool
  | .tup [_, .bl b] => b
  | _ => false
def fstD : D → D
  | .tup [a, _] => a
  | _ => .non
theorem enD_fil {f : Nat → Bool} {n : Nat} : ((enD 0 (flg f n)).filter sndB).map fstD = nT (dys f n) := by
  rw [enD_flg, List.filter_map, List.map_map]
  rfl
include B in
theorem v_form_by (hx : x = (b : Int)) (hp : 0 < p) (per : Per f b p) (hb : b + p ≤ 20000) {b' p' : Nat} (hl : Least f b' p') : cf T L (k + 2) "form_by" [.val (.int x), .val (.lst (flg f (b + p)))] o = .ok (fD b' p' f) o := by
  have hL := B.hL
  obtain ⟨s, h1, h2, h3, h4, h5⟩ := v_least_span (k := k) (o := o) (h := fun i => f (b + i)) B hp (by omega)
  have hs : Per f b s := (rot_per hp per h3).mpr h4
  have hm := least_of hp per h2 hs fun t z1 z2 z3 z4 => h5 t z1 z2 z3 ((rot_per hp per (by omega)).mp z4)
  have es : s = p' := Nat.le_antisymm (hm _ _ hl.pos hl.per) (hl.min _ _ h2 hs)
  subst es
  have hb' : b' ≤ b := hl.low _ hs
  refine cf_p B.form_by rfl ?_
  repeat infer_instance
  refine ⟨_, cut_from (a := b) hx (by omega), ?_⟩
  rw [show b + p - b = p by omega]
  repeat infer_instance
  refine ⟨_, _, h1, ?_⟩
  repeat infer_instance
  refine ⟨_, cut_to (c := b + s) (by omega) (by omega), ?_⟩
  repeat infer_instance
  refine ws_whl (fun j ρ o' => o = o' ∧ j + b' ≤ b ∧ ∃ c : Nat, c = j + b' ∧ Per f c s ∧ ρ = [.val (.int (c : Int)), .val (.lst (flg f (b + p))), .val (.int (s : Int)), .val (.lst (flg f (b + s))), .none, .none]) (m := b - b') ⟨rfl, by omega, b, by omega, hs, by rw [hx]; rfl⟩ (by omega) ?_
  rintro j ρ o' ⟨rfl, hj, c, hc, hper, rfl⟩
  have tail : WSs (cf T L (k + 1)) (cc T L (k + 1)) T.con T.isa L (.cons s_form_by_6 (.cons s_form_by_8 .nil)) [.val (.int (b' : Int)), .val (.lst (flg f (b + p))), .val (.int (s : Int)), .val (.lst (flg f (b + s))), .none, .none] o (fun ρ o' => fD b' s f = .non ∧ o' = o) (fun d o' => d = fD b' s f ∧ o' = o) := by
    repeat infer_instance
    refine ⟨_, _, check_width_ok B.check_width B.c_f (by omega), ?_⟩
    repeat infer_instance
    refine we_comp (f := fstD) (p := sndB) ?_
    repeat infer_instance
    refine ⟨_, cut_to (c := b' + s) (by omega) (by omega), ?_⟩
    repeat infer_instance
    refine ⟨?_, ?_, ?_⟩
    · intro d hd
      rw [enD_flg] at hd
      obtain ⟨i, hi, rfl⟩ := List.mem_map.mp hd
      refine ⟨_, rfl, ?_, fun z => ?_⟩
      · repeat infer_instance
        exact ⟨rfl, rfl⟩
      · repeat infer_instance
        exact ⟨rfl, rfl⟩
    · rw [enD_flg, List.length_map, List.length_range]
      exact ten (by omega)
    · rw [enD_fil]
      repeat infer_instance
      exact ⟨rfl, rfl⟩
  repeat infer_instance
  refine ⟨fun hc' => ?_, fun hc' => ?_⟩
  · have hc0 := of_decide_eq_true hc'
    have hc1 : 0 < c := by omega
    repeat infer_instance
    refine ⟨_, idx_lst (i := c - 1) (by omega) (flg_get (by omega)), ?_⟩
    repeat infer_instance
    refine ⟨_, idx_lst (i := c - 1 + s) (by omega) (flg_get (by omega)), ?_⟩
    repeat infer_instance
    refine ⟨_, cmp_eq (eqBl _ _), ?_⟩
    repeat infer_instance
    refine ⟨fun q => ?_, fun q => ?_⟩
    · have q := eq_of_beq q
      have hp1 : Per f (c - 1) s := per_back1 (by rw [Nat.sub_add_cancel hc1]; exact hper) q
      have := hl.low _ hp1
      refine ⟨j - 1, by omega, ?_⟩
      repeat infer_instance
      exact ⟨rfl, by omega, c - 1, by omega, hp1, by rw [show ((c - 1 : Nat) : Int) = (c : Int) - 1 by omega]; rfl⟩
    · have e : c = b' := Nat.le_antisymm (Nat.le_of_not_lt fun l => by
        have h8 := hl.per (c - 1) (by omega)
        rw [h8, beq_self_eq_true] at q
        cases q) (by omega)
      subst e
      exact tail
  · have hc0 := of_decide_eq_false hc'
    have e : c = b' := by omega
    subst e
    refine ⟨_, rfl, if_f tail⟩
end
end Lib

set_option maxHeartbeats 2000000
/-! Li: forms, asked. -/
namespace Lib
open PySem Ev
local macro_rules | `(tactic| infer_instance) => `(tactic| first
  | refine wss_cons ?_
  | refine wss_nil ?_
  | refine ws_set ?_
  | refine ws_setOwn ?_
  | refine ws_par ?_
  | refine ws_parO ?_
  | refine ws_expr ?_
  | refine ws_ret ?_
  | refine ws_retN ?_
  | refine ws_retObj ?_
  | refine ws_ife ?_
  | refine ws_append rfl ?_
  | refine ws_extend rfl ?_
  | refine ws_put rfl ?_
  | refine ws_putO rfl ?_
  | refine ws_aug rfl ?_
  | refine ws_frz ?_
  | refine ws_pass ?_
  | refine ws_newDic ?_
  | refine we_var rfl ?_
  | refine we_bor rfl ?_
  | refine we_int ?_
  | refine we_bl ?_
  | refine we_non ?_
  | refine we_str ?_
  | refine we_tup ?_
  | refine we_lst ?_
  | refine we_dnew ?_
  | refine we_bin ?_
  | refine we_neg ?_
  | refine we_not ?_
  | refine we_and ?_
  | refine we_or ?_
  | refine we_cmp ?_
  | refine we_chain ?_
  | refine we_ite ?_
  | refine we_slc ?_
  | refine we_idx ?_
  | refine we_glob (by assumption) ?_
  | refine we_gin (by assumption) ?_
  | refine we_gidx (by assumption) ?_
  | refine we_gget (by assumption) ?_
  | refine we_call ?_
  | refine we_callv rfl ?_
  | refine we_bif ?_
  | refine we_isi ?_
  | refine we_rev ?_
  | refine weo_none ?_
  | refine weo_some ?_
  | refine wes_nil ?_
  | refine wes_cons ?_
  | refine was_nil ?_
  | refine was_val ?_
  | refine was_lam rfl ?_
  | refine wc_none ?_
  | refine wc_some ?_
  | refine wr_seq ?_
  | refine wr_zip ?_
  | refine wr_enum ?_
  | refine wr_rng1 ?_
  | refine wr_rng2 ?_
  | refine And.intro (Nat.le_of_ble_eq_true rfl) ?_
  | refine Exists.intro _ (And.intro rfl ?_)
  | refine Exists.intro _ (And.intro (Or.inl rfl) ?_)
  | refine Exists.intro _ (And.intro (Or.inr rfl) ?_)
  | refine Exists.intro _ (Exists.intro _ (And.intro (Or.inl (And.intro rfl rfl)) ?_))
  | refine Exists.intro _ (And.intro (Or.inr (Or.inl rfl)) ?_)
  | with_reducible refine if_t ?_
  | with_reducible refine if_f ?_
  | with_reducible refine if_nt ?_
  | with_reducible refine if_nf ?_
  | with_reducible refine if_n ?_
  | with_reducible refine g_add ?_
  | with_reducible refine g_sub ?_
  | with_reducible refine g_neg ?_
  | with_reducible refine g_lt ?_
  | with_reducible refine g_le ?_
  | with_reducible refine g_gt ?_
  | with_reducible refine g_ge ?_
  | with_reducible refine g_eqI ?_
  | with_reducible refine g_neI ?_
  | with_reducible refine g_lenf ?_
  | with_reducible refine g_lenfT ?_
  | with_reducible refine g_lenT0 ?_
  | with_reducible refine g_lenT1 ?_
  | with_reducible refine g_lenT2 ?_
  | with_reducible refine g_lenT3 ?_
  | with_reducible refine g_lenT4 ?_
  | with_reducible refine g_len ?_
  | with_reducible refine g_lenT ?_
  | with_reducible refine g_idx0 ?_
  | with_reducible refine g_idx1 ?_
  | with_reducible refine g_idx2 ?_
  | with_reducible refine g_isnB ?_
  | with_reducible refine g_isB ?_
  | ((with_reducible apply g_idx); exact rfl)
  | ((with_reducible apply g_bif); exact rfl)
  | ((with_reducible apply g_eqS); (· decide +kernel); (· decide +kernel))
  | ((with_reducible apply g_neS); (· decide +kernel); (· decide +kernel))
  | ((with_reducible apply g_in); assumption)
  | ((with_reducible apply g_in); exact rfl)
  | refine if_eqt (by decide +kernel) ?_
  | refine if_eqf (by decide +kernel) ?_
  | fail)
/-- a form, of whatever thing -/
def formB (d : D) : Bool := match d with
  | .tup [a, b, c] => (wi a 0 20000 && wi b 1 20000) && (decide (toI a + toI b ≤ 20000) && lotB c (toI a + toI b))
  | _ => false
section
variable {T : Tab} {L : Nat} (A : LCal T) (B : LCore T L) variable {k : Nat} {o : Objs} {b p m n : Nat} {f h : Nat → Bool} {x y : Int}
include A in
theorem v_is_form (h0 : T.fn "is_form" = some i_is_form) (hc : globD T.con "MOST_FORM" = some (.int 20000)) (d : D) (h : nQ d = true) (hm : sm1 d = true) : cf T L (k + 4) "is_form" [.val d] o = .ok (.bl (formB d)) o := by
  refine cf_p h0 rfl ?_
  repeat infer_instance
  refine ⟨_, _, v_is_sized A d 3 3 (nQ_ok h), ?_⟩
  repeat infer_instance
  cases q : szT d 3 3 with
  | false =>
    repeat infer_instance
    refine ⟨?_, rfl⟩
    congr 1
    unfold formB
    split
    · exact absurd q (by simp [szT])
    · rfl
  | true =>
    cases d with
    | tup ds =>
      obtain ⟨u, v, w, rfl⟩ := sz3 q
      have hn := nQs_mem (nQ_tup h)
      have nu := hn u (by simp)
      have nv := hn v (by simp)
      have nw := hn w (by simp)
      have mw := List.all_eq_true.mp hm w (by simp)
      repeat infer_instance
      refine ⟨_, _, v_is_within A u 0 20000 (nQ_ok nu), ?_⟩
      repeat infer_instance
      cases q1 : wi u 0 20000 with
      | false =>
        repeat infer_instance
        refine ⟨?_, rfl⟩
        unfold formB
        simp only [q1, Bool.false_and]
      | true =>
        repeat infer_instance
        refine ⟨_, _, v_is_within A v 1 20000 (nQ_ok nv), ?_⟩
        repeat infer_instance
        cases q2 : wi v 1 20000 with
        | false =>
          repeat infer_instance
          refine ⟨?_, rfl⟩
          unfold formB
          simp only [q2, Bool.false_and, Bool.and_false]
        | true =>
          repeat infer_instance
          obtain ⟨e1, _, _⟩ := wi_int q1
          obtain ⟨e2, _, _⟩ := wi_int q2
          have eq : formB (.tup [u, v, w]) = (decide (toI u + toI v ≤ 20000) && lotB w (toI u + toI v)) := by
            unfold formB
            simp only [q1, q2, Bool.true_and]
          rw [eq]
          generalize toI u = i at e1
          generalize toI v = j at e2
          subst e1 e2
          repeat infer_instance
          refine ⟨fun z => ?_, fun z => ?_⟩
          · repeat infer_instance
            refine ⟨_, _, v_is_lot A w (i + j) nw (smB_le mw), ?_⟩
            rw [z]
            exact ⟨rfl, rfl⟩
          · rw [z]
            exact ⟨rfl, rfl⟩
    | _ => cases q
theorem v_check_form (h0 : T.fn "check_form" = some i_check_form) {d : D} {c : Bool} (h : cf T L k "is_form" [.val d] o = .ok (.bl c) o) : cf T L (k + 1) "check_form" [.val d] o = if c then .ok .non o else .err "NoForm" [] o := by
  refine cf_ok h0 rfl ?_ (by repeat' (first | exact trunc_ok | exact trunc_err | split))
  simp only [s_check_form_1, s_check_form_2, i_check_form, exSs, exS, evE, evEs, evAs, evEo, evC, evSrc, evT, frame, getV, getB, Res.ofO, Res.bind, Res.st, SRes.seq, SRes.out, List.getElem?_cons_zero, List.getElem?_cons_succ, List.cons_append, List.nil_append, List.replicate, List.length_cons, List.length_nil, bindT, bindTs, List.set_cons_zero, List.set_cons_succ, frzF, wipeF, setsO, slotF, ownS, h]
  cases c <;> rfl
theorem nQ_tup' {ds : List D} (h : nQs ds = true) : nQ (.tup ds) = true := by
  unfold nQ
  exact h
theorem nQ_lst' {ds : List D} (h : nQs ds = true) : nQ (.lst ds) = true := by
  unfold nQ
  exact h
theorem nQs_cons {d : D} {ds : List D} (h1 : nQ d = true) (h2 : nQs ds = true) : nQs (d :: ds) = true := by
  unfold nQs
  rw [h1, h2]
  rfl
theorem nQs_nil : nQs [] = true := by
  unfold nQs
  rfl
theorem nQ_int (i : Int) : nQ (.int i) = true := by unfold nQ; rfl
theorem nQ_non : nQ .non = true := by unfold nQ; rfl
theorem nQ_bl (b : Bool) : nQ (.bl b) = true := by unfold nQ; rfl
theorem nQ_str (x : Str) : nQ (.str x) = true := by unfold nQ; rfl
theorem nQ_dct (x y : List D) : nQ (.dct x y) = true := by unfold nQ; rfl
theorem nQs_nT (l : List Nat) : nQs (nT l) = true := by
  unfold nT
  induction l with
  | nil => exact nQs_nil
  | cons a l ih => exact nQs_cons (nQ_int _) ih
theorem nQ_fD : nQ (fD b p f) = true := nQ_tup' (nQs_cons (nQ_int _) (nQs_cons (nQ_int _) (nQs_cons (nQ_tup' (nQs_nT _)) nQs_nil)))
theorem dys_len : (dys f n).length ≤ n := by
  unfold dys
  exact Nat.le_trans (List.length_filter_le _ _) (by rw [List.length_range]; exact Nat.le_refl _)
theorem nT_len (l : List Nat) : (nT l).length = l.length := List.length_map _
theorem ris_of : ∀ {l : List Int}, l.Pairwise (· < ·) → ris l = true
  | [], _ => rfl
  | [_], _ => rfl
  | a :: b :: l, h => by
    have h1 := List.pairwise_cons.mp h
    have ih := ris_of h1.2
    have e : ris (a :: b :: l) = (decide (a < b) && ris (b :: l)) := rfl
    rw [e, ih, decide_eq_true (h1.1 b List.mem_cons_self)]
    rfl
theorem dys_pw : (dys f n).Pairwise (· < ·) := List.Pairwise.filter _ List.pairwise_lt_range
theorem nT_ris {l : List Nat} (h : l.Pairwise (· < ·)) : ris ((nT l).filterMap asI) = true := by
  have e : (nT l).filterMap asI = l.map fun (j : Nat) => (j : Int) := by
    unfold nT
    rw [List.filterMap_map]
    show l.filterMap (some ∘ fun j : Nat => (j : Int)) = _
    rw [List.filterMap_eq_map]
  rw [e]
  refine ris_of (List.pairwise_map.mpr (h.imp fun z => ?_))
  omega
theorem lot_nT {l : List Nat} (h : l.Pairwise (· < ·)) (hn : ∀ i ∈ l, i < n) (hx : x = (n : Int)) : lotB (.tup (nT l)) x = true := by
  show (((nT l).all fun d => wi d 0 (x - 1)) && ris ((nT l).filterMap asI)) = true
  rw [nT_ris h, Bool.and_true, List.all_eq_true]
  intro d hd
  obtain ⟨i, hi, rfl⟩ := List.mem_map.mp hd
  have := hn i hi
  show (decide ((0 : Int) ≤ (i : Int)) && decide ((i : Int) ≤ x - 1)) = true
  rw [decide_eq_true (by omega), decide_eq_true (by omega)]
  rfl
theorem formB_fD (hp : 0 < p) (hb : b + p ≤ 20000) : formB (fD b p f) = true := by
  show ((decide ((0 : Int) ≤ (b : Int)) && decide ((b : Int) ≤ 20000)) && (decide ((1 : Int) ≤ (p : Int)) && decide ((p : Int) ≤ 20000)) && (decide ((b : Int) + (p : Int) ≤ 20000) && lotB (.tup (nT (dys f (b + p)))) ((b : Int) + (p : Int)))) = true
  rw [lot_nT dys_pw (n := b + p) (fun i hi => (mem_dys.mp hi).1) (Int.natCast_add _ _).symm, decide_eq_true (by omega), decide_eq_true (by omega), decide_eq_true (by omega), decide_eq_true (by omega), decide_eq_true (by omega)]
  rfl
theorem sm1_fD (hb : b + p ≤ 20000) : sm1 (fD b p f) = true := by
  show (smB (.int (b : Int)) && (smB (.int (p : Int)) && (smB (.tup (nT (dys f (b + p)))) && true))) = true
  have h : smB (.tup (nT (dys f (b + p)))) = true := by
    show decide ((nT (dys f (b + p))).length ≤ 1000000) = true
    rw [nT_len]
    exact decide_eq_true (by have := dys_len (f := f) (n := b + p); omega)
  rw [h]
  rfl
/-- is_form, check_form of a thing -/
structure LForm (T : Tab) (L : Nat) : Prop extends LCore T L where
  cal : LCal T
  is_form : T.fn "is_form" = some i_is_form
  check_form : T.fn "check_form" = some i_check_form
variable (E : LForm T L)
include E in
theorem ck_form (hp : 0 < p) (hb : b + p ≤ 20000) : cf T L (k + 5) "check_form" [.val (fD b p f)] o = .ok .non o := by
  rw [v_check_form E.check_form (v_is_form E.cal E.is_form E.c_f _ nQ_fD (sm1_fD hb)), formB_fD hp hb]
  rfl
include E in
theorem ck_bad {d : D} (h : nQ d = true) (hm : sm1 d = true) (hf : formB d = false) : cf T L (k + 5) "check_form" [.val d] o = .err "NoForm" [] o := by
  rw [v_check_form E.check_form (v_is_form E.cal E.is_form E.c_f _ h hm), hf]
  rfl
include B in
theorem v_raw_least (h0 : T.fn "raw_least" = some i_raw_least) (hp : 0 < p) (per : Per f b p) (hb : b + p ≤ 20000) {b' p' : Nat} (hl : Least f b' p') : cf T L (k + 3) "raw_least" [.val (fD b p f)] o = .ok (fD b' p' f) o := by
  refine cf_p h0 rfl ?_
  repeat infer_instance
  refine ⟨_, _, v_raw_flags B (m := b + p) (Int.natCast_add _ _).symm hp per hb (by omega), ?_⟩
  repeat infer_instance
  refine ⟨_, _, v_form_by B rfl hp per hb hl, ?_⟩
  exact ⟨rfl, rfl⟩
include E in
theorem v_least (h0 : T.fn "raw_least" = some i_raw_least) (h1 : T.fn "least" = some i_least) (hp : 0 < p) (per : Per f b p) (hb : b + p ≤ 20000) {b' p' : Nat} (hl : Least f b' p') : cf T L (k + 6) "least" [.val (fD b p f)] o = .ok (fD b' p' f) o := by
  refine cf_p h1 rfl ?_
  repeat infer_instance
  refine ⟨_, _, ck_form E hp hb, ?_⟩
  repeat infer_instance
  refine ⟨_, _, v_raw_least E.toLCore h0 hp per hb hl, ?_⟩
  exact ⟨rfl, rfl⟩
theorem pl_nT (l : List Nat) : plDs (nT l) = true ∧ dpDs (nT l) = 0 ∧ nbDs (nT l) = true := by
  unfold nT
  induction l with
  | nil => exact ⟨by unfold List.map plDs; rfl, by unfold List.map dpDs; rfl, by unfold List.map nbDs; rfl⟩
  | cons a l ih =>
    rw [List.map_cons]
    unfold plDs dpDs nbDs
    rw [ih.1, ih.2.1, ih.2.2]
    exact ⟨by unfold plD; rfl, by unfold dpD; rfl, by unfold nbD; rfl⟩
theorem pl_fD : plk (fD b p f) = true ∧ nbD (fD b p f) = true := by
  have z := pl_nT (dys f (b + p))
  unfold plk fD
  unfold plD dpD nbD
  unfold plDs dpDs nbDs
  unfold plDs dpDs nbDs
  unfold plDs dpDs nbDs
  unfold plDs dpDs nbDs
  unfold plD dpD nbD
  rw [z.1, z.2.1, z.2.2]
  exact ⟨by simp, by simp⟩
theorem fD_inj {b' p' : Nat} {g : Nat → Bool} (e : fD b p f = fD b' p' g) : b = b' ∧ p = p' ∧ ∀ i, i < b + p → f i = g i := by
  unfold fD at e
  injection e with e
  injection e with e1 e
  injection e with e2 e
  injection e with e3 e
  injection e1 with e1
  injection e2 with e2
  injection e3 with e3
  have h1 : b = b' := by omega
  have h2 : p = p' := by omega
  subst h1 h2
  refine ⟨rfl, rfl, fun i hi => ?_⟩
  have e4 : dys f (b + p) = dys g (b + p) := by
    unfold nT at e3
    refine (List.map_inj_right (fun a c z => ?_)).mp e3
    injection z with z
    omega
  have h3 := @mem_dys f (b + p) i
  rw [e4, mem_dys] at h3
  cases q1 : f i <;> cases q2 : g i
  · rfl
  · have := (h3.mp ⟨hi, q2⟩).2
    rw [q1] at this
    cases this
  · have := (h3.mpr ⟨hi, q1⟩).2
    rw [q2] at this
    cases this
  · rfl
theorem per_eq {b' : Nat} {g : Nat → Bool} (hp : 0 < p) (h1 : Per f b p) (h2 : Per g b p) (h : ∀ i, i < b + p → f i = g i) : ∀ i, f i = g i := fun i => by
  by_cases z : i < b
  · exact h i (by omega)
  · have := Nat.mod_lt (i - b) hp
    rw [h1.mod (n := i) (by omega), h2.mod (n := i) (by omega), h _ (by omega)]
/-- two forms, one -/
theorem eqD_fD {b' p' : Nat} {g : Nat → Bool} {c : Bool} (h : c = true ↔ fD b p f = fD b' p' g) : eqD (fD b p f) (fD b' p' g) = some c := eqD_b pl_fD.1 pl_fD.1 pl_fD.2 pl_fD.2 h
include E in
theorem v_is_least (h0 : T.fn "raw_least" = some i_raw_least) (h1 : T.fn "is_least" = some i_is_least) (hp : 0 < p) (per : Per f b p) (hb : b + p ≤ 20000) {b' p' : Nat} (hl : Least f b' p') {c : Bool} (hc : c = true ↔ b' = b ∧ p' = p) : cf T L (k + 6) "is_least" [.val (fD b p f)] o = .ok (.bl c) o := by
  refine cf_p h1 rfl ?_
  repeat infer_instance
  refine ⟨_, _, ck_form E hp hb, ?_⟩
  repeat infer_instance
  refine ⟨_, _, v_raw_least E.toLCore h0 hp per hb hl, ?_⟩
  repeat infer_instance
  refine ⟨_, cmp_eq (eqD_fD (c := c) ?_), ?_⟩
  · rw [hc]
    constructor
    · rintro ⟨rfl, rfl⟩
      rfl
    · intro e
      have := fD_inj e
      exact ⟨this.1, this.2.1⟩
  · exact ⟨rfl, rfl⟩
theorem inD_nT {l : List Nat} {n : Nat} {x : Int} (hx : x = (n : Int)) : inD (.int x) (.tup (nT l)) = some (decide (n ∈ l)) := by
  subst hx
  have e : nT l = (l.map fun (j : Nat) => (j : Int)).map D.int := by
    unfold nT
    rw [List.map_map]
    rfl
  rw [e, inD_ints]
  congr 1
  rw [Bool.eq_iff_iff, decide_eq_true_eq, decide_eq_true_eq, List.mem_map]
  constructor
  · rintro ⟨a, ha, ea⟩
    have : a = n := by omega
    subst this
    exact ha
  · exact fun h => ⟨n, h, rfl⟩
/-- a day of any size -/
theorem v_raw_has (h0 : T.fn "raw_has" = some i_raw_has) (hp : 0 < p) (per : Per f b p) (hx : x = (n : Int)) : cf T L (k + 1) "raw_has" [.val (fD b p f), .val (.int x)] o = .ok (.bl (f n)) o := by
  refine cf_p h0 rfl ?_
  repeat infer_instance
  refine ⟨fun z => ?_, fun z => ?_⟩
  · have z := of_decide_eq_true z
    repeat infer_instance
    refine ⟨_, by show (inD _ _).map D.bl = _; rw [inD_nT (n := n) hx]; rfl, ?_⟩
    refine ⟨?_, rfl⟩
    congr 1
    rw [Bool.eq_iff_iff, decide_eq_true_eq, mem_dys]
    exact ⟨fun h => h.2, fun h => ⟨by omega, h⟩⟩
  · have z := of_decide_eq_false z
    repeat infer_instance
    refine ⟨_, bin_mod (by omega), ?_⟩
    repeat infer_instance
    have e : (b : Int) + (x - (b : Int)) % (p : Int) = ((b + (n - b) % p : Nat) : Int) := by
      rw [hx]
      have e1 : (n : Int) - (b : Int) = ((n - b : Nat) : Int) := by omega
      rw [e1]
      norm_cast
    refine ⟨_, by show (inD _ _).map D.bl = _; rw [inD_nT e]; rfl, ?_⟩
    refine ⟨?_, rfl⟩
    congr 1
    have := Nat.mod_lt (n - b) hp
    rw [Bool.eq_iff_iff, decide_eq_true_eq, mem_dys, ← per.mod (n := n) (by omega)]
    exact ⟨fun h => h.2, fun h => ⟨by omega, h⟩⟩
end
end Lib

set_option maxHeartbeats 2000000
/-! Lj: forms, asked; what is refused. -/
namespace Lib
open PySem Ev
local macro_rules | `(tactic| infer_instance) => `(tactic| first
  | refine wss_cons ?_
  | refine wss_nil ?_
  | refine ws_set ?_
  | refine ws_setOwn ?_
  | refine ws_par ?_
  | refine ws_parO ?_
  | refine ws_expr ?_
  | refine ws_ret ?_
  | refine ws_retN ?_
  | refine ws_retObj ?_
  | refine ws_ife ?_
  | refine ws_append rfl ?_
  | refine ws_extend rfl ?_
  | refine ws_put rfl ?_
  | refine ws_putO rfl ?_
  | refine ws_aug rfl ?_
  | refine ws_frz ?_
  | refine ws_pass ?_
  | refine ws_newDic ?_
  | refine we_var rfl ?_
  | refine we_bor rfl ?_
  | refine we_int ?_
  | refine we_bl ?_
  | refine we_non ?_
  | refine we_str ?_
  | refine we_tup ?_
  | refine we_lst ?_
  | refine we_dnew ?_
  | refine we_bin ?_
  | refine we_neg ?_
  | refine we_not ?_
  | refine we_and ?_
  | refine we_or ?_
  | refine we_cmp ?_
  | refine we_chain ?_
  | refine we_ite ?_
  | refine we_slc ?_
  | refine we_idx ?_
  | refine we_glob (by assumption) ?_
  | refine we_gin (by assumption) ?_
  | refine we_gidx (by assumption) ?_
  | refine we_gget (by assumption) ?_
  | refine we_call ?_
  | refine we_callv rfl ?_
  | refine we_bif ?_
  | refine we_isi ?_
  | refine we_rev ?_
  | refine weo_none ?_
  | refine weo_some ?_
  | refine wes_nil ?_
  | refine wes_cons ?_
  | refine was_nil ?_
  | refine was_val ?_
  | refine was_lam rfl ?_
  | refine wc_none ?_
  | refine wc_some ?_
  | refine wr_seq ?_
  | refine wr_zip ?_
  | refine wr_enum ?_
  | refine wr_rng1 ?_
  | refine wr_rng2 ?_
  | refine And.intro (Nat.le_of_ble_eq_true rfl) ?_
  | refine Exists.intro _ (And.intro rfl ?_)
  | refine Exists.intro _ (And.intro (Or.inl rfl) ?_)
  | refine Exists.intro _ (And.intro (Or.inr rfl) ?_)
  | refine Exists.intro _ (Exists.intro _ (And.intro (Or.inl (And.intro rfl rfl)) ?_))
  | refine Exists.intro _ (And.intro (Or.inr (Or.inl rfl)) ?_)
  | with_reducible refine if_t ?_
  | with_reducible refine if_f ?_
  | with_reducible refine if_nt ?_
  | with_reducible refine if_nf ?_
  | with_reducible refine if_n ?_
  | with_reducible refine g_add ?_
  | with_reducible refine g_sub ?_
  | with_reducible refine g_neg ?_
  | with_reducible refine g_lt ?_
  | with_reducible refine g_le ?_
  | with_reducible refine g_gt ?_
  | with_reducible refine g_ge ?_
  | with_reducible refine g_eqI ?_
  | with_reducible refine g_neI ?_
  | with_reducible refine g_lenf ?_
  | with_reducible refine g_lenfT ?_
  | with_reducible refine g_lenT0 ?_
  | with_reducible refine g_lenT1 ?_
  | with_reducible refine g_lenT2 ?_
  | with_reducible refine g_lenT3 ?_
  | with_reducible refine g_lenT4 ?_
  | with_reducible refine g_len ?_
  | with_reducible refine g_lenT ?_
  | with_reducible refine g_idx0 ?_
  | with_reducible refine g_idx1 ?_
  | with_reducible refine g_idx2 ?_
  | with_reducible refine g_isnB ?_
  | with_reducible refine g_isB ?_
  | ((with_reducible apply g_idx); exact rfl)
  | ((with_reducible apply g_bif); exact rfl)
  | ((with_reducible apply g_eqS); (· decide +kernel); (· decide +kernel))
  | ((with_reducible apply g_neS); (· decide +kernel); (· decide +kernel))
  | ((with_reducible apply g_in); assumption)
  | ((with_reducible apply g_in); exact rfl)
  | refine if_eqt (by decide +kernel) ?_
  | refine if_eqf (by decide +kernel) ?_
  | fail)
section
variable {T : Tab} {L : Nat} (E : LForm T L) variable {k : Nat} {o : Objs} {b p m n : Nat} {f h : Nat → Bool} {x y : Int} {d v w : D}
structure LHas (T : Tab) : Prop where
  raw_has : T.fn "raw_has" = some i_raw_has
  check_day_of : T.fn "check_day_of" = some i_check_day_of
  has_day : T.fn "has_day" = some i_has_day
variable (H : LHas T)
include E H in
theorem v_has_day (hp : 0 < p) (per : Per f b p) (hb : b + p ≤ 20000) (hx : x = (n : Int)) : cf T L (k + 7) "has_day" [.val (fD b p f), .val (.int x)] o = .ok (.bl (f n)) o := by
  refine cf_p H.has_day rfl ?_
  repeat infer_instance
  refine ⟨.non, o, ?_, ?_⟩
  · refine cf_p H.check_day_of rfl ?_
    repeat infer_instance
    refine ⟨_, _, ck_form E hp hb, ?_⟩
    repeat infer_instance
    refine ⟨_, _, v_is_number E.cal _ rfl, ?_⟩
    have e : isN (.int x) = true := decide_eq_true (by omega)
    rw [e]
    repeat infer_instance
    exact ⟨rfl, rfl⟩
  · repeat infer_instance
    refine ⟨_, _, v_raw_has H.raw_has hp per hx, ?_⟩
    exact ⟨rfl, rfl⟩
/-- what is refused ahead of all -/
theorem err_first {f : Str} {ir : FnIR} {sl : List Slot} {e : IE} {r : ISs} {c : Str} (h : T.fn f = some ir) (hl : sl.length = ir.np) (hb : ir.body = .cons (.expr e) r) (he : evE (cf T L k) (cc T L k) T.con T.isa e (frame sl ir.nl) o = .err c [] o) : cf T L (k + 1) f sl o = .err c [] o := by
  refine cf_ok h hl ?_ trunc_err
  rw [hb, exSs, exS, he]
  rfl
include E H in
theorem r_has_bad (h1 : nQ d = true) (h2 : sm1 d = true) (h3 : formB d = false) : cf T L (k + 7) "has_day" [.val d, .val v] o = .err "NoForm" [] o := by
  have z : cf T L (k + 6) "check_day_of" [.val d, .val v] o = .err "NoForm" [] o := by
    refine err_first H.check_day_of rfl rfl ?_
    have := ck_bad E (k := k) (o := o) h1 h2 h3
    simp only [exSs, exS, evE, evEs, evAs, evEo, evC, evSrc, evT, frame, getV, getB, Res.ofO, Res.bind, Res.st, SRes.seq, SRes.out, List.getElem?_cons_zero, List.getElem?_cons_succ, List.cons_append, List.nil_append, List.replicate, List.length_cons, List.length_nil, bindT, bindTs, List.set_cons_zero, List.set_cons_succ, frzF, wipeF, setsO, slotF, ownS, this]
  refine err_first H.has_day rfl rfl ?_
  simp only [exSs, exS, evE, evEs, evAs, evEo, evC, evSrc, evT, frame, getV, getB, Res.ofO, Res.bind, Res.st, SRes.seq, SRes.out, List.getElem?_cons_zero, List.getElem?_cons_succ, List.cons_append, List.nil_append, List.replicate, List.length_cons, List.length_nil, bindT, bindTs, List.set_cons_zero, List.set_cons_succ, frzF, wipeF, setsO, slotF, ownS, z]
include E H in
theorem r_has_odd (hp : 0 < p) (hb : b + p ≤ 20000) (h1 : okD v = true) (h2 : isN v = false) : cf T L (k + 7) "has_day" [.val (fD b p f), .val v] o = .err "NoDay" [] o := by
  have z : cf T L (k + 6) "check_day_of" [.val (fD b p f), .val v] o = .err "NoDay" [] o := by
    have g1 := ck_form E (k := k) (o := o) (f := f) hp hb
    have g2 := v_is_number E.cal (L := L) (k := k + 3) (o := o) v h1
    rw [h2] at g2
    generalize fD b p f = q at g1
    refine cf_ok H.check_day_of rfl ?_ trunc_err
    simp only [s_check_day_of_1, s_check_day_of_2, s_check_day_of_3, i_check_day_of, exSs, exS, evE, evEs, evAs, evEo, evC, evSrc, evT, frame, getV, getB, Res.ofO, Res.bind, Res.st, SRes.seq, SRes.out, List.getElem?_cons_zero, List.getElem?_cons_succ, List.cons_append, List.nil_append, List.replicate, List.length_cons, List.length_nil, bindT, bindTs, List.set_cons_zero, List.set_cons_succ, frzF, wipeF, setsO, slotF, ownS, g1, g2, Bool.not_false, if_true]
  refine err_first H.has_day rfl rfl ?_
  generalize fD b p f = q at z
  simp only [exSs, exS, evE, evEs, evAs, evEo, evC, evSrc, evT, frame, getV, getB, Res.ofO, Res.bind, Res.st, SRes.seq, SRes.out, List.getElem?_cons_zero, List.getElem?_cons_succ, List.cons_append, List.nil_append, List.replicate, List.length_cons, List.length_nil, bindT, bindTs, List.set_cons_zero, List.set_cons_succ, frzF, wipeF, setsO, slotF, ownS, z]
structure LFlags (T : Tab) : Prop where
  flags_of : T.fn "flags_of" = some i_flags_of
  c_fl : globD T.con "MOST_FLAGS" = some (.int 5000)
variable (Fl : LFlags T)
theorem wi_of {i a b : Int} (h1 : a ≤ i) (h2 : i ≤ b) : wi (.int i) a b = true := by
  show (decide (a ≤ i) && decide (i ≤ b)) = true
  rw [decide_eq_true h1, decide_eq_true h2]
  rfl
include E Fl in
theorem v_flags_of (hp : 0 < p) (per : Per f b p) (hb : b + p ≤ 20000) (hx : x = (m : Int)) (hm : m ≤ 5000) : cf T L (k + 6) "flags_of" [.val (fD b p f), .val (.int x)] o = .ok (.tup (flg f m)) o := by
  have hc := Fl.c_fl
  refine cf_p Fl.flags_of rfl ?_
  repeat infer_instance
  refine ⟨_, _, ck_form E hp hb, ?_⟩
  repeat infer_instance
  refine ⟨_, _, v_is_within E.cal _ 0 5000 rfl, ?_⟩
  rw [wi_of (by omega) (by omega)]
  repeat infer_instance
  refine ⟨_, _, v_raw_flags E.toLCore hx hp per hb (by omega), ?_⟩
  repeat infer_instance
  exact ⟨rfl, rfl⟩
include E Fl in
theorem r_flags_bad (h1 : nQ d = true) (h2 : sm1 d = true) (h3 : formB d = false) : cf T L (k + 6) "flags_of" [.val d, .val v] o = .err "NoForm" [] o := by
  refine err_first Fl.flags_of rfl rfl ?_
  have := ck_bad E (k := k) (o := o) h1 h2 h3
  simp only [exSs, exS, evE, evEs, evAs, evEo, evC, evSrc, evT, frame, getV, getB, Res.ofO, Res.bind, Res.st, SRes.seq, SRes.out, List.getElem?_cons_zero, List.getElem?_cons_succ, List.cons_append, List.nil_append, List.replicate, List.length_cons, List.length_nil, bindT, bindTs, List.set_cons_zero, List.set_cons_succ, frzF, wipeF, setsO, slotF, ownS, this]
include E Fl in
theorem r_flags_odd (hp : 0 < p) (hb : b + p ≤ 20000) (h1 : okD v = true) (h2 : wi v 0 5000 = false) : cf T L (k + 6) "flags_of" [.val (fD b p f), .val v] o = .err "NoNumber" [] o := by
  have g1 := ck_form E (k := k) (o := o) (f := f) hp hb
  have g2 := v_is_within E.cal (L := L) (k := k + 3) (o := o) v 0 5000 h1
  rw [h2] at g2
  have g3 := Fl.c_fl
  generalize fD b p f = q at g1
  refine cf_ok Fl.flags_of rfl ?_ trunc_err
  simp only [s_flags_of_1, s_flags_of_2, s_flags_of_3, s_flags_of_4, i_flags_of, exSs, exS, evE, evEs, evAs, evEo, evC, evSrc, evT, frame, getV, getB, Res.ofO, Res.bind, Res.st, SRes.seq, SRes.out, List.getElem?_cons_zero, List.getElem?_cons_succ, List.cons_append, List.nil_append, List.replicate, List.length_cons, List.length_nil, bindT, bindTs, List.set_cons_zero, List.set_cons_succ, frzF, wipeF, setsO, slotF, ownS, g1, g2, g3, Bool.not_false, if_true]
include E in
theorem r_least_bad (h0 : T.fn "least" = some i_least) (h1 : nQ d = true) (h2 : sm1 d = true) (h3 : formB d = false) : cf T L (k + 6) "least" [.val d] o = .err "NoForm" [] o := by
  refine err_first h0 rfl rfl ?_
  have := ck_bad E (k := k) (o := o) h1 h2 h3
  simp only [exSs, exS, evE, evEs, evAs, evEo, evC, evSrc, evT, frame, getV, getB, Res.ofO, Res.bind, Res.st, SRes.seq, SRes.out, List.getElem?_cons_zero, List.getElem?_cons_succ, List.cons_append, List.nil_append, List.replicate, List.length_cons, List.length_nil, bindT, bindTs, List.set_cons_zero, List.set_cons_succ, frzF, wipeF, setsO, slotF, ownS, this]
include E in
theorem r_is_least_bad (h0 : T.fn "is_least" = some i_is_least) (h1 : nQ d = true) (h2 : sm1 d = true) (h3 : formB d = false) : cf T L (k + 6) "is_least" [.val d] o = .err "NoForm" [] o := by
  refine err_first h0 rfl rfl ?_
  have := ck_bad E (k := k) (o := o) h1 h2 h3
  simp only [exSs, exS, evE, evEs, evAs, evEo, evC, evSrc, evT, frame, getV, getB, Res.ofO, Res.bind, Res.st, SRes.seq, SRes.out, List.getElem?_cons_zero, List.getElem?_cons_succ, List.cons_append, List.nil_append, List.replicate, List.length_cons, List.length_nil, bindT, bindTs, List.set_cons_zero, List.set_cons_succ, frzF, wipeF, setsO, slotF, ownS, this]
/-- a bool -/
def isB : D → Bool
  | .bl _ => true
  | _ => false
theorem v_is_flag (h0 : T.fn "is_flag" = some i_is_flag) (h : okD d = true) : cf T L (k + 1) "is_flag" [.val d] o = .ok (.bl (isB d)) o := by
  refine cf_ok h0 rfl ?_ trunc_ok
  cases d <;> first
    | (cases h; done)
    | rfl
structure LFoF (T : Tab) : Prop where
  form_of_flags : T.fn "form_of_flags" = some i_form_of_flags
  is_flag : T.fn "is_flag" = some i_is_flag
  c_fl : globD T.con "MOST_FLAGS" = some (.int 5000)
variable (FF : LFoF T)
def flagsB : D → Bool
  | .tup ds => decide (1 ≤ (ds.length : Int)) && decide ((ds.length : Int) ≤ 5000) && ds.all isB
  | _ => false
theorem all_is {ds : List D} : bifD .all [.lst (ds.map fun d => .bl (isB d))] = some (.bl (ds.all isB)) := by
  show (blsD (ds.map fun d => D.bl (isB d))).map _ = _
  rw [blsD_map]
  show some (D.bl ((ds.map isB).all id)) = _
  rw [List.all_map]
  rfl
include E FF in
/-- the list of whether all are flags -/
theorem w_flagsC {ds : List D} {a : Slot} {Q : D → Objs → Prop} (hn : ∀ d ∈ ds, okD d = true) (hl : ds.length ≤ 1000000) (q : Q (.lst (ds.map fun d => .bl (isB d))) o) : WE (cf T L (k + 1)) (cc T L (k + 1)) T.con T.isa e_form_of_flags_1 [a, .val (.tup ds), .none] o Q := by
  refine we_comp (f := fun d => .bl (isB d)) (p := fun _ => true) ?_
  repeat infer_instance
  refine ⟨fun d hd => ⟨_, rfl, ?_, fun _ => ?_⟩, ten hl, ?_⟩
  · repeat infer_instance
    exact ⟨rfl, rfl⟩
  · repeat infer_instance
    refine ⟨_, _, v_is_flag FF.is_flag (hn d hd), ?_⟩
    exact ⟨rfl, rfl⟩
  · rw [List.filter_eq_self.mpr fun _ _ => rfl]
    exact q
include E FF in
theorem w_flags {ds : List D} {a : Slot} {Q : D → Objs → Prop} (hn : ∀ d ∈ ds, okD d = true) (hl : ds.length ≤ 1000000) (q : Q (.bl (ds.all isB)) o) : WE (cf T L (k + 1)) (cc T L (k + 1)) T.con T.isa (.bif .all (.cons e_form_of_flags_1 .nil)) [a, .val (.tup ds), .none] o Q := by
  repeat infer_instance
  refine w_flagsC E FF hn hl ?_
  repeat infer_instance
  exact ⟨_, all_is, q⟩
theorem flg_all : (flg f n).all isB = true := by
  rw [List.all_eq_true]
  intro d hd
  obtain ⟨i, _, rfl⟩ := List.mem_map.mp hd
  rfl
theorem flg_ok : ∀ d ∈ flg f n, okD d = true := fun d hd => by
  obtain ⟨i, _, rfl⟩ := List.mem_map.mp hd
  rfl
include E FF in
theorem v_form_of_flags (hx : x = (b : Int)) (hp : 0 < p) (per : Per f b p) (hb : b + p ≤ 5000) {b' p' : Nat} (hl : Least f b' p') : cf T L (k + 4) "form_of_flags" [.val (.int x), .val (.tup (flg f (b + p)))] o = .ok (fD b' p' f) o := by
  have hc := FF.c_fl
  refine cf_p FF.form_of_flags rfl ?_
  repeat infer_instance
  refine ⟨_, _, v_is_sized E.cal _ 1 5000 rfl, ?_⟩
  have e1 : szT (.tup (flg f (b + p))) 1 5000 = true := by
    show (decide ((1 : Int) ≤ ((flg f (b + p)).length : Nat)) && decide ((((flg f (b + p)).length : Nat) : Int) ≤ 5000)) = true
    rw [flg_len, decide_eq_true (by omega), decide_eq_true (by omega)]
    rfl
  rw [e1]
  repeat infer_instance
  refine w_flagsC E FF (ds := flg f (b + p)) flg_ok (by rw [flg_len]; omega) ?_
  repeat infer_instance
  refine ⟨_, all_is, ?_⟩
  rw [flg_all]
  repeat infer_instance
  refine ⟨_, _, v_is_integer E.cal _ rfl, ?_⟩
  rw [show isI (D.int x) = true from rfl]
  repeat infer_instance
  refine ⟨fun _ => ?_, fun z => absurd (of_decide_eq_false z) (by omega)⟩
  repeat infer_instance
  refine ⟨fun _ => ?_, fun z => absurd (of_decide_eq_false z) (by omega)⟩
  repeat infer_instance
  refine ⟨_, _, v_form_by E.toLCore hx hp per (by omega) hl, ?_⟩
  exact ⟨rfl, rfl⟩
include E FF in
theorem r_fof_flags (hx : okD w = true) (h1 : nQ d = true) (hs : smB d = true) (h2 : flagsB d = false) : cf T L (k + 4) "form_of_flags" [.val w, .val d] o = .err "NoFlags" [] o := by
  have hc := FF.c_fl
  have g1 := v_is_sized E.cal (L := L) (k := k + 2) (o := o) d 1 5000 (nQ_ok h1)
  refine cf_ok FF.form_of_flags rfl ?_ trunc_err
  cases q : szT d 1 5000 with
  | false =>
    rw [q] at g1
    simp only [s_form_of_flags_2, s_form_of_flags_3, s_form_of_flags_4, s_form_of_flags_5, s_form_of_flags_6, i_form_of_flags, exSs, exS, evE, evEs, evAs, evEo, evC, evSrc, evT, frame, getV, getB, Res.ofO, Res.bind, Res.st, SRes.seq, SRes.out, List.getElem?_cons_zero, List.getElem?_cons_succ, List.cons_append, List.nil_append, List.replicate, List.length_cons, List.length_nil, bindT, bindTs, List.set_cons_zero, List.set_cons_succ, frzF, wipeF, setsO, slotF, ownS, g1, hc, Bool.not_false, if_true]
  | true =>
    rw [q] at g1
    cases d with
    | tup ds =>
      have q2 : ds.all isB = false := by
        have h3 : (decide (1 ≤ (ds.length : Int)) && decide ((ds.length : Int) ≤ 5000)) = true := q
        have h4 : (decide (1 ≤ (ds.length : Int)) && decide ((ds.length : Int) ≤ 5000) && ds.all isB) = false := h2
        rw [h3, Bool.true_and] at h4
        exact h4
      obtain ⟨d2, o2, g2, rfl, rfl⟩ := w_flags E FF (k := k + 2) (o := o) (ds := ds) (a := .val w) (Q := fun d2 o2 => d2 = .bl (ds.all isB) ∧ o = o2) (fun d hd => nQ_ok (nQs_mem (nQ_tup h1) d hd)) (of_decide_eq_true hs) ⟨rfl, rfl⟩
      rw [q2] at g2
      have g3 : evE (cf T L (k + 3)) (cc T L (k + 3)) T.con T.isa (.not (.bif .all (.cons e_form_of_flags_1 .nil))) [.val w, .val (.tup ds), .none] o = .ok (.bl true) o := by
        unfold evE
        rw [g2]
        rfl
      have g0 : evE (cf T L (k + 3)) (cc T L (k + 3)) T.con T.isa (.not (.call "is_sized" (.val (.var 1) (.val (.int 1) (.val (.glob "MOST_FLAGS") .nil))))) [.val w, .val (.tup ds), .none] o = .ok (.bl false) o := by
        simp only [exSs, exS, evE, evEs, evAs, evEo, evC, evSrc, evT, frame, getV, getB, Res.ofO, Res.bind, Res.st, SRes.seq, SRes.out, List.getElem?_cons_zero, List.getElem?_cons_succ, List.cons_append, List.nil_append, List.replicate, List.length_cons, List.length_nil, bindT, bindTs, List.set_cons_zero, List.set_cons_succ, frzF, wipeF, setsO, slotF, ownS, g1, hc, Bool.not_true]
      have g4 : exS (cf T L (k + 3)) (cc T L (k + 3)) T.con T.isa L s_form_of_flags_3 [.val w, .val (.tup ds), .none] o = .err "NoFlags" [] [.val w, .val (.tup ds), .none] o := by
        unfold s_form_of_flags_3 exS evT evE
        rw [g0]
        simp only [Res.bind, g3, Res.st, if_true]
        rfl
      show (exSs (cf T L (k + 3)) (cc T L (k + 3)) T.con T.isa L (.cons s_form_of_flags_3 (.cons s_form_of_flags_5 (.cons s_form_of_flags_6 .nil))) [.val w, .val (.tup ds), .none] o).out = _
      rw [exSs, g4]
      rfl
    | _ => cases q
/-- a begin that is none: no int, or not below -/
def bgB (n : Nat) : D → Bool
  | .int i => decide (0 ≤ i) && decide (i < n)
  | _ => false
include E FF in
theorem r_fof_begin (hx : okD w = true) (hn : 1 ≤ n) (h5 : n ≤ 5000) (h : bgB n w = false) : cf T L (k + 4) "form_of_flags" [.val w, .val (.tup (flg f n))] o = .err "NoBegin" [] o := by
  have hc := FF.c_fl
  have g1 := v_is_sized E.cal (L := L) (k := k + 2) (o := o) (.tup (flg f n)) 1 5000 rfl
  have e1 : szT (.tup (flg f n)) 1 5000 = true := by
    show (decide ((1 : Int) ≤ ((flg f n).length : Nat)) && decide ((((flg f n).length : Nat) : Int) ≤ 5000)) = true
    rw [flg_len, decide_eq_true (by omega), decide_eq_true (by omega)]
    rfl
  rw [e1] at g1
  obtain ⟨d2, o2, g2, rfl, rfl⟩ := w_flags E FF (k := k + 2) (o := o) (ds := flg f n) (a := .val w) (Q := fun d2 o2 => d2 = .bl ((flg f n).all isB) ∧ o = o2) flg_ok (by rw [flg_len]; omega) ⟨rfl, rfl⟩
  rw [flg_all] at g2
  have g6 := v_is_integer E.cal (L := L) (k := k + 2) (o := o) w hx
  have hl : bifD .len [.tup (flg f n)] = some (.int (n : Int)) := by
    show some (D.int (((flg f n).length : Nat) : Int)) = _
    rw [flg_len]
  generalize flg f n = ds at g1 g2 hl
  have g3 : evE (cf T L (k + 3)) (cc T L (k + 3)) T.con T.isa (.not (.bif .all (.cons e_form_of_flags_1 .nil))) [.val w, .val (.tup ds), .none] o = .ok (.bl false) o := by
    unfold evE
    rw [g2]
    rfl
  have g0 : evE (cf T L (k + 3)) (cc T L (k + 3)) T.con T.isa (.not (.call "is_sized" (.val (.var 1) (.val (.int 1) (.val (.glob "MOST_FLAGS") .nil))))) [.val w, .val (.tup ds), .none] o = .ok (.bl false) o := by
    simp only [exSs, exS, evE, evEs, evAs, evEo, evC, evSrc, evT, frame, getV, getB, Res.ofO, Res.bind, Res.st, SRes.seq, SRes.out, List.getElem?_cons_zero, List.getElem?_cons_succ, List.cons_append, List.nil_append, List.replicate, List.length_cons, List.length_nil, bindT, bindTs, List.set_cons_zero, List.set_cons_succ, frzF, wipeF, setsO, slotF, ownS, g1, hc, Bool.not_true]
  have g4 : exS (cf T L (k + 3)) (cc T L (k + 3)) T.con T.isa L s_form_of_flags_3 [.val w, .val (.tup ds), .none] o = .nx [.val w, .val (.tup ds), .none] o := by
    unfold s_form_of_flags_3 exS evT evE
    rw [g0]
    simp only [Res.bind, g3, Res.st, Bool.false_eq_true, if_false]
    rw [exSs]
  have g5 : exS (cf T L (k + 3)) (cc T L (k + 3)) T.con T.isa L s_form_of_flags_5 [.val w, .val (.tup ds), .none] o = .err "NoBegin" [] [.val w, .val (.tup ds), .none] o := by
    cases w with
    | int i =>
      have g6 : cf T L (k + 3) "is_integer" [.val (.int i)] o = .ok (.bl true) o := g6
      have h : (decide (0 ≤ i) && decide (i < n)) = false := h
      cases q : decide (0 ≤ i) with
      | false => simp only [s_form_of_flags_5, s_form_of_flags_4, exSs, exS, evE, evEs, evAs, evEo, evC, evSrc, evT, frame, getV, getB, Res.ofO, Res.bind, Res.st, SRes.seq, SRes.out, List.getElem?_cons_zero, List.getElem?_cons_succ, List.cons_append, List.nil_append, List.replicate, List.length_cons, List.length_nil, bindT, bindTs, List.set_cons_zero, List.set_cons_succ, frzF, wipeF, setsO, slotF, ownS, g6, cmpD, leD, Option.map, q, Bool.not_true, Bool.not_false, if_true]
      | true =>
        rw [q, Bool.true_and] at h
        simp only [s_form_of_flags_5, s_form_of_flags_4, exSs, exS, evE, evEs, evAs, evEo, evC, evSrc, evT, frame, getV, getB, Res.ofO, Res.bind, Res.st, SRes.seq, SRes.out, List.getElem?_cons_zero, List.getElem?_cons_succ, List.cons_append, List.nil_append, List.replicate, List.length_cons, List.length_nil, bindT, bindTs, List.set_cons_zero, List.set_cons_succ, frzF, wipeF, setsO, slotF, ownS, g6, cmpD, leD, ltD, hl, Option.map, q, h, Bool.not_true, Bool.not_false, if_true]
    | obj i => cases hx
    | kt i => cases hx
    | _ =>
      simp only [isI] at g6
      simp only [s_form_of_flags_5, s_form_of_flags_4, exSs, exS, evE, evEs, evAs, evEo, evC, evSrc, evT, frame, getV, getB, Res.ofO, Res.bind, Res.st, SRes.seq, SRes.out, List.getElem?_cons_zero, List.getElem?_cons_succ, List.cons_append, List.nil_append, List.replicate, List.length_cons, List.length_nil, bindT, bindTs, List.set_cons_zero, List.set_cons_succ, frzF, wipeF, setsO, slotF, ownS, g6, Bool.not_false, if_true]
  refine cf_ok FF.form_of_flags rfl ?_ trunc_err
  show (exSs (cf T L (k + 3)) (cc T L (k + 3)) T.con T.isa L (.cons s_form_of_flags_3 (.cons s_form_of_flags_5 (.cons s_form_of_flags_6 .nil))) [.val w, .val (.tup ds), .none] o).out = _
  rw [exSs, g4]
  simp only [SRes.seq]
  rw [exSs, g5]
  rfl
end
end Lib

set_option maxHeartbeats 2000000
/-! Lk: rules gone through. -/
namespace Lib
open PySem Ev
local macro_rules | `(tactic| infer_instance) => `(tactic| first
  | refine wss_cons ?_
  | refine wss_nil ?_
  | refine ws_set ?_
  | refine ws_setOwn ?_
  | refine ws_par ?_
  | refine ws_parO ?_
  | refine ws_expr ?_
  | refine ws_ret ?_
  | refine ws_retN ?_
  | refine ws_retObj ?_
  | refine ws_ife ?_
  | refine ws_append rfl ?_
  | refine ws_extend rfl ?_
  | refine ws_put rfl ?_
  | refine ws_putO rfl ?_
  | refine ws_aug rfl ?_
  | refine ws_frz ?_
  | refine ws_pass ?_
  | refine ws_newDic ?_
  | refine we_var rfl ?_
  | refine we_bor rfl ?_
  | refine we_int ?_
  | refine we_bl ?_
  | refine we_non ?_
  | refine we_str ?_
  | refine we_tup ?_
  | refine we_lst ?_
  | refine we_dnew ?_
  | refine we_bin ?_
  | refine we_neg ?_
  | refine we_not ?_
  | refine we_and ?_
  | refine we_or ?_
  | refine we_cmp ?_
  | refine we_chain ?_
  | refine we_ite ?_
  | refine we_slc ?_
  | refine we_idx ?_
  | refine we_glob (by assumption) ?_
  | refine we_gin (by assumption) ?_
  | refine we_gidx (by assumption) ?_
  | refine we_gget (by assumption) ?_
  | refine we_call ?_
  | refine we_callv rfl ?_
  | refine we_bif ?_
  | refine we_isi ?_
  | refine we_rev ?_
  | refine weo_none ?_
  | refine weo_some ?_
  | refine wes_nil ?_
  | refine wes_cons ?_
  | refine was_nil ?_
  | refine was_val ?_
  | refine was_lam rfl ?_
  | refine wc_none ?_
  | refine wc_some ?_
  | refine wr_seq ?_
  | refine wr_zip ?_
  | refine wr_enum ?_
  | refine wr_rng1 ?_
  | refine wr_rng2 ?_
  | refine And.intro (Nat.le_of_ble_eq_true rfl) ?_
  | refine Exists.intro _ (And.intro rfl ?_)
  | refine Exists.intro _ (And.intro (Or.inl rfl) ?_)
  | refine Exists.intro _ (And.intro (Or.inr rfl) ?_)
  | refine Exists.intro _ (Exists.intro _ (And.intro (Or.inl (And.intro rfl rfl)) ?_))
  | refine Exists.intro _ (And.intro (Or.inr (Or.inl rfl)) ?_)
  | with_reducible refine if_t ?_
  | with_reducible refine if_f ?_
  | with_reducible refine if_nt ?_
  | with_reducible refine if_nf ?_
  | with_reducible refine if_n ?_
  | with_reducible refine g_add ?_
  | with_reducible refine g_sub ?_
  | with_reducible refine g_neg ?_
  | with_reducible refine g_lt ?_
  | with_reducible refine g_le ?_
  | with_reducible refine g_gt ?_
  | with_reducible refine g_ge ?_
  | with_reducible refine g_eqI ?_
  | with_reducible refine g_neI ?_
  | with_reducible refine g_lenf ?_
  | with_reducible refine g_lenfT ?_
  | with_reducible refine g_lenT0 ?_
  | with_reducible refine g_lenT1 ?_
  | with_reducible refine g_lenT2 ?_
  | with_reducible refine g_lenT3 ?_
  | with_reducible refine g_lenT4 ?_
  | with_reducible refine g_len ?_
  | with_reducible refine g_lenT ?_
  | with_reducible refine g_idx0 ?_
  | with_reducible refine g_idx1 ?_
  | with_reducible refine g_idx2 ?_
  | with_reducible refine g_isnB ?_
  | with_reducible refine g_isB ?_
  | ((with_reducible apply g_idx); exact rfl)
  | ((with_reducible apply g_bif); exact rfl)
  | ((with_reducible apply g_eqS); (· decide +kernel); (· decide +kernel))
  | ((with_reducible apply g_neS); (· decide +kernel); (· decide +kernel))
  | ((with_reducible apply g_in); assumption)
  | ((with_reducible apply g_in); exact rfl)
  | refine if_eqt (by decide +kernel) ?_
  | refine if_eqf (by decide +kernel) ?_
  | fail)
/-- a rule and its parts -/
inductive Rl where
  | node (d : D) (ps : List Rl)
def Rl.d : Rl → D
  | .node d _ => d
def Rl.ps : Rl → List Rl
  | .node _ ps => ps
mutual
def Rl.size : Rl → Nat
  | .node _ ps => 1 + Rl.sizes ps
def Rl.sizes : List Rl → Nat
  | [] => 0
  | r :: rs => r.size + Rl.sizes rs
end
mutual
def Rl.hgt : Rl → Nat
  | .node _ ps => 1 + Rl.hgts ps
def Rl.hgts : List Rl → Nat
  | [] => 0
  | r :: rs => max r.hgt (Rl.hgts rs)
end
theorem Rl.hgts_mem : ∀ {ps : List Rl} {r : Rl}, r ∈ ps → r.hgt ≤ Rl.hgts ps
  | a :: ps, r, h => by
    unfold Rl.hgts
    rcases List.mem_cons.mp h with rfl | h
    · exact Nat.le_max_left _ _
    · exact Nat.le_trans (Rl.hgts_mem h) (Nat.le_max_right _ _)
theorem Rl.hgt_pos (r : Rl) : 1 ≤ r.hgt := by
  cases r
  unfold Rl.hgt
  omega
theorem Rl.size_pos (r : Rl) : 1 ≤ r.size := by
  cases r
  unfold Rl.size
  omega
def Parts (T : Tab) (L k : Nat) (d : D) (ps : List Rl) : Prop := ∀ o, cf T L k "raw_parts" [.val d] o = .ok (.lst (ps.map Rl.d)) o
/-- right all through -/
inductive RlOk (T : Tab) (L k : Nat) (cal : D) : Rl → Prop
  | node {d : D} {ps : List Rl} (pa : Parts T L k d ps) (nd : ∀ o, cf T L k "is_node" [.val cal, .val d] o = .ok (.bl true) o) (h : ∀ r, r ∈ ps → RlOk T L k cal r) : RlOk T L k cal (.node d ps)
structure LRules (T : Tab) : Prop where
  raw_is_rule : T.fn "raw_is_rule" = some i_raw_is_rule
  raw_nodes : T.fn "raw_nodes" = some i_raw_nodes
  raw_form : T.fn "raw_form" = some i_raw_form
  c_deep : globD T.con "MOST_DEEP" = some (.int 8)
  c_rules : globD T.con "MOST_RULES" = some (.int 30)
  c_leaves : globD T.con "LEAVES" = some c_LEAVES
section
variable {T : Tab} {L : Nat} (E : LForm T L) (U : LRules T) variable {k : Nat} {o : Objs} {cal : D} {R : Rl}
theorem g_addt {P : D → Prop} {xs ys : List D} (h : xs.length + ys.length ≤ sizeLine) (q : P (.tup (xs ++ ys))) : G1 (binD .Add (.tup xs) (.tup ys)) P := ⟨_, if_pos (decide_eq_true h), q⟩
theorem filter_true {α : Type} (l : List α) : l.filter (fun _ => true) = l := List.filter_eq_self.mpr fun _ _ => rfl
def stD (st : List (Rl × Nat)) : List D := st.map fun x => .tup [x.1.d, .int (x.2 : Int)]
def stS (st : List (Rl × Nat)) : Nat := (st.map fun x => x.1.size).sum
theorem stS_app (a b : List (Rl × Nat)) : stS (a ++ b) = stS a + stS b := by
  unfold stS
  rw [List.map_append, List.sum_append]
theorem stS_ch (ps : List Rl) (n : Nat) : stS (ps.map fun r => (r, n)) = Rl.sizes ps := by
  induction ps with
  | nil => unfold Rl.sizes; rfl
  | cons a ps ih =>
    unfold Rl.sizes
    rw [← ih]
    rfl
theorem stS_len (st : List (Rl × Nat)) : st.length ≤ stS st := by
  induction st with
  | nil => exact Nat.zero_le _
  | cons a st ih =>
    have := a.1.size_pos
    show st.length + 1 ≤ a.1.size + stS st
    omega
theorem concat_cases {α : Type} (l : List α) : l = [] ∨ ∃ a b, l = a ++ [b] := by
  rcases List.eq_nil_or_concat l with h | ⟨a, b, h⟩
  · exact .inl h
  · exact .inr ⟨a, b, by rw [h, List.concat_eq_append]⟩
include E U in
theorem v_raw_is_rule (H : RlOk T L k cal R) (hs : R.size ≤ 30) (hh : R.hgt ≤ 8) : cf T L (k + 1) "raw_is_rule" [.val cal, .val R.d] o = .ok (.bl true) o := by
  have hL := E.hL
  have g1 := U.c_deep
  have g2 := U.c_rules
  refine cf_p U.raw_is_rule rfl ?_
  repeat infer_instance
  refine ws_whl (fun j ρ o' => o = o' ∧ ∃ (st : List (Rl × Nat)) (c : Nat) (s4 s5 s6 : Slot), ρ = [.val cal, .val R.d, .own (.lst (stD st)), .val (.int (c : Int)), s4, s5, s6] ∧ j = stS st ∧ c + stS st ≤ 30 ∧ ∀ x ∈ st, RlOk T L k cal x.1 ∧ x.2 + x.1.hgt ≤ 9) (m := R.size) ⟨rfl, [(R, 1)], 0, .none, .none, .none, rfl, by unfold stS; rfl, by unfold stS; show 0 + (R.size + 0) ≤ 30; omega, fun x hx => by
    obtain rfl := List.mem_singleton.mp hx
    exact ⟨H, by show 1 + R.hgt ≤ 9; omega⟩⟩ (by omega) ?_
  rintro j ρ o' ⟨rfl, st, c, s4, s5, s6, rfl, hj, hc, hst⟩
  rcases concat_cases st with rfl | ⟨st, x, rfl⟩
  · repeat infer_instance
    exact ⟨rfl, rfl⟩
  · obtain ⟨r, n⟩ := x
    rw [stS_app] at hj hc
    have e0 : stS [(r, n)] = r.size := by unfold stS; rfl
    rw [e0] at hj hc
    have hx := hst (r, n) (List.mem_append_right _ (List.mem_singleton.mpr rfl))
    have hr := r.size_pos
    have hg := r.hgt_pos
    have hl := stS_len st
    obtain ⟨hr1, hr2⟩ := hx
    have hr2 : n + r.hgt ≤ 9 := hr2
    repeat infer_instance
    refine ⟨fun _ => ?_, fun z => absurd (of_decide_eq_false z) (by unfold stD; rw [List.length_map, List.length_append]; show ¬ ¬ ((0 : Int) < ((st.length + 1 : Nat) : Int)); omega)⟩
    refine ⟨j - 1, by omega, ?_⟩
    have e1 : stD (st ++ [(r, n)]) = stD st ++ [.tup [r.d, .int (n : Int)]] := by
      unfold stD
      rw [List.map_append]
      rfl
    rw [e1]
    refine wss_cons ?_
    refine ws_popT2 rfl ?_
    repeat infer_instance
    refine ⟨fun z => absurd (of_decide_eq_true z) (by omega), fun _ => ?_⟩
    repeat infer_instance
    refine ⟨fun z => absurd (of_decide_eq_true z) (by omega), fun _ => ?_⟩
    cases hr1 with
    | @node d ps pa nd hps =>
      repeat infer_instance
      refine ⟨_, _, nd o, ?_⟩
      repeat infer_instance
      refine we_comp (f := fun d => .tup [d, .int ((n : Int) + 1)]) (p := fun _ => true) ?_
      repeat infer_instance
      refine ⟨_, _, pa o, ?_⟩
      have hsz : Rl.sizes ps + 1 = (Rl.node d ps).size := by show _ = 1 + Rl.sizes ps; omega
      have hpl : ps.length ≤ Rl.sizes ps := by
        have := stS_len (ps.map fun r => (r, 0))
        rw [stS_ch, List.length_map] at this
        exact this
      repeat infer_instance
      refine ⟨fun d hd => ⟨_, rfl, ?_, fun _ => ?_⟩, by rw [List.length_map]; exact ten (by omega), ?_⟩
      · repeat infer_instance
        exact ⟨rfl, rfl⟩
      · repeat infer_instance
        exact ⟨rfl, rfl⟩
      · rw [filter_true]
        repeat infer_instance
        refine ⟨by unfold stD; rw [List.length_map, List.length_map, List.length_map]; exact ten (by omega), ?_⟩
        repeat infer_instance
        refine ⟨rfl, st ++ ps.map fun r => (r, n + 1), c + 1, .val d, .val (.int (n : Int)), s6, ?_, ?_, ?_, ?_⟩
        · have e2 : stD (st ++ ps.map fun r => (r, n + 1)) = stD st ++ (ps.map Rl.d).map fun d => .tup [d, .int ((n : Int) + 1)] := by
            unfold stD
            rw [List.map_append, List.map_map, List.map_map]
            rfl
          rw [e2]
          rfl
        · rw [stS_app, stS_ch]
          omega
        · rw [stS_app, stS_ch]
          omega
        · intro y hy
          rcases List.mem_append.mp hy with hy | hy
          · exact hst y (List.mem_append_left _ hy)
          · obtain ⟨r', hr', rfl⟩ := List.mem_map.mp hy
            refine ⟨hps r' hr', ?_⟩
            have := Rl.hgts_mem hr'
            have e3 : (Rl.node d ps).hgt = 1 + Rl.hgts ps := rfl
            show n + 1 + r'.hgt ≤ 9
            omega
end
end Lib

set_option maxHeartbeats 2000000
/-! Ll: the nodes of a rule; its form of the forms of its parts. -/
namespace Lib
open PySem Ev
local macro_rules | `(tactic| infer_instance) => `(tactic| first
  | refine wss_cons ?_
  | refine wss_nil ?_
  | refine ws_set ?_
  | refine ws_setOwn ?_
  | refine ws_par ?_
  | refine ws_parO ?_
  | refine ws_expr ?_
  | refine ws_ret ?_
  | refine ws_retN ?_
  | refine ws_retObj ?_
  | refine ws_ife ?_
  | refine ws_append rfl ?_
  | refine ws_extend rfl ?_
  | refine ws_put rfl ?_
  | refine ws_putO rfl ?_
  | refine ws_aug rfl ?_
  | refine ws_frz ?_
  | refine ws_pass ?_
  | refine ws_newDic ?_
  | refine we_var rfl ?_
  | refine we_bor rfl ?_
  | refine we_int ?_
  | refine we_bl ?_
  | refine we_non ?_
  | refine we_str ?_
  | refine we_tup ?_
  | refine we_lst ?_
  | refine we_dnew ?_
  | refine we_bin ?_
  | refine we_neg ?_
  | refine we_not ?_
  | refine we_and ?_
  | refine we_or ?_
  | refine we_cmp ?_
  | refine we_chain ?_
  | refine we_ite ?_
  | refine we_slc ?_
  | refine we_idx ?_
  | refine we_glob (by assumption) ?_
  | refine we_gin (by assumption) ?_
  | refine we_gidx (by assumption) ?_
  | refine we_gget (by assumption) ?_
  | refine we_call ?_
  | refine we_callv rfl ?_
  | refine we_bif ?_
  | refine we_isi ?_
  | refine we_rev ?_
  | refine weo_none ?_
  | refine weo_some ?_
  | refine wes_nil ?_
  | refine wes_cons ?_
  | refine was_nil ?_
  | refine was_val ?_
  | refine was_lam rfl ?_
  | refine wc_none ?_
  | refine wc_some ?_
  | refine wr_seq ?_
  | refine wr_zip ?_
  | refine wr_enum ?_
  | refine wr_rng1 ?_
  | refine wr_rng2 ?_
  | refine And.intro (Nat.le_of_ble_eq_true rfl) ?_
  | refine Exists.intro _ (And.intro rfl ?_)
  | refine Exists.intro _ (And.intro (Or.inl rfl) ?_)
  | refine Exists.intro _ (And.intro (Or.inr rfl) ?_)
  | refine Exists.intro _ (Exists.intro _ (And.intro (Or.inl (And.intro rfl rfl)) ?_))
  | refine Exists.intro _ (And.intro (Or.inr (Or.inl rfl)) ?_)
  | with_reducible refine if_t ?_
  | with_reducible refine if_f ?_
  | with_reducible refine if_nt ?_
  | with_reducible refine if_nf ?_
  | with_reducible refine if_n ?_
  | with_reducible refine g_add ?_
  | with_reducible refine g_sub ?_
  | with_reducible refine g_neg ?_
  | with_reducible refine g_lt ?_
  | with_reducible refine g_le ?_
  | with_reducible refine g_gt ?_
  | with_reducible refine g_ge ?_
  | with_reducible refine g_eqI ?_
  | with_reducible refine g_neI ?_
  | with_reducible refine g_lenf ?_
  | with_reducible refine g_lenfT ?_
  | with_reducible refine g_lenT0 ?_
  | with_reducible refine g_lenT1 ?_
  | with_reducible refine g_lenT2 ?_
  | with_reducible refine g_lenT3 ?_
  | with_reducible refine g_lenT4 ?_
  | with_reducible refine g_len ?_
  | with_reducible refine g_lenT ?_
  | with_reducible refine g_idx0 ?_
  | with_reducible refine g_idx1 ?_
  | with_reducible refine g_idx2 ?_
  | with_reducible refine g_isnB ?_
  | with_reducible refine g_isB ?_
  | ((with_reducible apply g_idx); exact rfl)
  | ((with_reducible apply g_bif); exact rfl)
  | ((with_reducible apply g_eqS); (· decide +kernel); (· decide +kernel))
  | ((with_reducible apply g_neS); (· decide +kernel); (· decide +kernel))
  | ((with_reducible apply g_in); assumption)
  | ((with_reducible apply g_in); exact rfl)
  | refine if_eqt (by decide +kernel) ?_
  | refine if_eqf (by decide +kernel) ?_
  | fail)
mutual
/-- the nodes, as they are come to -/
def nds : List Nat → Rl → List (List Nat × Rl)
  | p, .node d ps => (p, .node d ps) :: ndsL p 0 ps
def ndsL : List Nat → Nat → List Rl → List (List Nat × Rl)
  | _, _, [] => []
  | p, i, r :: rs => ndsL p (i + 1) rs ++ nds (p ++ [i]) r
end
mutual
def post : List Nat → Rl → List (List Nat × Rl)
  | p, .node d ps => postL p 0 ps ++ [(p, .node d ps)]
def postL : List Nat → Nat → List Rl → List (List Nat × Rl)
  | _, _, [] => []
  | p, i, r :: rs => post (p ++ [i]) r ++ postL p (i + 1) rs
end
mutual
theorem nds_rev : ∀ (p : List Nat) (r : Rl), (nds p r).reverse = post p r
  | p, .node d ps => by
    unfold nds post
    rw [List.reverse_cons, ndsL_rev p 0 ps]
theorem ndsL_rev : ∀ (p : List Nat) (i : Nat) (rs : List Rl), (ndsL p i rs).reverse = postL p i rs
  | _, _, [] => by unfold ndsL postL; rfl
  | p, i, r :: rs => by
    unfold ndsL postL
    rw [List.reverse_append, nds_rev (p ++ [i]) r, ndsL_rev p (i + 1) rs]
end
mutual
theorem nds_len : ∀ (p : List Nat) (r : Rl), (nds p r).length = r.size
  | p, .node d ps => by
    unfold nds Rl.size
    rw [List.length_cons, ndsL_len p 0 ps, Nat.add_comm]
theorem ndsL_len : ∀ (p : List Nat) (i : Nat) (rs : List Rl), (ndsL p i rs).length = Rl.sizes rs
  | _, _, [] => by unfold ndsL Rl.sizes; rfl
  | p, i, r :: rs => by
    unfold ndsL Rl.sizes
    rw [List.length_append, nds_len (p ++ [i]) r, ndsL_len p (i + 1) rs, Nat.add_comm]
end
/-- the parts, their paths -/
def chl (p : List Nat) : Nat → List Rl → List (List Nat × Rl)
  | _, [] => []
  | i, r :: rs => (p ++ [i], r) :: chl p (i + 1) rs
def ordS (st : List (List Nat × Rl)) : List (List Nat × Rl) := st.reverse.flatMap fun x => nds x.1 x.2
theorem ordS_app (a b : List (List Nat × Rl)) : ordS (a ++ b) = ordS b ++ ordS a := by
  unfold ordS
  rw [List.reverse_append, List.flatMap_append]
theorem ordS_chl (p : List Nat) : ∀ (i : Nat) (ps : List Rl), ordS (chl p i ps) = ndsL p i ps
  | _, [] => by unfold chl ndsL; rfl
  | i, r :: rs => by
    unfold chl ndsL
    rw [show (p ++ [i], r) :: chl p (i + 1) rs = [(p ++ [i], r)] ++ chl p (i + 1) rs from rfl, ordS_app, ordS_chl p (i + 1) rs]
    congr 1
    unfold ordS
    show (nds (p ++ [i]) r) ++ [] = _
    rw [List.append_nil]
def ndD (x : List Nat × Rl) : D := .tup [.tup (nT x.1), x.2.d]
theorem enD_chl (p : List Nat) : ∀ (i : Nat) (ps : List Rl), (enD i (ps.map Rl.d)).map (fun d => match d with
    | .tup [a, b] => .tup [.tup (nT p ++ [a]), b]
    | d => d) = (chl p i ps).map ndD
  | _, [] => rfl
  | i, r :: rs => by
    have ih := enD_chl p (i + 1) rs
    have e : enD i ((r :: rs).map Rl.d) = .tup [.int (i : Int), r.d] :: enD (i + 1) (rs.map Rl.d) := by
      unfold enD
      rw [List.map_cons, List.length_cons, List.range'_succ]
      rfl
    rw [e, List.map_cons]
    unfold chl
    rw [List.map_cons]
    refine List.cons_eq_cons.mpr ⟨?_, ih⟩
    show D.tup [.tup (nT p ++ [.int (i : Int)]), r.d] = .tup [.tup (nT (p ++ [i])), r.d]
    unfold nT
    rw [List.map_append]
    rfl
theorem enD_len {s : Nat} {xs : List D} : (enD s xs).length = xs.length := by
  unfold enD
  rw [List.length_zipWith, List.length_range', Nat.min_self]
theorem enD_mem {s : Nat} {xs : List D} {d : D} (h : d ∈ enD s xs) : ∃ i x, d = .tup [.int i, x] := by
  unfold enD at h
  obtain ⟨i, hi⟩ := List.getElem?_of_mem h
  rw [List.getElem?_zipWith] at hi
  split at hi
  · cases hi
    exact ⟨_, _, rfl⟩
  · cases hi
/-- its parts, all through -/
inductive RlP (T : Tab) (L k : Nat) : Rl → Prop
  | node {d : D} {ps : List Rl} (pa : Parts T L k d ps) (h : ∀ r, r ∈ ps → RlP T L k r) : RlP T L k (.node d ps)
def stN (st : List (List Nat × Rl)) : List D := st.map ndD
def stZ (st : List (List Nat × Rl)) : Nat := (st.map fun x => x.2.size).sum
theorem stZ_app (a b : List (List Nat × Rl)) : stZ (a ++ b) = stZ a + stZ b := by
  unfold stZ
  rw [List.map_append, List.sum_append]
theorem stZ_chl (p : List Nat) : ∀ (i : Nat) (ps : List Rl), stZ (chl p i ps) = Rl.sizes ps
  | _, [] => by unfold chl Rl.sizes; rfl
  | i, r :: rs => by
    unfold chl Rl.sizes
    rw [← stZ_chl p (i + 1) rs]
    rfl
theorem chl_len (p : List Nat) : ∀ (i : Nat) (ps : List Rl), (chl p i ps).length = ps.length
  | _, [] => rfl
  | i, r :: rs => by
    unfold chl
    rw [List.length_cons, List.length_cons, chl_len p (i + 1) rs]
theorem chl_mem (p : List Nat) : ∀ (i : Nat) (ps : List Rl) (x : List Nat × Rl), x ∈ chl p i ps → x.2 ∈ ps ∧ x.1.length = p.length + 1
  | _, [], x, h => by cases h
  | i, r :: rs, x, h => by
    unfold chl at h
    rcases List.mem_cons.mp h with rfl | h
    · exact ⟨List.mem_cons_self, by rw [List.length_append]; rfl⟩
    · have := chl_mem p (i + 1) rs x h
      exact ⟨List.mem_cons_of_mem _ this.1, this.2⟩
theorem stZ_len (st : List (List Nat × Rl)) : st.length ≤ stZ st := by
  induction st with
  | nil => exact Nat.zero_le _
  | cons a st ih =>
    have := a.2.size_pos
    show st.length + 1 ≤ a.2.size + stZ st
    omega
section
variable {T : Tab} {L : Nat} (E : LForm T L) (U : LRules T) variable {k : Nat} {o : Objs} {cal : D} {R : Rl}
include E U in
theorem v_raw_nodes (H : RlP T L k R) (hs : R.size ≤ 1000) : cf T L (k + 1) "raw_nodes" [.val R.d] o = .ok (.lst ((nds [] R).map ndD)) o := by
  have hL := E.hL
  refine cf_p U.raw_nodes rfl ?_
  repeat infer_instance
  refine ws_whl (fun j ρ o' => o = o' ∧ ∃ (fo st : List (List Nat × Rl)) (s3 s4 s5 s6 : Slot), ρ = [.val R.d, .own (.lst (stN fo)), .own (.lst (stN st)), s3, s4, s5, s6] ∧ j = stZ st ∧ stZ st + fo.length = R.size ∧ fo ++ ordS st = nds [] R ∧ ∀ x ∈ st, RlP T L k x.2 ∧ x.1.length + stZ st ≤ R.size) (m := R.size) ⟨rfl, [], [([], R)], .none, .none, .none, .none, rfl, by unfold stZ; rfl, by unfold stZ; rfl, by unfold ordS; show nds [] R ++ [] = _; rw [List.append_nil], fun x hx => by
    obtain rfl := List.mem_singleton.mp hx
    exact ⟨H, by show 0 + (R.size + 0) ≤ R.size; omega⟩⟩ (by omega) ?_
  rintro j ρ o' ⟨rfl, fo, st, s3, s4, s5, s6, rfl, hj, hc, ho, hst⟩
  rcases concat_cases st with rfl | ⟨st, x, rfl⟩
  · repeat infer_instance
    have e : fo = nds [] R := by
      rw [← ho]
      show fo = fo ++ []
      rw [List.append_nil]
    rw [e]
    exact ⟨rfl, rfl⟩
  · obtain ⟨p, r⟩ := x
    rw [stZ_app] at hj hc
    rw [ordS_app] at ho
    have e0 : stZ [(p, r)] = r.size := by unfold stZ; rfl
    have e9 : ordS [(p, r)] = nds p r := by unfold ordS; show nds p r ++ [] = _; rw [List.append_nil]
    rw [e0] at hj hc
    rw [e9] at ho
    have hr := r.size_pos
    have hl := stZ_len st
    obtain ⟨hr1, hpl⟩ := hst (p, r) (List.mem_append_right _ (List.mem_singleton.mpr rfl))
    have hpl : p.length + stZ (st ++ [(p, r)]) ≤ R.size := hpl
    rw [stZ_app, e0] at hpl
    repeat infer_instance
    refine ⟨fun _ => ?_, fun z => absurd (of_decide_eq_false z) (by unfold stN; rw [List.length_map, List.length_append]; show ¬ ¬ ((0 : Int) < ((st.length + 1 : Nat) : Int)); omega)⟩
    refine ⟨j - 1, by omega, ?_⟩
    have e1 : stN (st ++ [(p, r)]) = stN st ++ [.tup [.tup (nT p), r.d]] := by
      unfold stN
      rw [List.map_append]
      rfl
    rw [e1]
    cases hr1 with
    | @node d ps pa hps =>
      refine wss_cons ?_
      refine ws_popT rfl rfl ?_
      repeat infer_instance
      refine ⟨by unfold stN; rw [List.length_map]; exact Nat.lt_of_lt_of_le (show fo.length < 1000001 by omega) (Nat.le_of_ble_eq_true rfl), ?_⟩
      repeat infer_instance
      refine we_comp (f := fun d => match d with
        | .tup [a, b] => .tup [.tup (nT p ++ [a]), b]
        | d => d) (p := fun _ => true) ?_
      repeat infer_instance
      refine ⟨_, _, pa o, ?_⟩
      have hsz : Rl.sizes ps + 1 = (Rl.node d ps).size := by show _ = 1 + Rl.sizes ps; omega
      have hpl2 : ps.length ≤ Rl.sizes ps := by
        have := stZ_len (chl p 0 ps)
        rw [stZ_chl, chl_len] at this
        exact this
      repeat infer_instance
      refine ⟨fun d hd => ?_, by rw [enD_len, List.length_map]; exact ten (by omega), ?_⟩
      · obtain ⟨i, y, rfl⟩ := enD_mem hd
        refine ⟨_, rfl, ?_, fun _ => ?_⟩
        · repeat infer_instance
          exact ⟨rfl, rfl⟩
        · repeat infer_instance
          refine g_addt (by rw [nT_len]; exact ten (by show p.length + 1 ≤ _; omega)) ?_
          repeat infer_instance
          exact ⟨rfl, rfl⟩
      · rw [filter_true, enD_chl p 0 ps]
        repeat infer_instance
        refine ⟨by unfold stN; rw [List.length_map, List.length_map, chl_len]; exact ten (by omega), ?_⟩
        repeat infer_instance
        refine ⟨rfl, fo ++ [(p, .node d ps)], st ++ chl p 0 ps, .val (.tup (nT p)), .val d, s5, s6, ?_, ?_, ?_, ?_, ?_⟩
        · have e2 : stN (st ++ chl p 0 ps) = stN st ++ (chl p 0 ps).map ndD := by
            unfold stN
            rw [List.map_append]
          have e3 : stN (fo ++ [(p, .node d ps)]) = stN fo ++ [.tup [.tup (nT p), d]] := by
            unfold stN
            rw [List.map_append]
            rfl
          rw [e2, e3]
          rfl
        · rw [stZ_app, stZ_chl]
          omega
        · rw [stZ_app, stZ_chl, List.length_append]
          show _ + (fo.length + 1) = _
          omega
        · rw [ordS_app, ordS_chl, ← ho]
          unfold nds
          simp only [List.append_assoc, List.cons_append, List.nil_append]
        · intro y hy
          rw [stZ_app, stZ_chl]
          rcases List.mem_append.mp hy with hy | hy
          · have := hst y (List.mem_append_left _ hy)
            rw [stZ_app, e0] at this
            exact ⟨this.1, by omega⟩
          · have := chl_mem p 0 ps y hy
            exact ⟨hps _ this.1, by omega⟩
end
end Lib

set_option maxHeartbeats 2000000
/-! Lm: a rule's form of the forms of its parts. -/
namespace Lib
open PySem Ev
local macro_rules | `(tactic| infer_instance) => `(tactic| first
  | refine wss_cons ?_
  | refine wss_nil ?_
  | refine ws_set ?_
  | refine ws_setOwn ?_
  | refine ws_par ?_
  | refine ws_parO ?_
  | refine ws_expr ?_
  | refine ws_ret ?_
  | refine ws_retN ?_
  | refine ws_retObj ?_
  | refine ws_ife ?_
  | refine ws_append rfl ?_
  | refine ws_extend rfl ?_
  | refine ws_put rfl ?_
  | refine ws_putO rfl ?_
  | refine ws_aug rfl ?_
  | refine ws_frz ?_
  | refine ws_pass ?_
  | refine ws_newDic ?_
  | refine we_var rfl ?_
  | refine we_bor rfl ?_
  | refine we_int ?_
  | refine we_bl ?_
  | refine we_non ?_
  | refine we_str ?_
  | refine we_tup ?_
  | refine we_lst ?_
  | refine we_dnew ?_
  | refine we_bin ?_
  | refine we_neg ?_
  | refine we_not ?_
  | refine we_and ?_
  | refine we_or ?_
  | refine we_cmp ?_
  | refine we_chain ?_
  | refine we_ite ?_
  | refine we_slc ?_
  | refine we_idx ?_
  | refine we_glob (by assumption) ?_
  | refine we_gin (by assumption) ?_
  | refine we_gidx (by assumption) ?_
  | refine we_gget (by assumption) ?_
  | refine we_call ?_
  | refine we_callv rfl ?_
  | refine we_bif ?_
  | refine we_isi ?_
  | refine we_rev ?_
  | refine weo_none ?_
  | refine weo_some ?_
  | refine wes_nil ?_
  | refine wes_cons ?_
  | refine was_nil ?_
  | refine was_val ?_
  | refine was_lam rfl ?_
  | refine wc_none ?_
  | refine wc_some ?_
  | refine wr_seq ?_
  | refine wr_zip ?_
  | refine wr_enum ?_
  | refine wr_rng1 ?_
  | refine wr_rng2 ?_
  | refine And.intro (Nat.le_of_ble_eq_true rfl) ?_
  | refine Exists.intro _ (And.intro rfl ?_)
  | refine Exists.intro _ (And.intro (Or.inl rfl) ?_)
  | refine Exists.intro _ (And.intro (Or.inr rfl) ?_)
  | refine Exists.intro _ (Exists.intro _ (And.intro (Or.inl (And.intro rfl rfl)) ?_))
  | refine Exists.intro _ (And.intro (Or.inr (Or.inl rfl)) ?_)
  | with_reducible refine if_t ?_
  | with_reducible refine if_f ?_
  | with_reducible refine if_nt ?_
  | with_reducible refine if_nf ?_
  | with_reducible refine if_n ?_
  | with_reducible refine g_add ?_
  | with_reducible refine g_sub ?_
  | with_reducible refine g_neg ?_
  | with_reducible refine g_lt ?_
  | with_reducible refine g_le ?_
  | with_reducible refine g_gt ?_
  | with_reducible refine g_ge ?_
  | with_reducible refine g_eqI ?_
  | with_reducible refine g_neI ?_
  | with_reducible refine g_lenf ?_
  | with_reducible refine g_lenfT ?_
  | with_reducible refine g_lenT0 ?_
  | with_reducible refine g_lenT1 ?_
  | with_reducible refine g_lenT2 ?_
  | with_reducible refine g_lenT3 ?_
  | with_reducible refine g_lenT4 ?_
  | with_reducible refine g_len ?_
  | with_reducible refine g_lenT ?_
  | with_reducible refine g_idx0 ?_
  | with_reducible refine g_idx1 ?_
  | with_reducible refine g_idx2 ?_
  | with_reducible refine g_isnB ?_
  | with_reducible refine g_isB ?_
  | ((with_reducible apply g_idx); exact rfl)
  | ((with_reducible apply g_bif); exact rfl)
  | ((with_reducible apply g_eqS); (· decide +kernel); (· decide +kernel))
  | ((with_reducible apply g_neS); (· decide +kernel); (· decide +kernel))
  | ((with_reducible apply g_in); assumption)
  | ((with_reducible apply g_in); exact rfl)
  | refine if_eqt (by decide +kernel) ?_
  | refine if_eqf (by decide +kernel) ?_
  | fail)
theorem cmp_in {x y : D} {c : Bool} (h : inD x y = some c) : cmpD .In x y = some (.bl c) := by
  show (inD x y).map D.bl = _
  rw [h]
  rfl
def pk (p : List Nat) : List L2.Key := p.map fun (i : Nat) => .inl (i : Int)
theorem pk_inj {p q : List Nat} (h : pk p = pk q) : p = q := by
  unfold pk at h
  refine (List.map_inj_right (fun a b e => ?_)).mp h
  injection e with e
  omega
theorem keysI_nT : ∀ p : List Nat, keysI (nT p) = some (pk p)
  | [] => rfl
  | i :: p => by
    show (keysI (nT p)).map (Sum.inl ((i : Nat) : Int) :: ·) = _
    rw [keysI_nT p]
    rfl
theorem keyT_nT (p : List Nat) : keyT (.tup (nT p)) = some (pk p) := keysI_nT p
section
variable {κ : Type} [DecidableEq κ]
theorem find_map {k k' : κ} {v : D} (h : k' ≠ k) : ∀ kvs : List (κ × D), ((kvs.map fun kv => if kv.1 = k then (kv.1, v) else kv).find? fun kv => decide (kv.1 = k')) = kvs.find? fun kv => decide (kv.1 = k')
  | [] => rfl
  | a :: kvs => by
    rw [List.map_cons, List.find?_cons, List.find?_cons, find_map h kvs]
    by_cases z : a.1 = k
    · rw [if_pos z]
      have e : decide (a.1 = k') = false := decide_eq_false fun y => h (y.symm.trans z)
      simp only [e]
    · rw [if_neg z]
theorem getKV_put_ne {k k' : κ} {v : D} (h : k' ≠ k) (kvs : List (κ × D)) : getKV (putKV kvs k v) k' = getKV kvs k' := by
  unfold getKV putKV
  split
  · rw [find_map h]
  · rw [List.find?_append]
    have e : ([(k, v)] : List (κ × D)).find? (fun kv => decide (kv.1 = k')) = none := by
      rw [List.find?_cons, decide_eq_false (fun y : k = k' => h y.symm)]
      rfl
    rw [e, Option.or_none]
theorem find_self {k : κ} {v : D} : ∀ {kvs : List (κ × D)}, (kvs.any fun kv => decide (kv.1 = k)) = true → (((kvs.map fun kv => if kv.1 = k then (kv.1, v) else kv).find? fun kv => decide (kv.1 = k)).map (·.2)) = some v
  | [], h => by cases h
  | a :: kvs, h => by
    rw [List.map_cons, List.find?_cons]
    by_cases z : a.1 = k
    · rw [if_pos z]
      simp only [decide_eq_true z]
      rfl
    · rw [if_neg z]
      rw [List.any_cons, decide_eq_false z, Bool.false_or] at h
      simp only [decide_eq_false z]
      exact find_self h
theorem getKV_put_eq {k : κ} {v : D} (kvs : List (κ × D)) : getKV (putKV kvs k v) k = some v := by
  unfold getKV putKV
  split
  · rename_i h
    exact find_self h
  · rename_i h
    rw [List.find?_append]
    have e : kvs.find? (fun kv => decide (kv.1 = k)) = none := by
      rw [List.find?_eq_none]
      intro x hx y
      exact h (List.any_eq_true.mpr ⟨x, hx, y⟩)
    rw [e, Option.none_or, List.find?_cons, decide_eq_true rfl]
    rfl
theorem putKV_len {k : κ} {v : D} (kvs : List (κ × D)) : (putKV kvs k v).length ≤ kvs.length + 1 := by
  unfold putKV
  split
  · rw [List.length_map]
    omega
  · rw [List.length_append]
    exact Nat.le_refl _
end
/-- what its form is -/
inductive Den (T : Tab) (L k : Nat) (cal : D) : Rl → D → Prop
  | leaf {w : Str} {ds : List D} {fd : D} (hw : inD (.str w) c_LEAVES = some true) (h : ∀ o, cf T L k "raw_leaf" [.val cal, .val (.tup (.str w :: ds))] o = .ok fd o) : Den T L k cal (.node (.tup (.str w :: ds)) []) fd
  | made {w : Str} {ds : List D} {ps : List Rl} {fs : List D} {fd : D} (hw : inD (.str w) c_LEAVES = some false) (pa : Parts T L k (.tup (.str w :: ds)) ps) (hl : fs.length = ps.length) (hs : ∀ (i : Nat) (r : Rl) (f : D), ps[i]? = some r → fs[i]? = some f → Den T L k cal r f)
    (h : ∀ o, cf T L k "raw_made" [.val (.tup (.str w :: ds)), .val (.lst fs)] o = .ok fd o) : Den T L k cal (.node (.tup (.str w :: ds)) ps) fd
/-- a for, item by item -/
def LW (bd : D → Frm → Option Frm) (b : Frm → Objs → SRes) (R : D → Objs → Prop) (N : Frm → Objs → Prop) : List D → Frm → Objs → Prop
  | [], ρ, o => N ρ o
  | d :: ds, ρ, o => ∃ ρ1, bd d ρ = some ρ1 ∧ WSr (b ρ1 o) (fun ρ' o' => LW bd b R N ds ρ' o') R
section
variable {bd : D → Frm → Option Frm} {b : Frm → Objs → SRes} {R : D → Objs → Prop} {N M : Frm → Objs → Prop}
theorem LW.loop : ∀ {ds : List D} {ρ : Frm} {o : Objs}, LW bd b R N ds ρ o → WSr (loopF bd b ds ρ o) N R
  | [], _, _, h => h
  | d :: ds, ρ, o, h => by
    obtain ⟨ρ1, h1, h2⟩ := h
    unfold loopF
    simp only [h1]
    revert h2
    generalize b ρ1 o = r
    intro h2
    cases r with
    | nx ρ' o' => exact LW.loop h2
    | ret d o' => exact h2
    | _ => exact h2.elim
theorem LW.app : ∀ {xs ys : List D} {ρ : Frm} {o : Objs}, LW bd b R (fun ρ' o' => LW bd b R N ys ρ' o') xs ρ o → LW bd b R N (xs ++ ys) ρ o
  | [], _, _, _, h => h
  | x :: xs, ys, ρ, o, h => by
    obtain ⟨ρ1, h1, h2⟩ := h
    exact ⟨ρ1, h1, wsr_imp h2 (fun ρ' o' z => LW.app z) fun _ _ z => z⟩
theorem LW.imp : ∀ {xs : List D} {ρ : Frm} {o : Objs}, LW bd b R M xs ρ o → (∀ ρ o, M ρ o → N ρ o) → LW bd b R N xs ρ o
  | [], _, _, h, i => i _ _ h
  | x :: xs, ρ, o, h, i => by
    obtain ⟨ρ1, h1, h2⟩ := h
    exact ⟨ρ1, h1, wsr_imp h2 (fun ρ' o' z => LW.imp z i) fun _ _ z => z⟩
end
section
variable {T : Tab} {L k : Nat} {cal RD : D} {base : Objs} {R' : D → Objs → Prop}
abbrev lBd : D → Frm → Option Frm := fun d ρ => bindT (.tup [(.name 3), (.name 4)]) d ρ
abbrev lBo (T : Tab) (L k : Nat) : Frm → Objs → SRes := fun ρ o => exSs (cf T L k) (cc T L k) T.con T.isa L b_raw_form_6 ρ o
/-- what is known after a rule's nodes -/
def After (cal RD : D) (base : Objs) (kvs : List (List L2.Key × D)) (n : Nat) (G : List (List L2.Key × D) → Prop) (ρ : Frm) (o : Objs) : Prop :=
  ∃ kvs' s3 s4 s5, ρ = [.val cal, .val RD, .val (.obj base.length), s3, s4, s5] ∧ o = base ++ [.dT kvs'] ∧ kvs'.length ≤ kvs.length + n ∧ G kvs'
def Walks (T : Tab) (L k : Nat) (cal RD : D) (base : Objs) (R' : D → Objs → Prop) (r : Rl) (fd : D) : Prop :=
  ∀ (p : List Nat) (kvs : List (List L2.Key × D)) (s3 s4 s5 : Slot), kvs.length + r.size ≤ 1000 → p.length + r.size ≤ 1000 →
    LW lBd (lBo T L k) R' (After cal RD base kvs r.size fun kvs' => getKV kvs' (pk p) = some fd ∧ ∀ q, ¬ p <+: q → getKV kvs' (pk q) = getKV kvs (pk q))
      ((post p r).map ndD) [.val cal, .val RD, .val (.obj base.length), s3, s4, s5] (base ++ [.dT kvs])
theorem get_last {base : Objs} {x : SObj} : (base ++ [x])[base.length]? = some x := by
  rw [List.getElem?_append_right (Nat.le_refl _), Nat.sub_self]
  rfl
theorem set_last {base : Objs} {x y : SObj} : (base ++ [x]).set base.length y = base ++ [y] := by
  rw [List.set_append_right _ _ (Nat.le_refl _), Nat.sub_self]
  rfl
/-- the parts, one by one -/
theorem walkL {p : List Nat} : ∀ (ps : List Rl) (fs : List D) (i : Nat) (kvs : List (List L2.Key × D)) (s3 s4 s5 : Slot), fs.length = ps.length → (∀ (j : Nat) (r : Rl) (f : D), ps[j]? = some r → fs[j]? = some f → Walks T L k cal RD base R' r f) → kvs.length + Rl.sizes ps ≤ 1000 → p.length + 1 + Rl.sizes ps ≤ 1000 →
    LW lBd (lBo T L k) R' (After cal RD base kvs (Rl.sizes ps) fun kvs' => (∀ (j : Nat) (f : D), fs[j]? = some f → getKV kvs' (pk (p ++ [i + j])) = some f) ∧ ∀ q, (∀ j, i ≤ j → ¬ (p ++ [j]) <+: q) → getKV kvs' (pk q) = getKV kvs (pk q))
      ((postL p i ps).map ndD) [.val cal, .val RD, .val (.obj base.length), s3, s4, s5] (base ++ [.dT kvs])
  | [], fs, i, kvs, s3, s4, s5, hl, hw, h1, h2 => by
    have e : fs = [] := List.eq_nil_of_length_eq_zero hl
    subst e
    unfold postL
    exact ⟨kvs, s3, s4, s5, rfl, rfl, Nat.le_add_right _ _, And.intro (fun j f z => nomatch z) (fun q _ => rfl)⟩
  | r :: rs, [], i, kvs, s3, s4, s5, hl, hw, h1, h2 => by cases hl
  | r :: rs, f :: fs, i, kvs, s3, s4, s5, hl, hw, h1, h2 => by
    have e1 : Rl.sizes (r :: rs) = r.size + Rl.sizes rs := rfl
    rw [e1] at h1 h2
    unfold postL
    rw [List.map_append]
    refine LW.app ((hw 0 r f rfl rfl (p ++ [i]) kvs s3 s4 s5 (by omega) (by rw [List.length_append]; show p.length + 1 + r.size ≤ 1000; omega)).imp ?_)
    rintro ρ o ⟨kvs1, t3, t4, t5, rfl, rfl, l1, g1, g2⟩
    refine (walkL rs fs (i + 1) kvs1 t3 t4 t5 (by injection hl) (fun j r' f' z1 z2 => hw (j + 1) r' f' z1 z2) (by omega) (by omega)).imp ?_
    rintro ρ o ⟨kvs2, u3, u4, u5, rfl, rfl, l2, g3, g4⟩
    refine ⟨kvs2, u3, u4, u5, rfl, rfl, by rw [e1]; omega, fun j f' z => ?_, fun q hq => ?_⟩
    · cases j with
      | zero =>
        cases z
        rw [Nat.add_zero, g4 _ fun j hj hp => ?_]
        · exact g1
        · have := List.append_inj_right' (List.IsPrefix.eq_of_length hp (by rw [List.length_append, List.length_append]; rfl)) rfl
          injection this with this
          omega
      | succ j =>
        have := g3 j f' z
        rw [show i + (j + 1) = i + 1 + j by omega]
        exact this
    · rw [g4 q fun j hj => hq j (by omega), g2 q (hq i (Nat.le_refl _))]
theorem putO_dT {kvs : List (List L2.Key × D)} {p : List Nat} {v : D} (h : kvs.length < 1000001) : putO (.dT kvs) (.tup (nT p)) v = some (.dT (putKV kvs (pk p) v)) := by
  have e : putO (.dT kvs) (.tup (nT p)) v = (match keyT (.tup (nT p)) with | some k => if decide (kvs.length < sizeLine) then some (.dT (putKV kvs k v)) else none | none => none) := rfl
  rw [e, keyT_nT]
  exact if_pos (decide_eq_true (Nat.lt_of_lt_of_le h (Nat.le_of_ble_eq_true rfl)))
theorem getO_dT {kvs : List (List L2.Key × D)} {p : List Nat} : getO (.dT kvs) (.tup (nT p)) = getKV kvs (pk p) := by
  have e : getO (.dT kvs) (.tup (nT p)) = (match keyT (.tup (nT p)) with | some k => getKV kvs k | none => none) := rfl
  rw [e, keyT_nT]
theorem nT_app (p : List Nat) (i : Nat) : nT p ++ [.int (i : Int)] = nT (p ++ [i]) := by
  unfold nT
  rw [List.map_append]
  rfl
theorem walk {base : Objs} {R : Rl} {fd : D} (U : LRules T) (D' : Den T L k cal R fd) : Walks T L k cal RD base R' R fd := by
  have gl := U.c_leaves
  induction D' with
  | @leaf w ds fd hw h =>
    intro p kvs s3 s4 s5 h1 h2
    unfold post postL
    refine ⟨[.val cal, .val RD, .val (.obj base.length), .val (.tup (nT p)), .val (.tup (.str w :: ds)), s5], rfl, ?_⟩
    refine WSs.p (F := cf T L k) (C := cc T L k) (G := T.con) (is := T.isa) (L := L) (s := b_raw_form_6) ?_
    repeat infer_instance
    refine ⟨_, _, h _, ?_⟩
    repeat infer_instance
    refine ⟨_, _, get_last, putO_dT (by omega), ?_⟩
    rw [set_last]
    repeat infer_instance
    refine ⟨_, _, _, _, rfl, rfl, Nat.le_trans (putKV_len _) (Nat.add_le_add_left (Rl.size_pos _) _), And.intro (getKV_put_eq _) fun q hq => getKV_put_ne (fun e => hq ?_) _⟩
    rw [pk_inj e]
    exact List.prefix_refl _
  | @made w ds ps fs fd hw pa hl hs h ih =>
    intro p kvs s3 s4 s5 h1 h2
    have e0 : (Rl.node (.tup (.str w :: ds)) ps).size = 1 + Rl.sizes ps := rfl
    rw [e0] at h1 h2
    unfold post
    rw [List.map_append]
    refine LW.app ((walkL ps fs 0 kvs s3 s4 s5 hl ih (by omega) (by omega)).imp ?_)
    rintro ρ o ⟨kvs1, t3, t4, t5, rfl, rfl, l1, g1, g2⟩
    refine ⟨[.val cal, .val RD, .val (.obj base.length), .val (.tup (nT p)), .val (.tup (.str w :: ds)), t5], rfl, ?_⟩
    refine WSs.p (F := cf T L k) (C := cc T L k) (G := T.con) (is := T.isa) (L := L) (s := b_raw_form_6) ?_
    repeat infer_instance
    refine we_comp (f := fun d => fs.getD (toI d).toNat .non) (p := fun _ => true) ?_
    repeat infer_instance
    refine ⟨_, _, pa _, ?_⟩
    repeat infer_instance
    have hpl : ps.length ≤ Rl.sizes ps := by
      have := stZ_len (chl p 0 ps)
      rw [stZ_chl, chl_len] at this
      exact this
    refine ⟨_, ps.length, rfl, by rw [List.length_map], by omega, ?_⟩
    refine ⟨fun d hd => ?_, by rw [rgD_len]; exact ten (by omega), ?_⟩
    · obtain ⟨i, hi⟩ := List.getElem?_of_mem hd
      obtain ⟨hi, rfl⟩ := rgD_get hi
      rw [Nat.zero_add]
      refine ⟨_, rfl, ?_, fun _ => ?_⟩
      · repeat infer_instance
        exact ⟨rfl, rfl⟩
      · refine we_idxo ?_
        repeat infer_instance
        refine g_addt (by rw [nT_len]; exact ten (by show p.length + 1 ≤ _; omega)) ?_
        rw [nT_app]
        have hf : fs[i]? = some (fs.getD i .non) := by
          rw [List.getD_eq_getElem?_getD, List.getElem?_eq_getElem (by omega)]
          rfl
        refine ⟨_, _, fs.getD i .non, rfl, get_last, ?_, ?_⟩
        · rw [getO_dT]
          have := g1 i _ hf
          rw [Nat.zero_add] at this
          exact this
        · exact ⟨rfl, rfl⟩
    · rw [filter_true]
      have e : (rgD 0 ps.length).map (fun d => fs.getD (toI d).toNat .non) = fs := by
        refine List.ext_getElem? fun i => ?_
        unfold rgD
        rw [List.map_map, List.getElem?_map]
        by_cases z : i < ps.length
        · rw [List.getElem?_eq_getElem (by rw [List.length_range']; exact z), List.getElem_range', List.getElem?_eq_getElem (by omega)]
          show some (fs.getD (((0 + 1 * i : Nat) : Int)).toNat D.non) = _
          rw [Int.toNat_natCast, Nat.one_mul, Nat.zero_add, List.getD_eq_getElem?_getD, List.getElem?_eq_getElem (by omega)]
          rfl
        · rw [List.getElem?_eq_none (by rw [List.length_range']; omega), List.getElem?_eq_none (by omega)]
          rfl
      rw [e]
      repeat infer_instance
      refine ⟨_, _, h _, ?_⟩
      repeat infer_instance
      refine ⟨_, _, get_last, putO_dT (by omega), ?_⟩
      rw [set_last]
      repeat infer_instance
      refine ⟨_, _, _, _, rfl, rfl, Nat.le_trans (putKV_len _) (by rw [e0]; omega), And.intro (getKV_put_eq _) fun q hq => ?_⟩
      rw [getKV_put_ne (fun e => hq (by rw [pk_inj e]; exact List.prefix_refl _)), g2 q fun j _ z => hq ((List.prefix_append _ _).trans z)]
end
section
variable {T : Tab} {L : Nat} (E : LForm T L) (U : LRules T) variable {k : Nat} {o : Objs} {cal fd : D} {R : Rl}
theorem trunc_new {d : D} {x : SObj} (h1 : nO d = true) (h2 : o.all SObj.nO = true) : (Res.ok d (o ++ [x])).trunc o.length = .ok d o := by
  show (if Ev.nO d && ((o ++ [x]).take o.length).all SObj.nO then Res.ok d ((o ++ [x]).take o.length) else Res.ok d (o ++ [x])) = _
  rw [List.take_left, h1, h2]
  rfl
theorem ws_forL {F : FnT} {C : CloT} {G : Str → Option D} {is : Str → Str → Bool} {ρ : Frm} {t : Tg} {src : ISrc} {b : ISs} {N : Frm → Objs → Prop} {R : D → Objs → Prop} (h : WR F C G is src ρ o fun ds o1 => LW (fun d ρ => bindT t d ρ) (fun ρ o => exSs F C G is L b ρ o) R N ds ρ o1) : WS F C G is L (.for t src b) ρ o N R := by
  obtain ⟨ds, o1, h1, h2⟩ := h
  constructor
  rw [exS, h1]
  exact h2.loop
include E U in
theorem v_raw_form (H : RlP T L k R) (D' : Den T L (k + 1) cal R fd) (hs : R.size ≤ 900) (h1 : nO fd = true) (h2 : o.all SObj.nO = true) : cf T L (k + 2) "raw_form" [.val cal, .val R.d] o = .ok fd o := by
  have w : WSs (cf T L (k + 1)) (cc T L (k + 1)) T.con T.isa L i_raw_form.body (frame [.val cal, .val R.d] i_raw_form.nl) o (fun _ _ => False) (fun d o' => d = fd ∧ ∃ x, o' = o ++ [x]) := by
    repeat infer_instance
    refine ws_forL ?_
    repeat infer_instance
    refine ⟨_, _, v_raw_nodes E U H (by omega), ?_⟩
    repeat infer_instance
    rw [← List.map_reverse, nds_rev]
    refine LW.imp (walk (base := o) (RD := R.d) U D' [] [] .none .none .none (by show 0 + R.size ≤ 1000; omega) (by show 0 + R.size ≤ 1000; omega)) ?_
    rintro ρ o' ⟨kvs, s3, s4, s5, rfl, rfl, l1, g1, g2⟩
    refine wss_cons ?_
    refine ws_ret ?_
    refine we_idxo ?_
    repeat infer_instance
    refine ⟨_, _, fd, rfl, get_last, ?_, ?_⟩
    · show getO (.dT kvs) (.tup (nT [])) = _
      rw [getO_dT]
      exact g1
    · exact ⟨rfl, _, rfl⟩
  replace w := w.p
  revert w
  generalize hr : exSs (cf T L (k + 1)) (cc T L (k + 1)) T.con T.isa L i_raw_form.body (frame [.val cal, .val R.d] i_raw_form.nl) o = r
  intro w
  cases r with
  | ret d o' =>
    obtain ⟨rfl, x, rfl⟩ := w
    show (match T.fn "raw_form" with | some ir => if ([Slot.val cal, Slot.val R.d] : List Slot).length = ir.np then ((exSs (cf T L (k + 1)) (cc T L (k + 1)) T.con T.isa L ir.body (frame [.val cal, .val R.d] ir.nl) o).out).trunc o.length else .stuck | none => .stuck) = _
    rw [U.raw_form]
    show (if (2 : Nat) = 2 then ((exSs (cf T L (k + 1)) (cc T L (k + 1)) T.con T.isa L i_raw_form.body (frame [.val cal, .val R.d] i_raw_form.nl) o).out).trunc o.length else .stuck) = _
    rw [if_pos rfl, hr]
    exact trunc_new h1 h2
  | nx ρ o' => exact w.elim
  | _ => exact w.elim
end
end Lib

set_option maxHeartbeats 2000000
/-! Ln: forms put together; leaves. -/
namespace Lib
open PySem Ev
local macro_rules | `(tactic| infer_instance) => `(tactic| first
  | refine wss_cons ?_
  | refine wss_nil ?_
  | refine ws_set ?_
  | refine ws_setOwn ?_
  | refine ws_par ?_
  | refine ws_parO ?_
  | refine ws_expr ?_
  | refine ws_ret ?_
  | refine ws_retN ?_
  | refine ws_retObj ?_
  | refine ws_ife ?_
  | refine ws_append rfl ?_
  | refine ws_extend rfl ?_
  | refine ws_put rfl ?_
  | refine ws_putO rfl ?_
  | refine ws_aug rfl ?_
  | refine ws_frz ?_
  | refine ws_pass ?_
  | refine ws_newDic ?_
  | refine we_var rfl ?_
  | refine we_bor rfl ?_
  | refine we_int ?_
  | refine we_bl ?_
  | refine we_non ?_
  | refine we_str ?_
  | refine we_tup ?_
  | refine we_lst ?_
  | refine we_dnew ?_
  | refine we_bin ?_
  | refine we_neg ?_
  | refine we_not ?_
  | refine we_and ?_
  | refine we_or ?_
  | refine we_cmp ?_
  | refine we_chain ?_
  | refine we_ite ?_
  | refine we_slc ?_
  | refine we_idx ?_
  | refine we_glob (by assumption) ?_
  | refine we_gin (by assumption) ?_
  | refine we_gidx (by assumption) ?_
  | refine we_gget (by assumption) ?_
  | refine we_call ?_
  | refine we_callv rfl ?_
  | refine we_bif ?_
  | refine we_isi ?_
  | refine we_rev ?_
  | refine weo_none ?_
  | refine weo_some ?_
  | refine wes_nil ?_
  | refine wes_cons ?_
  | refine was_nil ?_
  | refine was_val ?_
  | refine was_lam rfl ?_
  | refine wc_none ?_
  | refine wc_some ?_
  | refine wr_seq ?_
  | refine wr_zip ?_
  | refine wr_enum ?_
  | refine wr_rng1 ?_
  | refine wr_rng2 ?_
  | refine And.intro (Nat.le_of_ble_eq_true rfl) ?_
  | refine Exists.intro _ (And.intro rfl ?_)
  | refine Exists.intro _ (And.intro (Or.inl rfl) ?_)
  | refine Exists.intro _ (And.intro (Or.inr rfl) ?_)
  | refine Exists.intro _ (Exists.intro _ (And.intro (Or.inl (And.intro rfl rfl)) ?_))
  | refine Exists.intro _ (And.intro (Or.inr (Or.inl rfl)) ?_)
  | with_reducible refine if_t ?_
  | with_reducible refine if_f ?_
  | with_reducible refine if_nt ?_
  | with_reducible refine if_nf ?_
  | with_reducible refine if_n ?_
  | with_reducible refine g_add ?_
  | with_reducible refine g_sub ?_
  | with_reducible refine g_neg ?_
  | with_reducible refine g_lt ?_
  | with_reducible refine g_le ?_
  | with_reducible refine g_gt ?_
  | with_reducible refine g_ge ?_
  | with_reducible refine g_eqI ?_
  | with_reducible refine g_neI ?_
  | with_reducible refine g_lenf ?_
  | with_reducible refine g_lenfT ?_
  | with_reducible refine g_lenT0 ?_
  | with_reducible refine g_lenT1 ?_
  | with_reducible refine g_lenT2 ?_
  | with_reducible refine g_lenT3 ?_
  | with_reducible refine g_lenT4 ?_
  | with_reducible refine g_len ?_
  | with_reducible refine g_lenT ?_
  | with_reducible refine g_idx0 ?_
  | with_reducible refine g_idx1 ?_
  | with_reducible refine g_idx2 ?_
  | with_reducible refine g_isnB ?_
  | with_reducible refine g_isB ?_
  | ((with_reducible apply g_idx); exact rfl)
  | ((with_reducible apply g_bif); exact rfl)
  | ((with_reducible apply g_eqS); (· decide +kernel); (· decide +kernel))
  | ((with_reducible apply g_neS); (· decide +kernel); (· decide +kernel))
  | ((with_reducible apply g_in); assumption)
  | ((with_reducible apply g_in); exact rfl)
  | refine if_eqt (by decide +kernel) ?_
  | refine if_eqf (by decide +kernel) ?_
  | fail)
structure LTwo (T : Tab) (L : Nat) : Prop extends LCore T L where
  common_part : T.fn "common_part" = some i_common_part
  common_span : T.fn "common_span" = some i_common_span
  two_flags : T.fn "two_flags" = some i_two_flags
theorem divOk_lit {j : Int} (h1 : 0 < j) (h2 : j ≤ 10 ^ 40) : divOk j = true := by
  have l : j.natAbs.log2 < 9000 := (Nat.log2_lt (by omega)).mpr (by
    have : (10 ^ 40 : Nat) < 2 ^ 9000 := Nat.lt_of_lt_of_le (show 10 ^ 40 < 2 ^ 140 by decide) (Nat.pow_le_pow_right (by decide) (by decide))
    omega)
  unfold divOk
  rw [decide_eq_true h1, decide_eq_true l]
  rfl
theorem bin_div {i j : Int} (h : 0 < j) (h2 : j ≤ 10 ^ 40) : binD .FloorDiv (.int i) (.int j) = some (.int (i / j)) := by
  show (if divOk j = true then some (D.int (i / j)) else none) = _
  rw [divOk_lit h h2, if_pos rfl]
theorem small {i : Int} (h1 : -(10 ^ 40) ≤ i) (h2 : i ≤ 10 ^ 40) : i.natAbs < 2 ^ 400 := by
  have : (10 ^ 40 : Nat) < 2 ^ 400 := by decide
  omega
theorem bin_mul {i j : Int} (h1 : -(10 ^ 40) ≤ i) (h2 : i ≤ 10 ^ 40) (h3 : -(10 ^ 40) ≤ j) (h4 : j ≤ 10 ^ 40) : binD .Mult (.int i) (.int j) = some (.int (i * j)) := by
  show (if mulOk i j = true then some (D.int (i * j)) else none) = _
  rw [mulOk_of (small h1 h2) (small h3 h4), if_pos rfl]
theorem bin_mulN {a b : Nat} (h1 : a ≤ 10 ^ 20) (h2 : b ≤ 10 ^ 20) : binD .Mult (.int (a : Int)) (.int (b : Int)) = some (.int ((a * b : Nat) : Int)) := by
  rw [bin_mul (by omega) (by omega) (by omega) (by omega)]
  norm_cast
section
variable {T : Tab} {L : Nat} (B : LTwo T L) variable {k : Nat} {o : Objs} {b p c q m n : Nat} {f g : Nat → Bool} {x y : Int}
include B in
theorem v_common_part (hx : x = (n : Int)) (hy : y = (m : Int)) (hm : m ≤ 20000) : cf T L (k + 1) "common_part" [.val (.int x), .val (.int y)] o = .ok (.int (Nat.gcd n m : Nat)) o := by
  have hL := B.hL
  refine cf_p B.common_part rfl ?_
  repeat infer_instance
  refine ws_whl (fun j ρ o' => o = o' ∧ ∃ a b : Nat, ρ = [.val (.int (a : Int)), .val (.int (b : Int))] ∧ b ≤ j ∧ Nat.gcd a b = Nat.gcd n m) (m := m) ⟨rfl, n, m, by rw [hx, hy]; rfl, Nat.le_refl _, rfl⟩ (by omega) ?_
  rintro j ρ o' ⟨rfl, a, b, rfl, h1, h2⟩
  repeat infer_instance
  refine ⟨fun z => ?_, fun z => ?_⟩
  · have z := of_decide_eq_true z
    refine ⟨j - 1, by omega, ?_⟩
    repeat infer_instance
    refine ⟨_, bin_mod (by omega), ?_⟩
    repeat infer_instance
    have e : ((a : Int) % (b : Int)) = ((a % b : Nat) : Int) := by norm_cast
    have := Nat.mod_lt a (show b > 0 by omega)
    refine ⟨rfl, b, a % b, by rw [← e]; rfl, by omega, ?_⟩
    rw [← h2, Nat.gcd_comm b, ← Nat.gcd_rec, Nat.gcd_comm]
  · have z := of_decide_eq_false z
    have e : b = 0 := by omega
    subst e
    repeat infer_instance
    rw [← h2, Nat.gcd_zero_right]
    exact ⟨rfl, rfl⟩
include B in
theorem v_common_span (hx : x = (n : Int)) (hy : y = (m : Int)) (h0 : 0 < n) (hn : n ≤ 20000) (hm : m ≤ 20000) : cf T L (k + 2) "common_span" [.val (.int x), .val (.int y)] o = .ok (.int (Nat.lcm n m : Nat)) o := by
  have hg : 0 < Nat.gcd n m := Nat.gcd_pos_of_pos_left _ h0
  have hg2 : Nat.gcd n m ≤ n := Nat.gcd_le_left _ h0
  have hd : n / Nat.gcd n m ≤ n := Nat.div_le_self _ _
  refine cf_p B.common_span rfl ?_
  repeat infer_instance
  refine ⟨_, _, v_common_part B hx hy hm, ?_⟩
  repeat infer_instance
  refine ⟨_, bin_div (by omega) (by omega), ?_⟩
  repeat infer_instance
  have e : x / ((Nat.gcd n m : Nat) : Int) = ((n / Nat.gcd n m : Nat) : Int) := by
    rw [hx]
    norm_cast
  rw [e, hy]
  refine ⟨_, bin_mulN (Nat.le_trans hd (by omega)) (by omega), ?_⟩
  refine ⟨?_, rfl⟩
  have : n / Nat.gcd n m * m = Nat.lcm n m := by
    unfold Nat.lcm
    rw [Nat.mul_comm n m, Nat.mul_div_assoc _ (Nat.gcd_dvd_left n m), Nat.mul_comm]
  rw [this]
theorem max_int {x y : Int} (hx : x = (n : Int)) (hy : y = (m : Int)) : (if y > x then y else x) = ((max n m : Nat) : Int) := by
  split <;> omega
include B in
theorem v_two_flags (hp : 0 < p) (per : Per f b p) (hb : b + p ≤ 20000) (hq : 0 < q) (per2 : Per g c q) (hc : c + q ≤ 20000) (hw : max b c + Nat.lcm p q ≤ 20000) (hm : x = (m : Int)) (hm2 : m ≤ 70000) :
    cf T L (k + 3) "two_flags" [.val (fD b p f), .val (fD c q g), .val (.int x)] o = .ok (.tup [.int (max b c : Nat), .int (Nat.lcm p q : Nat), .lst (flg f (max b c + Nat.lcm p q + m)), .lst (flg g (max b c + Nat.lcm p q + m))]) o := by
  refine cf_p B.two_flags rfl ?_
  repeat infer_instance
  rw [max_int (n := b) (m := c) rfl rfl]
  repeat infer_instance
  refine ⟨_, _, v_common_span B rfl rfl hp (by omega) (by omega), ?_⟩
  repeat infer_instance
  refine ⟨_, _, check_width_ok B.check_width B.c_f (by omega), ?_⟩
  repeat infer_instance
  have e : ((max b c : Nat) : Int) + ((Nat.lcm p q : Nat) : Int) + x = ((max b c + Nat.lcm p q + m : Nat) : Int) := by omega
  refine ⟨_, _, v_raw_flags B.toLCore e hp per hb (by omega), ?_⟩
  repeat infer_instance
  refine ⟨_, _, v_raw_flags B.toLCore e hq per2 hc (by omega), ?_⟩
  repeat infer_instance
  exact ⟨rfl, rfl⟩
theorem per_two (h : Per f b p) (h2 : Per g c q) (op : Bool → Bool → Bool) : Per (fun i => op (f i) (g i)) (max b c) (Nat.lcm p q) := by
  intro n hn
  obtain ⟨u, hu⟩ := Nat.dvd_lcm_left p q
  obtain ⟨v, hv⟩ := Nat.dvd_lcm_right p q
  show op (f (n + Nat.lcm p q)) (g (n + Nat.lcm p q)) = op (f n) (g n)
  have e1 : f (n + Nat.lcm p q) = f n := by
    rw [hu]
    exact h.mul u n (by omega)
  have e2 : g (n + Nat.lcm p q) = g n := by
    rw [hv]
    exact h2.mul v n (by omega)
  rw [e1, e2]
theorem zip_flg : ((flg f n).zip (flg g n)).map (fun p => D.tup [p.1, p.2]) = (List.range n).map fun i => D.tup [.bl (f i), .bl (g i)] := by
  unfold flg
  rw [List.zip_map', List.map_map]
  rfl
def opD (op : Bool → Bool → Bool) : D → D
  | .tup [.bl a, .bl b] => .bl (op a b)
  | _ => .non
theorem opD_map (op : Bool → Bool → Bool) : ((List.range n).map fun i => D.tup [.bl (f i), .bl (g i)]).map (opD op) = flg (fun i => op (f i) (g i)) n := by
  rw [List.map_map]
  rfl
include B in
theorem v_raw_either (h0 : T.fn "raw_either" = some i_raw_either) (hp : 0 < p) (per : Per f b p) (hb : b + p ≤ 20000) (hq : 0 < q) (per2 : Per g c q) (hc : c + q ≤ 20000) (hw : max b c + Nat.lcm p q ≤ 20000) {b' p' : Nat} (hl : Least (fun i => f i || g i) b' p') :
    cf T L (k + 4) "raw_either" [.val (fD b p f), .val (fD c q g)] o = .ok (fD b' p' fun i => f i || g i) o := by
  refine cf_p h0 rfl ?_
  repeat infer_instance
  refine ⟨_, _, v_two_flags B hp per hb hq per2 hc hw (m := 0) rfl (by omega), ?_⟩
  repeat infer_instance
  refine we_comp (f := opD fun a b => a || b) (p := fun _ => true) ?_
  repeat infer_instance
  rw [zip_flg]
  refine ⟨fun d hd => ?_, by rw [List.length_map, List.length_range]; exact ten (by omega), ?_⟩
  · obtain ⟨i, _, rfl⟩ := List.mem_map.mp hd
    refine ⟨_, rfl, ?_, fun _ => ?_⟩
    · repeat infer_instance
      exact ⟨rfl, rfl⟩
    · repeat infer_instance
      refine ⟨fun z => ?_, fun z => ?_⟩
      · show D.bl true = D.bl (f i || g i) ∧ _
        rw [z]
        exact ⟨rfl, rfl⟩
      · repeat infer_instance
        show D.bl (g i) = D.bl (f i || g i) ∧ _
        rw [z]
        exact ⟨rfl, rfl⟩
  · rw [filter_true, opD_map]
    repeat infer_instance
    refine ⟨_, _, v_form_by B.toLCore rfl (Nat.lcm_pos hp hq) (per_two per per2 fun a b => a || b) hw hl, ?_⟩
    exact ⟨rfl, rfl⟩
include B in
theorem v_raw_both (h0 : T.fn "raw_both" = some i_raw_both) (hp : 0 < p) (per : Per f b p) (hb : b + p ≤ 20000) (hq : 0 < q) (per2 : Per g c q) (hc : c + q ≤ 20000) (hw : max b c + Nat.lcm p q ≤ 20000) {b' p' : Nat} (hl : Least (fun i => f i && g i) b' p') :
    cf T L (k + 4) "raw_both" [.val (fD b p f), .val (fD c q g)] o = .ok (fD b' p' fun i => f i && g i) o := by
  refine cf_p h0 rfl ?_
  repeat infer_instance
  refine ⟨_, _, v_two_flags B hp per hb hq per2 hc hw (m := 0) rfl (by omega), ?_⟩
  repeat infer_instance
  refine we_comp (f := opD fun a b => a && b) (p := fun _ => true) ?_
  repeat infer_instance
  rw [zip_flg]
  refine ⟨fun d hd => ?_, by rw [List.length_map, List.length_range]; exact ten (by omega), ?_⟩
  · obtain ⟨i, _, rfl⟩ := List.mem_map.mp hd
    refine ⟨_, rfl, ?_, fun _ => ?_⟩
    · repeat infer_instance
      exact ⟨rfl, rfl⟩
    · repeat infer_instance
      refine ⟨fun z => ?_, fun z => ?_⟩
      · repeat infer_instance
        show D.bl (g i) = D.bl (f i && g i) ∧ _
        rw [z]
        exact ⟨rfl, rfl⟩
      · show D.bl false = D.bl (f i && g i) ∧ _
        rw [z]
        exact ⟨rfl, rfl⟩
  · rw [filter_true, opD_map]
    repeat infer_instance
    refine ⟨_, _, v_form_by B.toLCore rfl (Nat.lcm_pos hp hq) (per_two per per2 fun a b => a && b) hw hl, ?_⟩
    exact ⟨rfl, rfl⟩
include B in
theorem v_raw_without (h0 : T.fn "raw_without" = some i_raw_without) (hp : 0 < p) (per : Per f b p) (hb : b + p ≤ 20000) (hq : 0 < q) (per2 : Per g c q) (hc : c + q ≤ 20000) (hw : max b c + Nat.lcm p q ≤ 20000) {b' p' : Nat} (hl : Least (fun i => f i && !g i) b' p') :
    cf T L (k + 4) "raw_without" [.val (fD b p f), .val (fD c q g)] o = .ok (fD b' p' fun i => f i && !g i) o := by
  refine cf_p h0 rfl ?_
  repeat infer_instance
  refine ⟨_, _, v_two_flags B hp per hb hq per2 hc hw (m := 0) rfl (by omega), ?_⟩
  repeat infer_instance
  refine we_comp (f := opD fun a b => a && !b) (p := fun _ => true) ?_
  repeat infer_instance
  rw [zip_flg]
  refine ⟨fun d hd => ?_, by rw [List.length_map, List.length_range]; exact ten (by omega), ?_⟩
  · obtain ⟨i, _, rfl⟩ := List.mem_map.mp hd
    refine ⟨_, rfl, ?_, fun _ => ?_⟩
    · repeat infer_instance
      exact ⟨rfl, rfl⟩
    · repeat infer_instance
      refine ⟨fun z => ?_, fun z => ?_⟩
      · repeat infer_instance
        show D.bl (!g i) = D.bl (f i && !g i) ∧ _
        rw [z]
        exact ⟨rfl, rfl⟩
      · show D.bl false = D.bl (f i && !g i) ∧ _
        rw [z]
        exact ⟨rfl, rfl⟩
  · rw [filter_true, opD_map]
    repeat infer_instance
    refine ⟨_, _, v_form_by B.toLCore rfl (Nat.lcm_pos hp hq) (per_two per per2 fun a b => a && !b) hw hl, ?_⟩
    exact ⟨rfl, rfl⟩
end
end Lib

set_option maxHeartbeats 2000000
/-! Lo: leaves, joins; nodes of rules. -/
namespace Lib
open PySem Ev
local macro_rules | `(tactic| infer_instance) => `(tactic| first
  | refine wss_cons ?_
  | refine wss_nil ?_
  | refine ws_set ?_
  | refine ws_setOwn ?_
  | refine ws_par ?_
  | refine ws_parO ?_
  | refine ws_expr ?_
  | refine ws_ret ?_
  | refine ws_retN ?_
  | refine ws_retObj ?_
  | refine ws_ife ?_
  | refine ws_append rfl ?_
  | refine ws_extend rfl ?_
  | refine ws_put rfl ?_
  | refine ws_putO rfl ?_
  | refine ws_aug rfl ?_
  | refine ws_frz ?_
  | refine ws_pass ?_
  | refine ws_newDic ?_
  | refine we_var rfl ?_
  | refine we_bor rfl ?_
  | refine we_int ?_
  | refine we_bl ?_
  | refine we_non ?_
  | refine we_str ?_
  | refine we_tup ?_
  | refine we_lst ?_
  | refine we_dnew ?_
  | refine we_bin ?_
  | refine we_neg ?_
  | refine we_not ?_
  | refine we_and ?_
  | refine we_or ?_
  | refine we_cmp ?_
  | refine we_chain ?_
  | refine we_ite ?_
  | refine we_slc ?_
  | refine we_idx ?_
  | refine we_glob (by assumption) ?_
  | refine we_gin (by assumption) ?_
  | refine we_gidx (by assumption) ?_
  | refine we_gget (by assumption) ?_
  | refine we_call ?_
  | refine we_callv rfl ?_
  | refine we_bif ?_
  | refine we_isi ?_
  | refine we_rev ?_
  | refine weo_none ?_
  | refine weo_some ?_
  | refine wes_nil ?_
  | refine wes_cons ?_
  | refine was_nil ?_
  | refine was_val ?_
  | refine was_lam rfl ?_
  | refine wc_none ?_
  | refine wc_some ?_
  | refine wr_seq ?_
  | refine wr_zip ?_
  | refine wr_enum ?_
  | refine wr_rng1 ?_
  | refine wr_rng2 ?_
  | refine And.intro (Nat.le_of_ble_eq_true rfl) ?_
  | refine Exists.intro _ (And.intro rfl ?_)
  | refine Exists.intro _ (And.intro (Or.inl rfl) ?_)
  | refine Exists.intro _ (And.intro (Or.inr rfl) ?_)
  | refine Exists.intro _ (Exists.intro _ (And.intro (Or.inl (And.intro rfl rfl)) ?_))
  | refine Exists.intro _ (And.intro (Or.inr (Or.inl rfl)) ?_)
  | with_reducible refine if_t ?_
  | with_reducible refine if_f ?_
  | with_reducible refine if_nt ?_
  | with_reducible refine if_nf ?_
  | with_reducible refine if_n ?_
  | with_reducible refine g_add ?_
  | with_reducible refine g_sub ?_
  | with_reducible refine g_neg ?_
  | with_reducible refine g_lt ?_
  | with_reducible refine g_le ?_
  | with_reducible refine g_gt ?_
  | with_reducible refine g_ge ?_
  | with_reducible refine g_eqI ?_
  | with_reducible refine g_neI ?_
  | with_reducible refine g_lenf ?_
  | with_reducible refine g_lenfT ?_
  | with_reducible refine g_lenT0 ?_
  | with_reducible refine g_lenT1 ?_
  | with_reducible refine g_lenT2 ?_
  | with_reducible refine g_lenT3 ?_
  | with_reducible refine g_lenT4 ?_
  | with_reducible refine g_len ?_
  | with_reducible refine g_lenT ?_
  | with_reducible refine g_idx0 ?_
  | with_reducible refine g_idx1 ?_
  | with_reducible refine g_idx2 ?_
  | with_reducible refine g_isnB ?_
  | with_reducible refine g_isB ?_
  | ((with_reducible apply g_idx); exact rfl)
  | ((with_reducible apply g_bif); exact rfl)
  | ((with_reducible apply g_eqS); (· decide +kernel); (· decide +kernel))
  | ((with_reducible apply g_neS); (· decide +kernel); (· decide +kernel))
  | ((with_reducible apply g_in); assumption)
  | ((with_reducible apply g_in); exact rfl)
  | refine if_eqt (by decide +kernel) ?_
  | refine if_eqf (by decide +kernel) ?_
  | fail)
structure LWords (T : Tab) : Prop where
  c_ALL : globD T.con "ALL" = some (.str "all")
  c_NONE : globD T.con "NONE" = some (.str "none")
  c_ON : globD T.con "ON" = some (.str "on")
  c_FROM : globD T.con "FROM" = some (.str "from")
  c_WEEKDAY : globD T.con "WEEKDAY" = some (.str "weekday")
  c_MONTH : globD T.con "MONTH" = some (.str "month")
  c_DATE : globD T.con "DATE" = some (.str "date")
  c_YEAR : globD T.con "YEAR" = some (.str "year")
  c_EVERY : globD T.con "EVERY" = some (.str "every")
  c_NOT : globD T.con "NOT" = some (.str "not")
  c_OR : globD T.con "OR" = some (.str "or")
  c_AND : globD T.con "AND" = some (.str "and")
  c_LESS : globD T.con "LESS" = some (.str "less")
  c_MOVED : globD T.con "MOVED" = some (.str "moved")
  c_ROLLED : globD T.con "ROLLED" = some (.str "rolled")
  c_NTH : globD T.con "NTH" = some (.str "nth")
  c_COUNT : globD T.con "COUNT" = some (.str "count")
  c_PAST : globD T.con "PAST" = some (.str "past")
  c_EACH : globD T.con "EACH" = some (.str "each")
/-- past the greatest -/
def mx (l : List Nat) : Nat := l.foldr (fun a b => max (a + 1) b) 0
theorem mx_mem : ∀ l : List Nat, mx l = 0 ∨ ∃ a ∈ l, mx l = a + 1
  | [] => .inl rfl
  | a :: l => by
    have e : mx (a :: l) = max (a + 1) (mx l) := rfl
    rcases Nat.le_total (mx l) (a + 1) with z | z
    · exact .inr ⟨a, List.mem_cons_self, by rw [e, Nat.max_eq_left z]⟩
    · rcases mx_mem l with h | ⟨b, hb, h⟩
      · omega
      · exact .inr ⟨b, List.mem_cons_of_mem _ hb, by rw [e, Nat.max_eq_right z, h]⟩
theorem mx_le : ∀ {l : List Nat} {a : Nat}, a ∈ l → a + 1 ≤ mx l
  | b :: l, a, h => by
    have e : mx (b :: l) = max (b + 1) (mx l) := rfl
    rcases List.mem_cons.mp h with rfl | h
    · omega
    · have := mx_le h
      omega
theorem mx_bd {l : List Nat} {n : Nat} (h : ∀ i ∈ l, i < n) : mx l ≤ n := by
  rcases mx_mem l with z | ⟨a, ha, z⟩
  · omega
  · have := h a ha
    omega
theorem intsD_nT : ∀ l : List Nat, intsD (nT l) = some (l.map fun (j : Nat) => (j : Int))
  | [] => rfl
  | a :: l => by
    show (intsD (nT l)).map ((a : Int) :: ·) = _
    rw [intsD_nT l]
    rfl
theorem max_nT {l : List Nat} : bifD .max1 [.tup ([.int (-1)] ++ nT l)] = some (.int ((mx l : Int) - 1)) := by
  have h : ((-1 : Int) :: l.map fun (j : Nat) => (j : Int)).max? = some ((mx l : Int) - 1) := by
    refine List.max?_eq_some_iff.mpr ⟨?_, ?_⟩
    · rcases mx_mem l with z | ⟨a, ha, z⟩
      · rw [z]
        exact List.mem_cons_self
      · rw [z]
        refine List.mem_cons_of_mem _ (List.mem_map.mpr ⟨a, ha, ?_⟩)
        omega
    · intro b hb
      rcases List.mem_cons.mp hb with rfl | hb
      · omega
      · obtain ⟨a, ha, rfl⟩ := List.mem_map.mp hb
        have := mx_le ha
        omega
  show ((intsD (.int (-1) :: nT l)).bind fun ns => ns.max?.map D.int) = _
  have e : intsD (.int (-1) :: nT l) = some ((-1 : Int) :: l.map fun (j : Nat) => (j : Int)) := by
    show (intsD (nT l)).map ((-1 : Int) :: ·) = _
    rw [intsD_nT]
    rfl
  rw [e]
  show ((-1 : Int) :: l.map fun (j : Nat) => (j : Int)).max?.map D.int = _
  rw [h]
  rfl
section
variable {T : Tab} {L : Nat} (B : LCore T L) (W : LWords T) (h0 : T.fn "raw_leaf" = some i_raw_leaf) variable {k : Nat} {o : Objs} {b p c q m n : Nat} {f g : Nat → Bool} {x y : Int} {cal : D} {l : List Nat}
/-- a list of flags, one by one -/
theorem rg_flg {f : Nat → Bool} {g : D → D} (h : ∀ i, i < n → g (.int (i : Int)) = .bl (f i)) : (rgD 0 n).map g = flg f n := by
  unfold rgD flg
  rw [← List.range_eq_range', List.map_map]
  exact List.map_congr_left fun i hi => h i (List.mem_range.mp hi)
theorem rg_mem {d : D} (h : d ∈ rgD 0 n) : ∃ i : Nat, i < n ∧ d = .int (i : Int) := by
  obtain ⟨i, hi⟩ := List.getElem?_of_mem h
  obtain ⟨h1, rfl⟩ := rgD_get hi
  exact ⟨i, h1, by rw [Nat.zero_add]⟩
include B W h0 in
theorem v_leaf_on (hl : l.length ≤ 1000) (hm : ∀ i ∈ l, i < 10000) {b' p' : Nat} (hL : Least (fun i => decide (i ∈ l)) b' p') : cf T L (k + 3) "raw_leaf" [.val cal, .val (.tup [.str "on", .tup (nT l)])] o = .ok (fD b' p' fun i => decide (i ∈ l)) o := by
  cases W
  have hx := mx_bd hm
  refine cf_p h0 rfl ?_
  repeat infer_instance
  refine g_addt (by rw [nT_len]; exact ten (by show 1 + l.length ≤ _; omega)) ?_
  repeat infer_instance
  refine ⟨_, max_nT, ?_⟩
  repeat infer_instance
  rw [show (mx l : Int) - 1 + 1 = (mx l : Int) by omega]
  repeat infer_instance
  refine we_comp (f := fun d => .bl (decide ((toI d).toNat ∈ l))) (p := fun _ => true) ?_
  repeat infer_instance
  refine ⟨_, mx l, rfl, rfl, by omega, ?_⟩
  refine ⟨fun d hd => ?_, by rw [rgD_len]; exact ten (by omega), ?_⟩
  · obtain ⟨i, hi, rfl⟩ := rg_mem hd
    refine ⟨_, rfl, ?_, fun _ => ?_⟩
    · repeat infer_instance
      exact ⟨rfl, rfl⟩
    · repeat infer_instance
      refine ⟨_, cmp_in (inD_nT rfl), ?_⟩
      exact ⟨rfl, rfl⟩
  · rw [filter_true, rg_flg (f := fun i => decide (i ∈ l)) fun i _ => rfl]
    repeat infer_instance
    have e : flg (fun i => decide (i ∈ l)) (mx l) ++ [.bl false] = flg (fun i => decide (i ∈ l)) (mx l + 1) := by
      rw [show ([.bl false] : List D) = flg (fun _ => false) 1 from rfl, flg_app]
      refine flg_congr fun i hi => ?_
      by_cases z : i < mx l
      · rw [if_pos z]
      · rw [if_neg z]
        exact (decide_eq_false fun h => by have := mx_le h; omega).symm
    refine ⟨_, bin_lst (by rw [flg_len]; exact ten (by show mx l + 1 ≤ _; omega)), ?_⟩
    rw [e]
    repeat infer_instance
    refine ⟨_, _, v_form_by B rfl (by omega) (fun i hi => ?_) (by omega) hL, ?_⟩
    · show decide (i + 1 ∈ l) = decide (i ∈ l)
      rw [decide_eq_false fun h => by have := mx_le h; omega, decide_eq_false fun h => by have := mx_le h; omega]
    · exact ⟨rfl, rfl⟩
include B W h0 in
theorem v_leaf_from (hx : x = (n : Int)) (hn : n ≤ 10000) {b' p' : Nat} (hL : Least (fun i => decide (n ≤ i)) b' p') : cf T L (k + 3) "raw_leaf" [.val cal, .val (.tup [.str "from", .int x])] o = .ok (fD b' p' fun i => decide (n ≤ i)) o := by
  cases W
  refine cf_p h0 rfl ?_
  repeat infer_instance
  refine ⟨_, mul_bl hx (by omega), ?_⟩
  repeat infer_instance
  have e : flg (fun _ => false) n ++ [.bl true] = flg (fun i => decide (n ≤ i)) (n + 1) := by
    rw [show ([.bl true] : List D) = flg (fun _ => true) 1 from rfl, flg_app]
    refine flg_congr fun i hi => ?_
    by_cases z : i < n
    · rw [if_pos z]
      exact (decide_eq_false (by omega)).symm
    · rw [if_neg z]
      exact (decide_eq_true (by omega)).symm
  refine ⟨_, bin_lst (by rw [flg_len]; exact ten (by show n + 1 ≤ _; omega)), ?_⟩
  rw [e]
  repeat infer_instance
  refine ⟨_, _, v_form_by B hx (by omega) (fun i hi => ?_) (by omega) hL, ?_⟩
  · show decide (n ≤ i + 1) = decide (n ≤ i)
    rw [decide_eq_true (by omega), decide_eq_true (by omega)]
  · exact ⟨rfl, rfl⟩
include B W h0 in
theorem v_leaf_week {r : List D} (hx : x = (n : Int)) (h1 : 0 < n) (hn : n ≤ 10000) {b' p' : Nat} (hL : Least (fun i => decide (i % n ∈ l)) b' p') : cf T L (k + 3) "raw_leaf" [.val (.tup (.int x :: r)), .val (.tup [.str "weekday", .tup (nT l)])] o = .ok (fD b' p' fun i => decide (i % n ∈ l)) o := by
  cases W
  refine cf_p h0 rfl ?_
  repeat infer_instance
  refine we_comp (f := fun d => .bl (decide ((toI d).toNat ∈ l))) (p := fun _ => true) ?_
  repeat infer_instance
  refine ⟨_, n, rfl, hx, by omega, ?_⟩
  refine ⟨fun d hd => ?_, by rw [rgD_len]; exact ten (by omega), ?_⟩
  · obtain ⟨i, hi, rfl⟩ := rg_mem hd
    refine ⟨_, rfl, ?_, fun _ => ?_⟩
    · repeat infer_instance
      exact ⟨rfl, rfl⟩
    · repeat infer_instance
      refine ⟨_, cmp_in (inD_nT rfl), ?_⟩
      exact ⟨rfl, rfl⟩
  · rw [filter_true, rg_flg (f := fun i => decide (i % n ∈ l)) fun i hi => by
      show D.bl (decide (i ∈ l)) = .bl (decide (i % n ∈ l))
      rw [Nat.mod_eq_of_lt hi]]
    repeat infer_instance
    have e : flg (fun i => decide (i % n ∈ l)) n = flg (fun i => decide (i % n ∈ l)) (0 + n) := by rw [Nat.zero_add]
    rw [e]
    refine ⟨_, _, v_form_by B (b := 0) rfl h1 (fun i hi => ?_) (by omega) hL, ?_⟩
    · show decide ((i + n) % n ∈ l) = decide (i % n ∈ l)
      rw [Nat.add_mod_right]
    · exact ⟨rfl, rfl⟩
end
end Lib

set_option maxHeartbeats 2000000
/-! Lp: joins; nodes judged; form_of. -/
namespace Lib
open PySem Ev
local macro_rules | `(tactic| infer_instance) => `(tactic| first
  | refine wss_cons ?_
  | refine wss_nil ?_
  | refine ws_set ?_
  | refine ws_setOwn ?_
  | refine ws_par ?_
  | refine ws_parO ?_
  | refine ws_expr ?_
  | refine ws_ret ?_
  | refine ws_retN ?_
  | refine ws_retObj ?_
  | refine ws_ife ?_
  | refine ws_append rfl ?_
  | refine ws_extend rfl ?_
  | refine ws_put rfl ?_
  | refine ws_putO rfl ?_
  | refine ws_aug rfl ?_
  | refine ws_frz ?_
  | refine ws_pass ?_
  | refine ws_newDic ?_
  | refine we_var rfl ?_
  | refine we_bor rfl ?_
  | refine we_int ?_
  | refine we_bl ?_
  | refine we_non ?_
  | refine we_str ?_
  | refine we_tup ?_
  | refine we_lst ?_
  | refine we_dnew ?_
  | refine we_bin ?_
  | refine we_neg ?_
  | refine we_not ?_
  | refine we_and ?_
  | refine we_or ?_
  | refine we_cmp ?_
  | refine we_chain ?_
  | refine we_ite ?_
  | refine we_slc ?_
  | refine we_idx ?_
  | refine we_glob (by assumption) ?_
  | refine we_gin (by assumption) ?_
  | refine we_gidx (by assumption) ?_
  | refine we_gget (by assumption) ?_
  | refine we_call ?_
  | refine we_callv rfl ?_
  | refine we_bif ?_
  | refine we_isi ?_
  | refine we_rev ?_
  | refine weo_none ?_
  | refine weo_some ?_
  | refine wes_nil ?_
  | refine wes_cons ?_
  | refine was_nil ?_
  | refine was_val ?_
  | refine was_lam rfl ?_
  | refine wc_none ?_
  | refine wc_some ?_
  | refine wr_seq ?_
  | refine wr_zip ?_
  | refine wr_enum ?_
  | refine wr_rng1 ?_
  | refine wr_rng2 ?_
  | refine And.intro (Nat.le_of_ble_eq_true rfl) ?_
  | refine Exists.intro _ (And.intro rfl ?_)
  | refine Exists.intro _ (And.intro (Or.inl rfl) ?_)
  | refine Exists.intro _ (And.intro (Or.inr rfl) ?_)
  | refine Exists.intro _ (Exists.intro _ (And.intro (Or.inl (And.intro rfl rfl)) ?_))
  | refine Exists.intro _ (And.intro (Or.inr (Or.inl rfl)) ?_)
  | with_reducible refine if_t ?_
  | with_reducible refine if_f ?_
  | with_reducible refine if_nt ?_
  | with_reducible refine if_nf ?_
  | with_reducible refine if_n ?_
  | with_reducible refine g_add ?_
  | with_reducible refine g_sub ?_
  | with_reducible refine g_neg ?_
  | with_reducible refine g_lt ?_
  | with_reducible refine g_le ?_
  | with_reducible refine g_gt ?_
  | with_reducible refine g_ge ?_
  | with_reducible refine g_eqI ?_
  | with_reducible refine g_neI ?_
  | with_reducible refine g_lenf ?_
  | with_reducible refine g_lenfT ?_
  | with_reducible refine g_lenT0 ?_
  | with_reducible refine g_lenT1 ?_
  | with_reducible refine g_lenT2 ?_
  | with_reducible refine g_lenT3 ?_
  | with_reducible refine g_lenT4 ?_
  | with_reducible refine g_len ?_
  | with_reducible refine g_lenT ?_
  | with_reducible refine g_idx0 ?_
  | with_reducible refine g_idx1 ?_
  | with_reducible refine g_idx2 ?_
  | with_reducible refine g_isnB ?_
  | with_reducible refine g_isB ?_
  | ((with_reducible apply g_idx); exact rfl)
  | ((with_reducible apply g_bif); exact rfl)
  | ((with_reducible apply g_eqS); (· decide +kernel); (· decide +kernel))
  | ((with_reducible apply g_neS); (· decide +kernel); (· decide +kernel))
  | ((with_reducible apply g_in); assumption)
  | ((with_reducible apply g_in); exact rfl)
  | refine if_eqt (by decide +kernel) ?_
  | refine if_eqf (by decide +kernel) ?_
  | fail)
structure LNodes (T : Tab) : Prop where
  is_node : T.fn "is_node" = some i_is_node
  is_leaf_right : T.fn "is_leaf_right" = some i_is_leaf_right
  are_numbers_right : T.fn "are_numbers_right" = some i_are_numbers_right
  raw_parts : T.fn "raw_parts" = some i_raw_parts
  raw_leaf : T.fn "raw_leaf" = some i_raw_leaf
  raw_made : T.fn "raw_made" = some i_raw_made
  check_rule : T.fn "check_rule" = some i_check_rule
  form_of : T.fn "form_of" = some i_form_of
  d_sizes : T.con "SIZES" = some c_SIZES
  d_spots : T.con "SPOTS" = some c_SPOTS
  c_leaves : globD T.con "LEAVES" = some c_LEAVES
  c_day : globD T.con "MOST_NAMED_DAY" = some (.int 2000)
  c_listed : globD T.con "MOST_LISTED" = some (.int 12)
section
variable {T : Tab} {L : Nat} (E : LForm T L) (Y : LNodes T) (W : LWords T) (U : LRules T) variable {k : Nat} {o : Objs} {b p c q m n : Nat} {f g : Nat → Bool} {x y : Int} {cal a d fd : D} {l : List Nat} {ds : List D}
/-! the parts -/
include Y in
theorem p_leaf {w : Str} (hw : ggetD (.str w) (.tup []) c_SPOTS = some (.tup [])) : Parts T L (k + 1) (.tup (.str w :: ds)) [] := by
  have g1 := Y.d_spots
  intro o
  refine cf_p Y.raw_parts rfl ?_
  repeat infer_instance
  refine we_comp (f := fun _ => .non) (p := fun _ => true) ?_
  refine wr_seq ?_
  refine we_gget (by assumption) ?_
  refine we_idx ?_
  refine we_bor rfl ?_
  refine we_int ?_
  with_reducible refine g_idx0 ?_
  refine we_tup ?_
  refine wes_nil ?_
  refine ⟨Nat.zero_le _, ?_⟩
  refine ⟨_, hw, ?_⟩
  repeat infer_instance
  exact ⟨fun d hd => (nomatch hd), Nat.zero_le _, rfl, rfl⟩
include Y in
theorem p_two {w : Str} {r1 r2 : Rl} (hw : ggetD (.str w) (.tup []) c_SPOTS = some (.kt [.int 1, .int 2])) : Parts T L (k + 1) (.tup (.str w :: r1.d :: r2.d :: ds)) [r1, r2] := by
  have g1 := Y.d_spots
  intro o
  refine cf_p Y.raw_parts rfl ?_
  repeat infer_instance
  refine we_comp (f := fun d => (idxD (.tup (.str w :: r1.d :: r2.d :: ds)) d).getD .non) (p := fun _ => true) ?_
  refine wr_seq ?_
  refine we_gget (by assumption) ?_
  refine we_idx ?_
  refine we_bor rfl ?_
  refine we_int ?_
  with_reducible refine g_idx0 ?_
  refine we_tup ?_
  refine wes_nil ?_
  refine ⟨Nat.zero_le _, ?_⟩
  refine ⟨_, hw, ?_⟩
  refine ⟨_, Or.inr (Or.inr rfl), ?_⟩
  have e1 : idxD (.tup (.str w :: r1.d :: r2.d :: ds)) (.int 1) = some r1.d := atI_c (i := 1) rfl
  have e2 : idxD (.tup (.str w :: r1.d :: r2.d :: ds)) (.int 2) = some r2.d := atI_c (i := 2) rfl
  refine ⟨fun d hd => ?_, Nat.le_of_ble_eq_true rfl, ?_⟩
  · refine ⟨_, rfl, ?_, fun _ => ?_⟩
    · repeat infer_instance
      exact ⟨rfl, rfl⟩
    · rcases List.mem_cons.mp hd with rfl | hd
      · repeat infer_instance
        rw [e1]
        exact ⟨rfl, rfl⟩
      · obtain rfl := List.mem_singleton.mp hd
        repeat infer_instance
        rw [e2]
        exact ⟨rfl, rfl⟩
  · rw [filter_true, List.map_cons, List.map_cons, List.map_nil, e1, e2]
    exact ⟨rfl, rfl⟩
include Y in
theorem p_one {w : Str} {r1 : Rl} (hw : ggetD (.str w) (.tup []) c_SPOTS = some (.kt [.int 1])) : Parts T L (k + 1) (.tup (.str w :: r1.d :: ds)) [r1] := by
  have g1 := Y.d_spots
  intro o
  refine cf_p Y.raw_parts rfl ?_
  repeat infer_instance
  refine we_comp (f := fun d => (idxD (.tup (.str w :: r1.d :: ds)) d).getD .non) (p := fun _ => true) ?_
  refine wr_seq ?_
  refine we_gget (by assumption) ?_
  refine we_idx ?_
  refine we_bor rfl ?_
  refine we_int ?_
  with_reducible refine g_idx0 ?_
  refine we_tup ?_
  refine wes_nil ?_
  refine ⟨Nat.zero_le _, ?_⟩
  refine ⟨_, hw, ?_⟩
  refine ⟨_, Or.inr (Or.inr rfl), ?_⟩
  have e1 : idxD (.tup (.str w :: r1.d :: ds)) (.int 1) = some r1.d := atI_c (i := 1) rfl
  refine ⟨fun d hd => ?_, Nat.le_of_ble_eq_true rfl, ?_⟩
  · refine ⟨_, rfl, ?_, fun _ => ?_⟩
    · repeat infer_instance
      exact ⟨rfl, rfl⟩
    · obtain rfl := List.mem_singleton.mp hd
      repeat infer_instance
      rw [e1]
      exact ⟨rfl, rfl⟩
  · rw [filter_true, List.map_cons, List.map_nil, e1]
    exact ⟨rfl, rfl⟩
/-! nodes -/
include E Y W in
theorem n_on (hl : l.Pairwise (· < ·)) (hm : ∀ i ∈ l, i < 2001) (hn : l.length ≤ 12) : cf T L (k + 6) "is_node" [.val cal, .val (.tup [.str "on", .tup (nT l)])] o = .ok (.bl true) o := by
  cases W
  have g1 := Y.d_sizes
  have g2 := Y.c_leaves
  have g3 := Y.c_day
  have g4 := Y.c_listed
  refine cf_p Y.is_node rfl ?_
  repeat infer_instance
  refine ⟨.bl true, o, ?_, ⟨rfl, rfl⟩⟩
  refine cf_p Y.is_leaf_right rfl ?_
  repeat infer_instance
  refine ⟨_, _, v_is_lot E.cal _ (2000 + 1) (nQ_tup' (nQs_nT l)) (fun ds e => by cases e; rw [nT_len]; exact ten (by omega)), ?_⟩
  rw [lot_nT (n := 2001) (x := 2000 + 1) hl hm rfl]
  repeat infer_instance
  rw [nT_len, decide_eq_true (by omega)]
  exact ⟨rfl, rfl⟩
include E Y W in
theorem n_from (hx : 0 ≤ x) (hn : x ≤ 2000) : cf T L (k + 6) "is_node" [.val cal, .val (.tup [.str "from", .int x])] o = .ok (.bl true) o := by
  cases W
  have g1 := Y.d_sizes
  have g2 := Y.c_leaves
  have g3 := Y.c_day
  refine cf_p Y.is_node rfl ?_
  repeat infer_instance
  refine ⟨.bl true, o, ?_, ⟨rfl, rfl⟩⟩
  refine cf_p Y.is_leaf_right rfl ?_
  repeat infer_instance
  refine ⟨_, _, v_is_within E.cal _ 0 2000 rfl, ?_⟩
  rw [wi_of hx hn]
  exact ⟨rfl, rfl⟩
include E Y W in
theorem n_week {r : List D} (hx : x = (n : Int)) (hl : l.Pairwise (· < ·)) (hm : ∀ i ∈ l, i < n) (hn : l.length ≤ 1000) : cf T L (k + 6) "is_node" [.val (.tup (.int x :: r)), .val (.tup [.str "weekday", .tup (nT l)])] o = .ok (.bl true) o := by
  cases W
  have g1 := Y.d_sizes
  have g2 := Y.c_leaves
  refine cf_p Y.is_node rfl ?_
  repeat infer_instance
  refine ⟨.bl true, o, ?_, ⟨rfl, rfl⟩⟩
  refine cf_p Y.is_leaf_right rfl ?_
  repeat infer_instance
  refine ⟨_, _, v_is_lot E.cal _ x (nQ_tup' (nQs_nT l)) (fun ds e => by cases e; rw [nT_len]; exact ten (by omega)), ?_⟩
  rw [lot_nT hl hm hx]
  exact ⟨rfl, rfl⟩
include Y W in
/-- or, and, less, not -/
theorem n_join {w : Str} (hw : w = "or" ∨ w = "and" ∨ w = "less") {d e : D} : cf T L (k + 6) "is_node" [.val cal, .val (.tup [.str w, d, e])] o = .ok (.bl true) o := by
  cases W
  have g1 := Y.d_sizes
  have g2 := Y.c_leaves
  rcases hw with rfl | rfl | rfl
  all_goals
    refine cf_p Y.is_node rfl ?_
    repeat infer_instance
    refine ⟨.bl true, o, ?_, ⟨rfl, rfl⟩⟩
    refine cf_p Y.are_numbers_right rfl ?_
    repeat infer_instance
    exact ⟨rfl, rfl⟩
include Y W in
theorem n_not {d : D} : cf T L (k + 6) "is_node" [.val cal, .val (.tup [.str "not", d])] o = .ok (.bl true) o := by
  cases W
  have g1 := Y.d_sizes
  have g2 := Y.c_leaves
  refine cf_p Y.is_node rfl ?_
  repeat infer_instance
  refine ⟨.bl true, o, ?_, ⟨rfl, rfl⟩⟩
  refine cf_p Y.are_numbers_right rfl ?_
  repeat infer_instance
  exact ⟨rfl, rfl⟩
/-! made -/
include Y W in
theorem m_or {a b : D} (h : cf T L k "raw_either" [.val a, .val b] o = .ok fd o) : cf T L (k + 1) "raw_made" [.val (.tup (.str "or" :: ds)), .val (.lst [a, b])] o = .ok fd o := by
  cases W
  refine cf_p Y.raw_made rfl ?_
  repeat infer_instance
  exact ⟨_, _, h, rfl, rfl⟩
include Y W in
theorem m_and {a b : D} (h : cf T L k "raw_both" [.val a, .val b] o = .ok fd o) : cf T L (k + 1) "raw_made" [.val (.tup (.str "and" :: ds)), .val (.lst [a, b])] o = .ok fd o := by
  cases W
  refine cf_p Y.raw_made rfl ?_
  repeat infer_instance
  exact ⟨_, _, h, rfl, rfl⟩
include Y W in
theorem m_less {a b : D} (h : cf T L k "raw_without" [.val a, .val b] o = .ok fd o) : cf T L (k + 1) "raw_made" [.val (.tup (.str "less" :: ds)), .val (.lst [a, b])] o = .ok fd o := by
  cases W
  refine cf_p Y.raw_made rfl ?_
  repeat infer_instance
  exact ⟨_, _, h, rfl, rfl⟩
include Y W in
theorem m_not {a : D} (h : cf T L k "raw_turned" [.val a] o = .ok fd o) : cf T L (k + 1) "raw_made" [.val (.tup (.str "not" :: ds)), .val (.lst [a])] o = .ok fd o := by
  cases W
  refine cf_p Y.raw_made rfl ?_
  repeat infer_instance
  exact ⟨_, _, h, rfl, rfl⟩
theorem RlOk.toP {R : Rl} (h : RlOk T L k cal R) : RlP T L k R := by
  induction h with
  | node pa nd h ih => exact .node pa ih
include E Y U in
theorem v_form_of {R : Rl} (hc : cf T L (k + 8) "check_calendar" [.val cal] o = .ok .non o) (H : RlOk T L (k + 7) cal R) (hs : R.size ≤ 30) (hh : R.hgt ≤ 8) (D' : Den T L (k + 8) cal R fd) (h1 : nO fd = true) (h2 : o.all SObj.nO = true) : cf T L (k + 10) "form_of" [.val cal, .val R.d] o = .ok fd o := by
  refine cf_p Y.form_of rfl ?_
  repeat infer_instance
  refine ⟨.non, o, ?_, ?_⟩
  · refine cf_p Y.check_rule rfl ?_
    repeat infer_instance
    refine ⟨_, _, hc, ?_⟩
    repeat infer_instance
    refine ⟨_, _, v_raw_is_rule E U H hs hh, ?_⟩
    repeat infer_instance
    exact ⟨rfl, rfl⟩
  · repeat infer_instance
    exact ⟨_, _, v_raw_form E U H.toP D' (by omega) h1 h2, rfl, rfl⟩
end
end Lib

set_option maxHeartbeats 2000000
/-! Lq: the hand that draws. -/
namespace Lib
open PySem Ev
theorem at5 {a b c d e : D} : L2.atI [a, b, c, d, e] 0 = some a ∧ L2.atI [a, b, c, d, e] 1 = some b ∧ L2.atI [a, b, c, d, e] 2 = some c ∧ L2.atI [a, b, c, d, e] 3 = some d ∧ L2.atI [a, b, c, d, e] 4 = some e := ⟨rfl, rfl, rfl, rfl, rfl⟩
theorem put5 {a b c d e v : D} : putD [a, b, c, d, e] 1 v = some [a, v, c, d, e] ∧ putD [a, b, c, d, e] 2 v = some [a, b, v, d, e] ∧ putD [a, b, c, d, e] 3 v = some [a, b, c, v, e] ∧ putD [a, b, c, d, e] 4 v = some [a, b, c, d, v] := ⟨rfl, rfl, rfl, rfl⟩
def hnd (cs : List Int) (ix : Nat) (cu se cn : Int) : SObj := .lst [.lst (cs.map D.int), .int (ix : Int), .int cu, .int se, .int cn]
/-- the hand stands; n drawings are left at least -/
structure HdOk (n : Nat) (cs : List Int) (ix : Nat) (cu se cn : Int) : Prop where
  ix : ix ≤ cs.length
  len : cs.length ≤ 60
  cs : ∀ c ∈ cs, 0 ≤ c ∧ c < 10 ^ 36
  cu : 0 ≤ cu ∧ cu < 10 ^ 36
  se : 0 ≤ se ∧ se < 10 ^ 12
  cn : 0 ≤ cn ∧ cn + n ≤ 10 ^ 9
def Hd (n : Nat) (o : Objs) : Prop := ∃ (cs : List Int) (ix : Nat) (cu se cn : Int), o = [hnd cs ix cu se cn] ∧ HdOk n cs ix cu se cn
theorem Hd.le {n m : Nat} {o : Objs} (h : Hd n o) (hm : m ≤ n) : Hd m o := by
  obtain ⟨cs, ix, cu, se, cn, e, z⟩ := h
  have := z.cn
  exact ⟨cs, ix, cu, se, cn, e, z.ix, z.len, z.cs, z.cu, z.se, by omega⟩
section
variable {T : Tab} {L : Nat} (B : LHand T) variable {k n : Nat} {o : Objs} {m : Int}
theorem mulOk_lit {i j : Int} (h1 : 0 ≤ i) (h2 : i ≤ 10 ^ 40) (h3 : 0 ≤ j) (h4 : j ≤ 10 ^ 40) : mulOk i j = true := mulOk_of (small (by omega) (by omega)) (small (by omega) (by omega))
def tl9 : ISs := (.cons s__law_draw_9 (.cons s__law_draw_10 (.cons s__law_draw_11 (.cons s__law_draw_12 (.cons s__law_draw_13 (.cons s__law_draw_14 .nil))))))
def tl10 : ISs := (.cons s__law_draw_10 (.cons s__law_draw_11 (.cons s__law_draw_12 (.cons s__law_draw_13 (.cons s__law_draw_14 .nil)))))
theorem p18 : binD .Pow (.int 10) (.int 18) = some (.int (10 ^ 18)) := by rfl
theorem draw_mix {cs : List Int} {x : Slot} {ix : Nat} {cu se cn : Int} (H : HdOk (n + 1) cs ix cu se cn) (h1 : 1 ≤ m) (h2 : m ≤ 10 ^ 40) : ∃ (d : Int) (o' : Objs), (exSs (cf T L k) (cc T L k) T.con T.isa L tl10 [.val (.obj 0), .val (.int m), x, .none, .none] [hnd cs ix cu se cn]).out = .ok (.int d) o' ∧ (0 ≤ d ∧ d < m) ∧ Hd n o' := by
  have hse := H.se
  have hcn := H.cn
  have e10 : exS (cf T L k) (cc T L k) T.con T.isa L s__law_draw_10 [.val (.obj 0), .val (.int m), x, .none, .none] [hnd cs ix cu se cn] = .nx [.val (.obj 0), .val (.int m), x, .none, .none] [hnd cs ix cu se (cn + 1)] := by
    simp only [s__law_draw_10, exSs, exS, evE, evEs, evAs, evEo, evC, evSrc, evT, frame, getV, getB, Res.ofO, Res.bind, Res.st, SRes.seq, SRes.out, List.getElem?_cons_zero, List.getElem?_cons_succ, List.cons_append, List.nil_append, List.replicate, List.length_cons, List.length_nil, bindT, bindTs, List.set_cons_zero, List.set_cons_succ, frzF, wipeF, setsO, slotF, ownS, hnd, getO, putO, Option.map, idxD, at5, binD, put5]
  have a1 : mulOk 7919 (cn + 1) = true := mulOk_lit (by omega) (by omega) (by omega) (by omega)
  have a2 : mulOk (se + 7919 * (cn + 1)) 48271 = true := mulOk_lit (by omega) (by omega) (by omega) (by omega)
  have a3 : decide ((0 : Int) < 2147483647) = true := by decide
  have a4 : decide ((0 : Int) < 2147483399) = true := by decide
  have b1 : 0 ≤ ((se + 7919 * (cn + 1)) * 48271) % 2147483647 ∧ ((se + 7919 * (cn + 1)) * 48271) % 2147483647 < 2147483647 := ⟨Int.emod_nonneg _ (by omega), Int.emod_lt_of_pos _ (by omega)⟩
  generalize hg1 : ((se + 7919 * (cn + 1)) * 48271) % 2147483647 = n1 at b1
  have e11 : exS (cf T L k) (cc T L k) T.con T.isa L s__law_draw_11 [.val (.obj 0), .val (.int m), x, .none, .none] [hnd cs ix cu se (cn + 1)] = .nx [.val (.obj 0), .val (.int m), x, .none, .val (.int n1)] [hnd cs ix cu se (cn + 1)] := by
    simp only [s__law_draw_11, exSs, exS, evE, evEs, evAs, evEo, evC, evSrc, evT, frame, getV, getB, Res.ofO, Res.bind, Res.st, SRes.seq, SRes.out, List.getElem?_cons_zero, List.getElem?_cons_succ, List.cons_append, List.nil_append, List.replicate, List.length_cons, List.length_nil, bindT, bindTs, List.set_cons_zero, List.set_cons_succ, frzF, wipeF, setsO, slotF, ownS, hnd, getO, putO, Option.map, idxD, at5, binD, bifD, a1, a2, a3, if_true, hg1]
  have c0 : 0 ≤ n1 / 1009 ∧ n1 / 1009 ≤ n1 := by omega
  have c1 : mulOk n1 (n1 / 1009 + 69621) = true := mulOk_lit (by omega) (by omega) (by omega) (by omega)
  have c2 : divOk 1009 = true := divOk_lit (by omega) (by omega)
  have c3 : divOk 2003 = true := divOk_lit (by omega) (by omega)
  have c4 : divOk 16 = true := divOk_lit (by omega) (by omega)
  have b2 : 0 ≤ (n1 * (n1 / 1009 + 69621)) % 2147483647 ∧ (n1 * (n1 / 1009 + 69621)) % 2147483647 < 2147483647 := ⟨Int.emod_nonneg _ (by omega), Int.emod_lt_of_pos _ (by omega)⟩
  generalize hg2 : (n1 * (n1 / 1009 + 69621)) % 2147483647 = n2 at b2
  have e12 : exS (cf T L k) (cc T L k) T.con T.isa L s__law_draw_12 [.val (.obj 0), .val (.int m), x, .none, .val (.int n1)] [hnd cs ix cu se (cn + 1)] = .nx [.val (.obj 0), .val (.int m), x, .none, .val (.int n2)] [hnd cs ix cu se (cn + 1)] := by
    simp only [s__law_draw_12, exSs, exS, evE, evEs, evAs, evEo, evC, evSrc, evT, frame, getV, getB, Res.ofO, Res.bind, Res.st, SRes.seq, SRes.out, List.getElem?_cons_zero, List.getElem?_cons_succ, List.cons_append, List.nil_append, List.replicate, List.length_cons, List.length_nil, bindT, bindTs, List.set_cons_zero, List.set_cons_succ, frzF, wipeF, setsO, slotF, ownS, binD, bifD, c1, c2, a3, if_true, hg2]
  have d0 : 0 ≤ n2 / 2003 ∧ n2 / 2003 ≤ n2 := by omega
  have d1 : mulOk n2 (n2 / 2003 + 40692) = true := mulOk_lit (by omega) (by omega) (by omega) (by omega)
  generalize hg3 : (n2 * (n2 / 2003 + 40692)) % 2147483399 = n3
  have e13 : exS (cf T L k) (cc T L k) T.con T.isa L s__law_draw_13 [.val (.obj 0), .val (.int m), x, .none, .val (.int n2)] [hnd cs ix cu se (cn + 1)] = .nx [.val (.obj 0), .val (.int m), x, .none, .val (.int n3)] [hnd cs ix cu se (cn + 1)] := by
    simp only [s__law_draw_13, exSs, exS, evE, evEs, evAs, evEo, evC, evSrc, evT, frame, getV, getB, Res.ofO, Res.bind, Res.st, SRes.seq, SRes.out, List.getElem?_cons_zero, List.getElem?_cons_succ, List.cons_append, List.nil_append, List.replicate, List.length_cons, List.length_nil, bindT, bindTs, List.set_cons_zero, List.set_cons_succ, frzF, wipeF, setsO, slotF, ownS, binD, bifD, d1, c3, a4, if_true, hg3]
  have a5 : decide (0 < m) = true := decide_eq_true (by omega)
  have e14 : exS (cf T L k) (cc T L k) T.con T.isa L s__law_draw_14 [.val (.obj 0), .val (.int m), x, .none, .val (.int n3)] [hnd cs ix cu se (cn + 1)] = .ret (.int (n3 / 16 % m)) [hnd cs ix cu se (cn + 1)] := by
    simp only [s__law_draw_14, exSs, exS, evE, evEs, evAs, evEo, evC, evSrc, evT, frame, getV, getB, Res.ofO, Res.bind, Res.st, SRes.seq, SRes.out, List.getElem?_cons_zero, List.getElem?_cons_succ, List.cons_append, List.nil_append, List.replicate, List.length_cons, List.length_nil, bindT, bindTs, List.set_cons_zero, List.set_cons_succ, frzF, wipeF, setsO, slotF, ownS, binD, bifD, c4, a5, if_true]
  refine ⟨n3 / 16 % m, [hnd cs ix cu se (cn + 1)], ?_, ⟨Int.emod_nonneg _ (by omega), Int.emod_lt_of_pos _ (by omega)⟩, cs, ix, cu, se, cn + 1, rfl, H.ix, H.len, H.cs, H.cu, H.se, by omega, by omega⟩
  rw [tl10, exSs, e10]
  simp only [SRes.seq]
  rw [exSs, e11]
  simp only [SRes.seq]
  rw [exSs, e12]
  simp only [SRes.seq]
  rw [exSs, e13]
  simp only [SRes.seq]
  rw [exSs, e14]
  rfl
theorem draw_tail {cs : List Int} {x : Slot} {ix : Nat} {cu se cn : Int} (H : HdOk (n + 1) cs ix cu se cn) (h1 : 1 ≤ m) (h2 : m ≤ 10 ^ 40) : ∃ (d : Int) (o' : Objs), (exSs (cf T L k) (cc T L k) T.con T.isa L tl9 [.val (.obj 0), .val (.int m), x, .none, .none] [hnd cs ix cu se cn]).out = .ok (.int d) o' ∧ (0 ≤ d ∧ d < m) ∧ Hd n o' := by
  have hcu := H.cu
  have hcn := H.cn
  have a5 : decide (0 < m) = true := decide_eq_true (by omega)
  by_cases q : 0 < cu
  · have g1 : decide (0 < cu) = true := decide_eq_true q
    have hm2 : 2 ≤ (if m > 2 then m else 2) ∧ (if m > 2 then m else 2) ≤ 10 ^ 40 := by
      split <;> omega
    have g2 : divOk (if m > 2 then m else 2) = true := divOk_lit (by omega) (by omega)
    have e9 : exS (cf T L k) (cc T L k) T.con T.isa L s__law_draw_9 [.val (.obj 0), .val (.int m), x, .none, .none] [hnd cs ix cu se cn] = .ret (.int (cu % m)) [hnd cs ix (cu / (if m > 2 then m else 2)) se cn] := by
      simp only [s__law_draw_9, s__law_draw_6, s__law_draw_7, s__law_draw_8, exSs, exS, evE, evEs, evAs, evEo, evC, evSrc, evT, frame, getV, getB, Res.ofO, Res.bind, Res.st, SRes.seq, SRes.out, List.getElem?_cons_zero, List.getElem?_cons_succ, List.cons_append, List.nil_append, List.replicate, List.length_cons, List.length_nil, bindT, bindTs, List.set_cons_zero, List.set_cons_succ, frzF, wipeF, setsO, slotF, ownS, hnd, getO, putO, Option.map, idxD, at5, cmpD, ltD, Option.map, g1, binD, bifD, a5, g2, if_true, put5]
    have q1 : 0 ≤ cu / (if m > 2 then m else 2) := Int.ediv_nonneg hcu.1 (by omega)
    have q2 : cu / (if m > 2 then m else 2) ≤ cu := Int.ediv_le_self _ hcu.1
    refine ⟨cu % m, _, ?_, ⟨Int.emod_nonneg _ (by omega), Int.emod_lt_of_pos _ (by omega)⟩, cs, ix, _, se, cn, rfl, H.ix, H.len, H.cs, ⟨q1, by omega⟩, H.se, by omega, by omega⟩
    rw [tl9, exSs, e9]
    rfl
  · have g1 : decide (0 < cu) = false := decide_eq_false q
    have e9 : exS (cf T L k) (cc T L k) T.con T.isa L s__law_draw_9 [.val (.obj 0), .val (.int m), x, .none, .none] [hnd cs ix cu se cn] = .nx [.val (.obj 0), .val (.int m), x, .none, .none] [hnd cs ix cu se cn] := by
      simp only [s__law_draw_9, exSs, exS, evE, evEs, evAs, evEo, evC, evSrc, evT, frame, getV, getB, Res.ofO, Res.bind, Res.st, SRes.seq, SRes.out, List.getElem?_cons_zero, List.getElem?_cons_succ, List.cons_append, List.nil_append, List.replicate, List.length_cons, List.length_nil, bindT, bindTs, List.set_cons_zero, List.set_cons_succ, frzF, wipeF, setsO, slotF, ownS, hnd, getO, putO, Option.map, idxD, at5, cmpD, ltD, Option.map, g1, Bool.false_eq_true, if_false]
    obtain ⟨d, o', z⟩ := draw_mix (T := T) (L := L) (k := k) (x := x) H h1 h2
    refine ⟨d, o', ?_, z.2⟩
    rw [tl9, exSs, e9]
    exact z.1
theorem draw_out (h : Hd (n + 1) o) (h1 : 1 ≤ m) (h2 : m ≤ 10 ^ 40) : ∃ (d : Int) (o' : Objs), (exSs (cf T L k) (cc T L k) T.con T.isa L (.cons s__law_draw_5 tl9) [.val (.obj 0), .val (.int m), .none, .none, .none] o).out = .ok (.int d) o' ∧ (0 ≤ d ∧ d < m) ∧ Hd n o' := by
  obtain ⟨cs, ix, cu, se, cn, rfl, H⟩ := h
  have hse := H.se
  have hcu := H.cu
  rw [exSs]
  by_cases q : cu = 0
  · have g1 : decide (cu = 0) = true := decide_eq_true q
    by_cases q2 : ix < cs.length
    · have g2 : decide ((ix : Int) < (cs.length : Int)) = true := decide_eq_true (by omega)
      have ga : L2.atI (cs.map D.int) (ix : Int) = some (.int cs[ix]) := by
        rw [atI_nat (d := .int cs[ix]) (by rw [List.getElem?_map, List.getElem?_eq_getElem q2]; rfl)]
      have gc := H.cs cs[ix] (List.getElem_mem q2)
      generalize cs[ix] = c at ga gc
      have a1 : mulOk se 48271 = true := mulOk_lit (by omega) (by omega) (by omega) (by omega)
      have a3 : decide ((0 : Int) < 2147483647) = true := by decide
      have e1 : exS (cf T L k) (cc T L k) T.con T.isa L s__law_draw_1 [.val (.obj 0), .val (.int m), .none, .none, .none] [hnd cs ix cu se cn] = .nx [.val (.obj 0), .val (.int m), .val (.int c), .none, .none] [hnd cs ix cu se cn] := by
        simp only [s__law_draw_1, exSs, exS, evE, evEs, evAs, evEo, evC, evSrc, evT, frame, getV, getB, Res.ofO, Res.bind, Res.st, SRes.seq, SRes.out, List.getElem?_cons_zero, List.getElem?_cons_succ, List.cons_append, List.nil_append, List.replicate, List.length_cons, List.length_nil, bindT, bindTs, List.set_cons_zero, List.set_cons_succ, frzF, wipeF, setsO, slotF, ownS, hnd, getO, putO, Option.map, idxD, at5, ga]
      have e2 : exS (cf T L k) (cc T L k) T.con T.isa L s__law_draw_2 [.val (.obj 0), .val (.int m), .val (.int c), .none, .none] [hnd cs ix cu se cn] = .nx [.val (.obj 0), .val (.int m), .val (.int c), .none, .none] [hnd cs (ix + 1) cu se cn] := by
        simp only [s__law_draw_2, exSs, exS, evE, evEs, evAs, evEo, evC, evSrc, evT, frame, getV, getB, Res.ofO, Res.bind, Res.st, SRes.seq, SRes.out, List.getElem?_cons_zero, List.getElem?_cons_succ, List.cons_append, List.nil_append, List.replicate, List.length_cons, List.length_nil, bindT, bindTs, List.set_cons_zero, List.set_cons_succ, frzF, wipeF, setsO, slotF, ownS, hnd, getO, putO, Option.map, idxD, at5, binD, put5]
        rfl
      have e3 : exS (cf T L k) (cc T L k) T.con T.isa L s__law_draw_3 [.val (.obj 0), .val (.int m), .val (.int c), .none, .none] [hnd cs (ix + 1) cu se cn] = .nx [.val (.obj 0), .val (.int m), .val (.int c), .none, .none] [hnd cs (ix + 1) cu ((se * 48271 + c + 17) % 2147483647) cn] := by
        simp only [s__law_draw_3, exSs, exS, evE, evEs, evAs, evEo, evC, evSrc, evT, frame, getV, getB, Res.ofO, Res.bind, Res.st, SRes.seq, SRes.out, List.getElem?_cons_zero, List.getElem?_cons_succ, List.cons_append, List.nil_append, List.replicate, List.length_cons, List.length_nil, bindT, bindTs, List.set_cons_zero, List.set_cons_succ, frzF, wipeF, setsO, slotF, ownS, hnd, getO, putO, Option.map, idxD, at5, binD, bifD, put5, a1, a3, if_true]
      have b1 : 0 ≤ (se * 48271 + c + 17) % 2147483647 ∧ (se * 48271 + c + 17) % 2147483647 < 2147483647 := ⟨Int.emod_nonneg _ (by omega), Int.emod_lt_of_pos _ (by omega)⟩
      generalize (se * 48271 + c + 17) % 2147483647 = se' at e3 b1
      have e4 : ∃ cu' : Int, exS (cf T L k) (cc T L k) T.con T.isa L s__law_draw_4 [.val (.obj 0), .val (.int m), .val (.int c), .none, .none] [hnd cs (ix + 1) cu se' cn] = .nx [.val (.obj 0), .val (.int m), .val (.int c), .none, .none] [hnd cs (ix + 1) cu' se' cn] ∧ (0 ≤ cu' ∧ cu' < 10 ^ 36) := by
        by_cases q3 : (10 : Int) ^ 18 ≤ c
        · have g3 : decide ((10 : Int) ^ 18 ≤ c) = true := decide_eq_true q3
          refine ⟨c, ?_, gc⟩
          simp only [s__law_draw_4, exSs, exS, evE, evEs, evAs, evEo, evC, evSrc, evT, frame, getV, getB, Res.ofO, Res.bind, Res.st, SRes.seq, SRes.out, List.getElem?_cons_zero, List.getElem?_cons_succ, List.cons_append, List.nil_append, List.replicate, List.length_cons, List.length_nil, bindT, bindTs, List.set_cons_zero, List.set_cons_succ, frzF, wipeF, setsO, slotF, ownS, hnd, getO, putO, Option.map, p18, cmpD, leD, Option.map, g3, put5]
        · have g3 : decide ((10 : Int) ^ 18 ≤ c) = false := decide_eq_false q3
          refine ⟨0, ?_, by omega⟩
          simp only [s__law_draw_4, exSs, exS, evE, evEs, evAs, evEo, evC, evSrc, evT, frame, getV, getB, Res.ofO, Res.bind, Res.st, SRes.seq, SRes.out, List.getElem?_cons_zero, List.getElem?_cons_succ, List.cons_append, List.nil_append, List.replicate, List.length_cons, List.length_nil, bindT, bindTs, List.set_cons_zero, List.set_cons_succ, frzF, wipeF, setsO, slotF, ownS, hnd, getO, putO, Option.map, p18, cmpD, leD, Option.map, g3, put5]
      obtain ⟨cu', e4, hcu'⟩ := e4
      obtain ⟨d, o', z⟩ := draw_tail (T := T) (L := L) (k := k) (n := n) (x := .val (.int c)) (cs := cs) (ix := ix + 1) (cu := cu') (se := se') (cn := cn) ⟨by omega, H.len, H.cs, hcu', by omega, H.cn⟩ h1 h2
      have e5 : exS (cf T L k) (cc T L k) T.con T.isa L s__law_draw_5 [.val (.obj 0), .val (.int m), .none, .none, .none] [hnd cs ix cu se cn] = .nx [.val (.obj 0), .val (.int m), .val (.int c), .none, .none] [hnd cs (ix + 1) cu' se' cn] := by
        have et : evT (cf T L k) (cc T L k) T.con T.isa (.and (.cmp .Eq (.idx (.bor 0) (.int 2)) (.int 0)) (.cmp .Lt (.idx (.bor 0) (.int 1)) (.bif .len (.cons (.idx (.bor 0) (.int 0)) .nil)))) [.val (.obj 0), .val (.int m), .none, .none, .none] [hnd cs ix cu se cn] = .ok true [hnd cs ix cu se cn] := by
          simp only [exSs, exS, evE, evEs, evAs, evEo, evC, evSrc, evT, frame, getV, getB, Res.ofO, Res.bind, Res.st, SRes.seq, SRes.out, List.getElem?_cons_zero, List.getElem?_cons_succ, List.cons_append, List.nil_append, List.replicate, List.length_cons, List.length_nil, bindT, bindTs, List.set_cons_zero, List.set_cons_succ, frzF, wipeF, setsO, slotF, ownS, hnd, getO, putO, Option.map, idxD, at5, cmpD, ltD, Option.map, bifD, eqI, g1, List.length_map, g2]
        rw [s__law_draw_5, exS, et]
        show exSs (cf T L k) (cc T L k) T.con T.isa L _ _ _ = _
        rw [exSs, e1]
        simp only [SRes.seq]
        rw [exSs, e2]
        simp only [SRes.seq]
        rw [exSs, e3]
        simp only [SRes.seq]
        rw [exSs, e4]
        rfl
      refine ⟨d, o', ?_, z.2⟩
      rw [e5]
      exact z.1
    · have g2 : decide ((ix : Int) < (cs.length : Int)) = false := decide_eq_false (by omega)
      have e5 : exS (cf T L k) (cc T L k) T.con T.isa L s__law_draw_5 [.val (.obj 0), .val (.int m), .none, .none, .none] [hnd cs ix cu se cn] = .nx [.val (.obj 0), .val (.int m), .none, .none, .none] [hnd cs ix cu se cn] := by
        simp only [s__law_draw_5, exSs, exS, evE, evEs, evAs, evEo, evC, evSrc, evT, frame, getV, getB, Res.ofO, Res.bind, Res.st, SRes.seq, SRes.out, List.getElem?_cons_zero, List.getElem?_cons_succ, List.cons_append, List.nil_append, List.replicate, List.length_cons, List.length_nil, bindT, bindTs, List.set_cons_zero, List.set_cons_succ, frzF, wipeF, setsO, slotF, ownS, hnd, getO, putO, Option.map, idxD, at5, cmpD, ltD, Option.map, bifD, eqI, g1, List.length_map, g2, Bool.false_eq_true, if_false]
      obtain ⟨d, o', z⟩ := draw_tail (T := T) (L := L) (k := k) (x := .none) H h1 h2
      refine ⟨d, o', ?_, z.2⟩
      rw [e5]
      exact z.1
  · have g1 : decide (cu = 0) = false := decide_eq_false q
    have e5 : exS (cf T L k) (cc T L k) T.con T.isa L s__law_draw_5 [.val (.obj 0), .val (.int m), .none, .none, .none] [hnd cs ix cu se cn] = .nx [.val (.obj 0), .val (.int m), .none, .none, .none] [hnd cs ix cu se cn] := by
      simp only [s__law_draw_5, exSs, exS, evE, evEs, evAs, evEo, evC, evSrc, evT, frame, getV, getB, Res.ofO, Res.bind, Res.st, SRes.seq, SRes.out, List.getElem?_cons_zero, List.getElem?_cons_succ, List.cons_append, List.nil_append, List.replicate, List.length_cons, List.length_nil, bindT, bindTs, List.set_cons_zero, List.set_cons_succ, frzF, wipeF, setsO, slotF, ownS, hnd, getO, putO, Option.map, idxD, at5, cmpD, Option.map, eqI, g1, Bool.false_eq_true, if_false]
    obtain ⟨d, o', z⟩ := draw_tail (T := T) (L := L) (k := k) (x := .none) H h1 h2
    refine ⟨d, o', ?_, z.2⟩
    rw [e5]
    exact z.1
theorem Hd.len {o : Objs} (h : Hd n o) : o.length = 1 := by
  obtain ⟨cs, ix, cu, se, cn, rfl, _⟩ := h
  rfl
theorem trunc_len {d : D} {o : Objs} {n : Nat} (h : o.length = n) : (Res.ok d o).trunc n = .ok d o := by
  subst h
  exact trunc_ok
include B in
theorem v_draw (h : Hd (n + 1) o) (h1 : 1 ≤ m) (h2 : m ≤ 10 ^ 40) : ∃ (d : Int) (o' : Objs), cf T L (k + 1) "_law_draw" [.val (.obj 0), .val (.int m)] o = .ok (.int d) o' ∧ (0 ≤ d ∧ d < m) ∧ Hd n o' := by
  obtain ⟨d, o', z1, z2, z3⟩ := draw_out (T := T) (L := L) (k := k) h h1 h2
  exact ⟨d, o', cf_ok B.law_draw rfl z1 (trunc_len (by rw [h.len, z3.len])), z2, z3⟩
include B in
/-- a number -/
theorem v_drawN {x : Int} {q : Nat} (hx : x = (q : Int)) (h : Hd (n + 1) o) (h1 : 1 ≤ q) (h2 : q ≤ 10 ^ 40) : ∃ (d : Nat) (o' : Objs), cf T L (k + 1) "_law_draw" [.val (.obj 0), .val (.int x)] o = .ok (.int (d : Int)) o' ∧ d < q ∧ Hd n o' := by
  subst hx
  obtain ⟨d, o', z, hd, ho⟩ := v_draw (T := T) (L := L) (k := k) B (m := (q : Int)) h (by omega) (by omega)
  obtain ⟨j, rfl⟩ : ∃ j : Nat, d = (j : Int) := ⟨d.toNat, by omega⟩
  exact ⟨j, o', z, by omega, ho⟩
include B in
theorem v_any {ds : List D} (h : Hd (n + 1) o) (h1 : 1 ≤ ds.length) (h2 : ds.length ≤ 100000) : ∃ (x : D) (o' : Objs), cf T L (k + 2) "_law_any" [.val (.obj 0), .val (.lst ds)] o = .ok x o' ∧ x ∈ ds ∧ Hd n o' := by
  obtain ⟨j, o', z, hj, ho⟩ := v_drawN (T := T) (L := L) (k := k) B (x := (ds.length : Int)) rfl h h1 (by omega)
  refine ⟨ds[j], o', ?_, List.getElem_mem hj, ho⟩
  refine cf_ok B.law_any rfl ?_ (trunc_len (by rw [h.len, ho.len]))
  simp only [s__law_any_1, i__law_any, exSs, exS, evE, evEs, evAs, evEo, evC, evSrc, evT, frame, getV, getB, Res.ofO, Res.bind, Res.st, SRes.seq, SRes.out, List.getElem?_cons_zero, List.getElem?_cons_succ, List.cons_append, List.nil_append, List.replicate, List.length_cons, List.length_nil, bindT, bindTs, List.set_cons_zero, List.set_cons_succ, frzF, wipeF, setsO, slotF, ownS, bifD, z, idxD, atI_nat (List.getElem?_eq_getElem hj)]
def cel (i : Int) : Int := (if i < 0 then -i else i) % 10 ^ 36
def cells (ns : List Int) : List Int := (ns.take 60).map cel
theorem p36 : binD .Pow (.int 10) (.int 36) = some (.int (10 ^ 36)) := by rfl
theorem m36 (a : Int) : binD .Mod (.int a) (.int (10 ^ 36)) = some (.int (a % 10 ^ 36)) := by
  have hp : decide ((0 : Int) < 10 ^ 36) = true := by decide
  show (if decide ((0 : Int) < 10 ^ 36) = true then some (D.int (a % 10 ^ 36)) else none) = _
  rw [hp]
  rfl
theorem v_cell {F : FnT} {C' : CloT} {G : Str → Option D} {is : Str → Str → Bool} {ρ : Frm} {i : Int} (h : getB ρ 2 = some (.int i)) : evE F C' G is (.bin .Mod (.bif .int (.cons (.bif .abs (.cons (.bif .int (.cons (.bor 2) .nil)) .nil)) .nil)) (.bin .Pow (.int 10) (.int 36))) ρ o = .ok (.int (cel i)) o := by
  have h3 (j : Int) : bifD .int [.int j] = some (.int j) := rfl
  have h2 : bifD .abs [.int i] = some (.int (if i < 0 then -i else i)) := rfl
  simp only [evE, evEs, h, Res.ofO, Res.bind, h3, h2, p36, m36, cel]
local macro_rules | `(tactic| infer_instance) => `(tactic| first
  | refine wss_cons ?_
  | refine wss_nil ?_
  | refine ws_set ?_
  | refine ws_setOwn ?_
  | refine ws_par ?_
  | refine ws_parO ?_
  | refine ws_expr ?_
  | refine ws_ret ?_
  | refine ws_retN ?_
  | refine ws_retObj ?_
  | refine ws_ife ?_
  | refine ws_append rfl ?_
  | refine ws_extend rfl ?_
  | refine ws_put rfl ?_
  | refine ws_putO rfl ?_
  | refine ws_aug rfl ?_
  | refine ws_frz ?_
  | refine ws_pass ?_
  | refine ws_newDic ?_
  | refine we_var rfl ?_
  | refine we_bor rfl ?_
  | refine we_int ?_
  | refine we_bl ?_
  | refine we_non ?_
  | refine we_str ?_
  | refine we_tup ?_
  | refine we_lst ?_
  | refine we_dnew ?_
  | refine we_bin ?_
  | refine we_neg ?_
  | refine we_not ?_
  | refine we_and ?_
  | refine we_or ?_
  | refine we_cmp ?_
  | refine we_chain ?_
  | refine we_ite ?_
  | refine we_slc ?_
  | refine we_idx ?_
  | refine we_glob (by assumption) ?_
  | refine we_gin (by assumption) ?_
  | refine we_gidx (by assumption) ?_
  | refine we_gget (by assumption) ?_
  | refine we_call ?_
  | refine we_callv rfl ?_
  | refine we_bif ?_
  | refine we_isi ?_
  | refine we_rev ?_
  | refine weo_none ?_
  | refine weo_some ?_
  | refine wes_nil ?_
  | refine wes_cons ?_
  | refine was_nil ?_
  | refine was_val ?_
  | refine was_lam rfl ?_
  | refine wc_none ?_
  | refine wc_some ?_
  | refine wr_seq ?_
  | refine wr_zip ?_
  | refine wr_enum ?_
  | refine wr_rng1 ?_
  | refine wr_rng2 ?_
  | refine And.intro (Nat.le_of_ble_eq_true rfl) ?_
  | refine Exists.intro _ (And.intro rfl ?_)
  | refine Exists.intro _ (And.intro (Or.inl rfl) ?_)
  | refine Exists.intro _ (And.intro (Or.inr rfl) ?_)
  | refine Exists.intro _ (Exists.intro _ (And.intro (Or.inl (And.intro rfl rfl)) ?_))
  | refine Exists.intro _ (And.intro (Or.inr (Or.inl rfl)) ?_)
  | with_reducible refine if_t ?_
  | with_reducible refine if_f ?_
  | with_reducible refine if_nt ?_
  | with_reducible refine if_nf ?_
  | with_reducible refine if_n ?_
  | with_reducible refine g_add ?_
  | with_reducible refine g_sub ?_
  | with_reducible refine g_neg ?_
  | with_reducible refine g_lt ?_
  | with_reducible refine g_le ?_
  | with_reducible refine g_gt ?_
  | with_reducible refine g_ge ?_
  | with_reducible refine g_eqI ?_
  | with_reducible refine g_neI ?_
  | with_reducible refine g_lenf ?_
  | with_reducible refine g_lenfT ?_
  | with_reducible refine g_lenT0 ?_
  | with_reducible refine g_lenT1 ?_
  | with_reducible refine g_lenT2 ?_
  | with_reducible refine g_lenT3 ?_
  | with_reducible refine g_lenT4 ?_
  | with_reducible refine g_len ?_
  | with_reducible refine g_lenT ?_
  | with_reducible refine g_idx0 ?_
  | with_reducible refine g_idx1 ?_
  | with_reducible refine g_idx2 ?_
  | with_reducible refine g_isnB ?_
  | with_reducible refine g_isB ?_
  | ((with_reducible apply g_idx); exact rfl)
  | ((with_reducible apply g_bif); exact rfl)
  | ((with_reducible apply g_eqS); (· decide +kernel); (· decide +kernel))
  | ((with_reducible apply g_neS); (· decide +kernel); (· decide +kernel))
  | ((with_reducible apply g_in); assumption)
  | ((with_reducible apply g_in); exact rfl)
  | refine if_eqt (by decide +kernel) ?_
  | refine if_eqf (by decide +kernel) ?_
  | fail)
include B in
theorem v_hand (ns : List Int) : ∃ o', cf T L (k + 1) "_law_hand" [.val (.lst (ns.map D.int))] [] = .ok (.obj 0) o' ∧ Hd 1000000 o' := by
  have hl : (cells ns).length ≤ 60 := by
    unfold cells
    rw [List.length_map, List.length_take]
    omega
  have w : WSs (cf T L k) (cc T L k) T.con T.isa L i__law_hand.body (frame [.val (.lst (ns.map D.int))] i__law_hand.nl) [] (fun _ _ => False) (fun d o' => d = .obj 0 ∧ ∃ se : Int, o' = [hnd (cells ns) 0 0 se 0] ∧ 0 ≤ se ∧ se < 10 ^ 12) := by
    refine wss_cons ?_
    refine ws_set ?_
    refine we_comp (f := fun d => .int (cel (toI d))) (p := fun _ => true) ?_
    repeat infer_instance
    refine ⟨.lst ((ns.take 60).map D.int), ?_, ?_⟩
    · have z := cutN (ns.map D.int) 60
      show some (D.lst (cutD (ns.map D.int) none (some 60))) = _
      rw [List.map_take, ← z]
      rfl
    · repeat infer_instance
      refine ⟨fun d hd => ?_, by rw [List.length_map, List.length_take]; exact ten (by omega), ?_⟩
      · obtain ⟨i, _, rfl⟩ := List.mem_map.mp hd
        refine ⟨_, rfl, ?_, fun _ => ?_⟩
        · repeat infer_instance
          exact ⟨rfl, rfl⟩
        · exact we_of (v_cell rfl) ⟨rfl, rfl⟩
      · rw [filter_true]
        have e : ((ns.take 60).map D.int).map (fun d => .int (cel (toI d))) = (cells ns).map D.int := by
          unfold cells
          rw [List.map_map, List.map_map]
          rfl
        rw [e]
        refine ⟨_, rfl, ?_⟩
        refine wss_cons ?_
        refine ws_retObj ?_
        repeat infer_instance
        rw [List.length_map]
        refine ⟨_, bin_mul (by omega) (by omega) (by omega) (by omega), ?_⟩
        repeat infer_instance
        exact ⟨rfl, _, rfl, by omega, by omega⟩
  replace w := w.p
  revert w
  generalize hr : exSs (cf T L k) (cc T L k) T.con T.isa L i__law_hand.body (frame [.val (.lst (ns.map D.int))] i__law_hand.nl) [] = r
  intro w
  cases r with
  | ret d o' =>
    obtain ⟨rfl, se, rfl, h1, h2⟩ := w
    refine ⟨_, cf_ok (r := .ok (.obj 0) [hnd (cells ns) 0 0 se 0]) B.law_hand rfl ?_ rfl, cells ns, 0, 0, se, 0, rfl, by omega, hl, ?_, by omega, ⟨h1, h2⟩, by omega⟩
    · rw [hr]
      rfl
    · intro c hc
      unfold cells at hc
      obtain ⟨i, _, rfl⟩ := List.mem_map.mp hc
      unfold cel
      exact ⟨Int.emod_nonneg _ (by omega), Int.emod_lt_of_pos _ (by omega)⟩
  | _ => exact w.elim
theorem Hd.nO (h : Hd n o) : o.all SObj.nO = true := by
  obtain ⟨cs, ix, cu, se, cn, rfl, _⟩ := h
  have e : ∀ l : List Int, Ev.nOs (l.map D.int) = true := fun l => by
    induction l with
    | nil => unfold List.map Ev.nOs; rfl
    | cons a l ih =>
      rw [List.map_cons]
      unfold Ev.nOs
      rw [ih]
      unfold Ev.nO
      rfl
  have c : ∀ {d : D} {ds : List D}, Ev.nO d = true → Ev.nOs ds = true → Ev.nOs (d :: ds) = true := fun {d ds} h1 h2 => by
    unfold Ev.nOs
    rw [h1, h2]
    rfl
  have i : ∀ a : Int, Ev.nO (.int a) = true := fun a => by unfold Ev.nO; rfl
  have l : Ev.nO (.lst (cs.map D.int)) = true := by
    unfold Ev.nO
    exact e cs
  have z : Ev.nOs [.lst (cs.map D.int), .int (ix : Int), .int cu, .int se, .int cn] = true := c l (c (i _) (c (i _) (c (i _) (c (i _) (by unfold Ev.nOs; rfl)))))
  show (Ev.nOs [.lst (cs.map D.int), .int (ix : Int), .int cu, .int se, .int cn] && true) = true
  rw [z]
  rfl
end
end Lib

set_option maxHeartbeats 2000000
/-! Lr: the laws' own forms. -/
namespace Lib
open PySem Ev
local macro_rules | `(tactic| infer_instance) => `(tactic| first
  | refine wss_cons ?_
  | refine wss_nil ?_
  | refine ws_set ?_
  | refine ws_setOwn ?_
  | refine ws_par ?_
  | refine ws_parO ?_
  | refine ws_expr ?_
  | refine ws_ret ?_
  | refine ws_retN ?_
  | refine ws_retObj ?_
  | refine ws_ife ?_
  | refine ws_append rfl ?_
  | refine ws_extend rfl ?_
  | refine ws_put rfl ?_
  | refine ws_putO rfl ?_
  | refine ws_aug rfl ?_
  | refine ws_frz ?_
  | refine ws_pass ?_
  | refine ws_newDic ?_
  | refine we_var rfl ?_
  | refine we_bor rfl ?_
  | refine we_int ?_
  | refine we_bl ?_
  | refine we_non ?_
  | refine we_str ?_
  | refine we_tup ?_
  | refine we_lst ?_
  | refine we_dnew ?_
  | refine we_bin ?_
  | refine we_neg ?_
  | refine we_not ?_
  | refine we_and ?_
  | refine we_or ?_
  | refine we_cmp ?_
  | refine we_chain ?_
  | refine we_ite ?_
  | refine we_slc ?_
  | refine we_idx ?_
  | refine we_glob (by assumption) ?_
  | refine we_gin (by assumption) ?_
  | refine we_gidx (by assumption) ?_
  | refine we_gget (by assumption) ?_
  | refine we_call ?_
  | refine we_callv rfl ?_
  | refine we_bif ?_
  | refine we_isi ?_
  | refine we_rev ?_
  | refine weo_none ?_
  | refine weo_some ?_
  | refine wes_nil ?_
  | refine wes_cons ?_
  | refine was_nil ?_
  | refine was_val ?_
  | refine was_lam rfl ?_
  | refine wc_none ?_
  | refine wc_some ?_
  | refine wr_seq ?_
  | refine wr_zip ?_
  | refine wr_enum ?_
  | refine wr_rng1 ?_
  | refine wr_rng2 ?_
  | refine And.intro (Nat.le_of_ble_eq_true rfl) ?_
  | refine Exists.intro _ (And.intro rfl ?_)
  | refine Exists.intro _ (And.intro (Or.inl rfl) ?_)
  | refine Exists.intro _ (And.intro (Or.inr rfl) ?_)
  | refine Exists.intro _ (Exists.intro _ (And.intro (Or.inl (And.intro rfl rfl)) ?_))
  | refine Exists.intro _ (And.intro (Or.inr (Or.inl rfl)) ?_)
  | with_reducible refine if_t ?_
  | with_reducible refine if_f ?_
  | with_reducible refine if_nt ?_
  | with_reducible refine if_nf ?_
  | with_reducible refine if_n ?_
  | with_reducible refine g_add ?_
  | with_reducible refine g_sub ?_
  | with_reducible refine g_neg ?_
  | with_reducible refine g_lt ?_
  | with_reducible refine g_le ?_
  | with_reducible refine g_gt ?_
  | with_reducible refine g_ge ?_
  | with_reducible refine g_eqI ?_
  | with_reducible refine g_neI ?_
  | with_reducible refine g_lenf ?_
  | with_reducible refine g_lenfT ?_
  | with_reducible refine g_lenT0 ?_
  | with_reducible refine g_lenT1 ?_
  | with_reducible refine g_lenT2 ?_
  | with_reducible refine g_lenT3 ?_
  | with_reducible refine g_lenT4 ?_
  | with_reducible refine g_len ?_
  | with_reducible refine g_lenT ?_
  | with_reducible refine g_idx0 ?_
  | with_reducible refine g_idx1 ?_
  | with_reducible refine g_idx2 ?_
  | with_reducible refine g_isnB ?_
  | with_reducible refine g_isB ?_
  | ((with_reducible apply g_idx); exact rfl)
  | ((with_reducible apply g_bif); exact rfl)
  | ((with_reducible apply g_eqS); (· decide +kernel); (· decide +kernel))
  | ((with_reducible apply g_neS); (· decide +kernel); (· decide +kernel))
  | ((with_reducible apply g_in); assumption)
  | ((with_reducible apply g_in); exact rfl)
  | refine if_eqt (by decide +kernel) ?_
  | refine if_eqf (by decide +kernel) ?_
  | fail)
section
variable {T : Tab} {L : Nat} (B : LHand T) (O : LOwn T) variable {k n m b p : Nat} {o : Objs} {f : Nat → Bool} {x : Int}
theorem all2_eq : ∀ {as bs : List D}, All2 (fun d x => x = d) as bs → bs = as
  | _, _, .nil => rfl
  | _, _, .cons h r => by rw [h, all2_eq r]
theorem sub_rg {ss : List D} (h : ss.Sublist (rgD 0 n)) : ∃ l : List Nat, ss = nT l ∧ l.Sublist (List.range n) := by
  unfold rgD at h
  rw [← List.range_eq_range'] at h
  obtain ⟨l, h1, h2⟩ := List.sublist_map_iff.mp h
  exact ⟨l, h2, h1⟩
theorem filter_sub : ∀ {l m : List Nat}, l.Sublist m → m.Nodup → m.filter (fun i => decide (i ∈ l)) = l
  | _, _, .slnil, _ => rfl
  | l, a :: m, .cons _ s, h => by
    have h := List.nodup_cons.mp h
    rw [List.filter_cons_of_neg (by rw [decide_eq_true_eq]; exact fun z => h.1 (s.subset z)), filter_sub s h.2]
  | a :: l, _ :: m, .cons₂ _ s, h => by
    have h := List.nodup_cons.mp h
    rw [List.filter_cons, if_pos (decide_eq_true List.mem_cons_self)]
    congr 1
    have e : m.filter (fun i => decide (i ∈ a :: l)) = m.filter fun i => decide (i ∈ l) := by
      refine List.filter_congr fun i hi => ?_
      congr 1
      refine propext ⟨fun z => ?_, fun z => List.mem_cons_of_mem _ z⟩
      rcases List.mem_cons.mp z with rfl | z
      · exact absurd hi h.1
      · exact z
    rw [e, filter_sub s h.2]
/-- a list of days, coming again -/
theorem form_of_sub {l : List Nat} (hp : 0 < p) (h : l.Sublist (List.range (b + p))) : ∃ f : Nat → Bool, Per f b p ∧ dys f (b + p) = l := by
  refine ⟨fun i => decide ((if i < b then i else b + (i - b) % p) ∈ l), fun i hi => ?_, ?_⟩
  · show decide ((if i + p < b then i + p else b + (i + p - b) % p) ∈ l) = decide ((if i < b then i else b + (i - b) % p) ∈ l)
    rw [if_neg (by omega), if_neg (by omega), show i + p - b = i - b + p by omega, Nat.add_mod_right]
  · unfold dys
    rw [← filter_sub h List.nodup_range]
    refine List.filter_congr fun i hi => ?_
    have hi := List.mem_range.mp hi
    show decide ((if i < b then i else b + (i - b) % p) ∈ _) = _
    by_cases z : i < b
    · rw [if_pos z, filter_sub h List.nodup_range]
    · rw [if_neg z, Nat.mod_eq_of_lt (by omega), show b + (i - b) = i by omega, filter_sub h List.nodup_range]
/-- drawn ones of the first numbers -/
theorem we_drawn {F : FnT} {C : CloT} {G : Str → Option D} {is : Str → Str → Bool} {ρ : Frm} {elt : IE} {v : Nat} {e : IE} {c : IE} {own : List Nat} {Q : D → Objs → Prop} (he : WE F C G is e ρ o fun d o1 => ∃ x : Int, d = .int x ∧ x = (m : Int) ∧ o1 = o) (hm : m ≤ 1000000) (hd : Hd (n + m) o)
    (hs : ∀ (i : Nat) n o, i < m → Hd (n + 1) o → WE F C G is c ((wipeF ρ own).set v (.val (.int (i : Int)))) o fun d o2 => ∃ q, d = .bl q ∧ Hd n o2) (hE : ∀ (i : Nat) o, WE F C G is elt ((wipeF ρ own).set v (.val (.int (i : Int)))) o fun d o2 => d = .int (i : Int) ∧ o2 = o)
    (q : ∀ (l : List Nat) (o' : Objs), l.Sublist (List.range m) → Hd n o' → Q (.lst (nT l)) o') : WE F C G is (.comp elt (.name v) (.range1 e) (.some c) own) ρ o Q := by
  refine we_compI (I := Hd) (V := fun d x => x = d) ?_
  refine wr_rng1 (we_imp he ?_)
  rintro d o1 ⟨x, rfl, hx, rfl⟩
  refine ⟨x, m, rfl, hx, hm, n, by rw [rgD_len]; exact hd, ?_, by rw [rgD_len]; exact ten hm, ?_⟩
  · intro d hd n o h
    obtain ⟨i, hi, rfl⟩ := rg_mem hd
    refine ⟨_, rfl, wc_some (we_imp (hs i n o hi h) ?_)⟩
    rintro d o2 ⟨q, rfl, h2⟩
    refine ⟨q, rfl, ?_⟩
    cases q with
    | false => exact .inl ⟨rfl, h2⟩
    | true =>
      refine .inr ⟨rfl, we_imp (hE i o2) ?_⟩
      rintro d o3 ⟨rfl, rfl⟩
      exact ⟨rfl, h2⟩
  · rintro xs o' ⟨ss, h1, h2⟩ h3
    rw [all2_eq h2]
    obtain ⟨l, rfl, h4⟩ := sub_rg h1
    exact q l o' h4 h3
include B O in
theorem v_law_form (h : Hd (n + 30) o) : ∃ (b p : Nat) (f : Nat → Bool) (o' : Objs), cf T L (k + 3) "_law_form" [.val (.obj 0)] o = .ok (fD b p f) o' ∧ (b ≤ 11 ∧ 1 ≤ p ∧ p ≤ 9 ∧ Per f b p) ∧ Hd n o' := by
  obtain ⟨d, o', h1, _, b, p, f, rfl, h2, h3⟩ := cf_w (T := T) (L := L) (k := k + 2) (o := o) (sl := [.val (.obj 0)]) (P := fun d o' => ∃ (b p : Nat) (f : Nat → Bool), d = fD b p f ∧ (b ≤ 11 ∧ 1 ≤ p ∧ p ≤ 9 ∧ Per f b p) ∧ Hd n o') O.law_form rfl (by
    repeat infer_instance
    obtain ⟨x1, o1, z1, m1, d1⟩ := v_any (T := T) (L := L) (k := k) B (n := n + 29) (ds := [.int 1, .int 5, .int 12]) h (by decide) (by decide)
    refine ⟨_, _, z1, ?_⟩
    have q1 : ∃ q : Nat, x1 = .int (q : Int) ∧ 1 ≤ q ∧ q ≤ 12 := by
      simp only [List.mem_cons, List.not_mem_nil, or_false] at m1
      rcases m1 with rfl | rfl | rfl
      · exact ⟨1, rfl, by decide⟩
      · exact ⟨5, rfl, by decide⟩
      · exact ⟨12, rfl, by decide⟩
    obtain ⟨q1, rfl, q2, q3⟩ := q1
    repeat infer_instance
    obtain ⟨b, o2, z2, hb, d2⟩ := v_drawN (T := T) (L := L) (k := k + 1) B (n := n + 28) (x := (q1 : Int)) rfl d1 q2 (by omega)
    refine ⟨_, _, z2, ?_⟩
    repeat infer_instance
    obtain ⟨x3, o3, z3, m3, d3⟩ := v_any (T := T) (L := L) (k := k) B (n := n + 27) (ds := [.int 4, .int 9]) d2 (by decide) (by decide)
    refine ⟨_, _, z3, ?_⟩
    have q4 : ∃ q : Nat, x3 = .int (q : Int) ∧ 1 ≤ q ∧ q ≤ 9 := by
      simp only [List.mem_cons, List.not_mem_nil, or_false] at m3
      rcases m3 with rfl | rfl
      · exact ⟨4, rfl, by decide⟩
      · exact ⟨9, rfl, by decide⟩
    obtain ⟨q4, rfl, q5, q6⟩ := q4
    repeat infer_instance
    obtain ⟨p, o4, z4, hp, d4⟩ := v_drawN (T := T) (L := L) (k := k + 1) B (n := n + 26) (x := (q4 : Int)) rfl d3 q5 (by omega)
    refine ⟨_, _, z4, ?_⟩
    repeat infer_instance
    obtain ⟨s, o5, z5, hs, d5⟩ := v_drawN (T := T) (L := L) (k := k + 1) B (n := n + 25) (x := 3) (q := 3) rfl d4 (by decide) (by decide)
    refine ⟨_, _, z5, ?_⟩
    repeat infer_instance
    refine we_drawn (n := n) (m := b + (p + 1)) ?_ (by omega) (d5.le (by omega)) (fun i n' o' hi hh => ?_) (fun i o' => ?_) ?_
    · repeat infer_instance
      exact ⟨by omega, rfl⟩
    · repeat infer_instance
      obtain ⟨t, o6, z6, ht, d6⟩ := v_drawN (T := T) (L := L) (k := k + 1) B (n := n') (x := 1 + (s : Int)) (q := s + 1) (by omega) hh (by omega) (by omega)
      refine ⟨_, _, z6, ?_⟩
      repeat infer_instance
      exact d6
    · repeat infer_instance
      exact ⟨rfl, rfl⟩
    · intro l o' hl hh
      repeat infer_instance
      obtain ⟨f, hf, e⟩ := form_of_sub (b := b) (p := p + 1) (by omega) hl
      refine ⟨by rw [h.len, hh.len], b, p + 1, f, ?_, ⟨by omega, by omega, by omega, hf⟩, hh⟩
      unfold fD
      rw [e, show (1 : Int) + (p : Int) = ((p + 1 : Nat) : Int) by omega])
  exact ⟨b, p, f, o', h1, h2, h3⟩
include O in
/-- a day of any size -/
theorem v_law_in (hp : 0 < p) (per : Per f b p) (hx : x = (n : Int)) : cf T L (k + 1) "_law_in" [.val (fD b p f), .val (.int x)] o = .ok (.bl (f n)) o := by
  refine cf_p O.law_in rfl ?_
  repeat infer_instance
  refine ⟨fun z => ?_, fun z => ?_⟩
  · have z := of_decide_eq_true z
    repeat infer_instance
    refine ⟨_, cmp_in (inD_nT (n := n) hx), ?_⟩
    refine ⟨?_, rfl⟩
    congr 1
    rw [Bool.eq_iff_iff, decide_eq_true_eq, mem_dys]
    exact ⟨fun h => h.2, fun h => ⟨by omega, h⟩⟩
  · have z := of_decide_eq_false z
    repeat infer_instance
    refine ⟨_, bin_mod (by omega), ?_⟩
    repeat infer_instance
    have e : (b : Int) + (x - (b : Int)) % (p : Int) = ((b + (n - b) % p : Nat) : Int) := by
      rw [hx]
      have e1 : (n : Int) - (b : Int) = ((n - b : Nat) : Int) := by omega
      rw [e1]
      norm_cast
    refine ⟨_, cmp_in (inD_nT e), ?_⟩
    refine ⟨?_, rfl⟩
    congr 1
    have := Nat.mod_lt (n - b) hp
    rw [Bool.eq_iff_iff, decide_eq_true_eq, mem_dys, ← per.mod (n := n) (by omega)]
    exact ⟨fun h => h.2, fun h => ⟨by omega, h⟩⟩
include O in
theorem v_law_flags_of (hp : 0 < p) (per : Per f b p) (hx : x = (m : Int)) (hm : m ≤ 1000000) : cf T L (k + 2) "_law_flags_of" [.val (fD b p f), .val (.int x)] o = .ok (.lst (flg f m)) o := by
  refine cf_p O.law_flags_of rfl ?_
  repeat infer_instance
  refine we_comp (f := fun d => .bl (f (toI d).toNat)) (p := fun _ => true) ?_
  repeat infer_instance
  refine ⟨_, m, rfl, hx, hm, ?_⟩
  refine ⟨fun d hd => ?_, by rw [rgD_len]; exact ten hm, ?_⟩
  · obtain ⟨i, hi, rfl⟩ := rg_mem hd
    refine ⟨_, rfl, ?_, fun _ => ?_⟩
    · repeat infer_instance
      exact ⟨rfl, rfl⟩
    · repeat infer_instance
      exact ⟨_, _, v_law_in O hp per (n := i) rfl, rfl, rfl⟩
  · rw [filter_true, rg_flg (f := f) fun i _ => rfl]
    exact ⟨rfl, rfl⟩
end
end Lib

set_option maxHeartbeats 2000000
/-! Ls: the laws' own least form. -/
namespace Lib
open PySem Ev
local macro_rules | `(tactic| infer_instance) => `(tactic| first
  | refine wss_cons ?_
  | refine wss_nil ?_
  | refine ws_set ?_
  | refine ws_setOwn ?_
  | refine ws_par ?_
  | refine ws_parO ?_
  | refine ws_expr ?_
  | refine ws_ret ?_
  | refine ws_retN ?_
  | refine ws_retObj ?_
  | refine ws_ife ?_
  | refine ws_append rfl ?_
  | refine ws_extend rfl ?_
  | refine ws_put rfl ?_
  | refine ws_putO rfl ?_
  | refine ws_aug rfl ?_
  | refine ws_frz ?_
  | refine ws_pass ?_
  | refine ws_newDic ?_
  | refine we_var rfl ?_
  | refine we_bor rfl ?_
  | refine we_int ?_
  | refine we_bl ?_
  | refine we_non ?_
  | refine we_str ?_
  | refine we_tup ?_
  | refine we_lst ?_
  | refine we_dnew ?_
  | refine we_bin ?_
  | refine we_neg ?_
  | refine we_not ?_
  | refine we_and ?_
  | refine we_or ?_
  | refine we_cmp ?_
  | refine we_chain ?_
  | refine we_ite ?_
  | refine we_slc ?_
  | refine we_idx ?_
  | refine we_glob (by assumption) ?_
  | refine we_gin (by assumption) ?_
  | refine we_gidx (by assumption) ?_
  | refine we_gget (by assumption) ?_
  | refine we_call ?_
  | refine we_callv rfl ?_
  | refine we_bif ?_
  | refine we_isi ?_
  | refine we_rev ?_
  | refine weo_none ?_
  | refine weo_some ?_
  | refine wes_nil ?_
  | refine wes_cons ?_
  | refine was_nil ?_
  | refine was_val ?_
  | refine was_lam rfl ?_
  | refine wc_none ?_
  | refine wc_some ?_
  | refine wr_seq ?_
  | refine wr_zip ?_
  | refine wr_enum ?_
  | refine wr_rng1 ?_
  | refine wr_rng2 ?_
  | refine And.intro (Nat.le_of_ble_eq_true rfl) ?_
  | refine Exists.intro _ (And.intro rfl ?_)
  | refine Exists.intro _ (And.intro (Or.inl rfl) ?_)
  | refine Exists.intro _ (And.intro (Or.inr rfl) ?_)
  | refine Exists.intro _ (Exists.intro _ (And.intro (Or.inl (And.intro rfl rfl)) ?_))
  | refine Exists.intro _ (And.intro (Or.inr (Or.inl rfl)) ?_)
  | with_reducible refine if_t ?_
  | with_reducible refine if_f ?_
  | with_reducible refine if_nt ?_
  | with_reducible refine if_nf ?_
  | with_reducible refine if_n ?_
  | with_reducible refine g_add ?_
  | with_reducible refine g_sub ?_
  | with_reducible refine g_neg ?_
  | with_reducible refine g_lt ?_
  | with_reducible refine g_le ?_
  | with_reducible refine g_gt ?_
  | with_reducible refine g_ge ?_
  | with_reducible refine g_eqI ?_
  | with_reducible refine g_neI ?_
  | with_reducible refine g_lenf ?_
  | with_reducible refine g_lenfT ?_
  | with_reducible refine g_lenT0 ?_
  | with_reducible refine g_lenT1 ?_
  | with_reducible refine g_lenT2 ?_
  | with_reducible refine g_lenT3 ?_
  | with_reducible refine g_lenT4 ?_
  | with_reducible refine g_len ?_
  | with_reducible refine g_lenT ?_
  | with_reducible refine g_idx0 ?_
  | with_reducible refine g_idx1 ?_
  | with_reducible refine g_idx2 ?_
  | with_reducible refine g_isnB ?_
  | with_reducible refine g_isB ?_
  | ((with_reducible apply g_idx); exact rfl)
  | ((with_reducible apply g_bif); exact rfl)
  | ((with_reducible apply g_eqS); (· decide +kernel); (· decide +kernel))
  | ((with_reducible apply g_neS); (· decide +kernel); (· decide +kernel))
  | ((with_reducible apply g_in); assumption)
  | ((with_reducible apply g_in); exact rfl)
  | refine if_eqt (by decide +kernel) ?_
  | refine if_eqf (by decide +kernel) ?_
  | fail)
theorem rep_flg {h : Nat → Bool} {t : Nat} : ∀ k : Nat, (List.replicate k (flg h t)).flatten = flg (fun i => h (i % t)) (t * k)
  | 0 => rfl
  | k + 1 => by
    rw [List.replicate_succ, List.flatten_cons, rep_flg k, flg_app, Nat.mul_succ, Nat.add_comm (t * k) t]
    refine flg_congr fun i hi => ?_
    by_cases z : i < t
    · rw [if_pos z, Nat.mod_eq_of_lt z]
    · rw [if_neg z]
      exact congrArg h (Nat.mod_eq_sub_mod (by omega)).symm
theorem mul_lst {xs : List D} {k : Nat} {x : Int} (hx : x = (k : Int)) (hk : k ≤ 1000000) (h : xs.length * k ≤ 1000000) : binD .Mult (.lst xs) (.int x) = some (.lst (List.replicate k xs).flatten) := by
  subst hx
  have e : repOk xs.length (k : Int) = true := by
    unfold repOk
    rw [decide_eq_true (show -(2 ^ 63) ≤ (k : Int) by omega), decide_eq_true (show (k : Int) < 2 ^ 63 by omega), decide_eq_true (show xs.length * ((k : Int)).toNat ≤ sizeLine from ten (by rw [Int.toNat_natCast]; exact h))]
    rfl
  show (if repOk xs.length (k : Int) = true then some (D.lst (List.replicate ((k : Int)).toNat xs).flatten) else none) = _
  rw [if_pos e, Int.toNat_natCast]
/-- what comes again by t, in a ring -/
theorem ring_iff {f : Nat → Bool} {b p t : Nat} (hp : 0 < p) (per : Per f b p) (ht : 0 < t) (hd : t ∣ p) : (∀ i, i < p → f (b + i % t) = f (b + i)) ↔ Per f b t := by
  constructor
  · intro h n hn
    have e : ∀ n, b ≤ n → f n = f (b + (n - b) % t) := fun n hn => by
      rw [per.mod hn, ← h _ (Nat.mod_lt _ hp), Nat.mod_mod_of_dvd _ hd]
    rw [e n hn, e (n + t) (by omega), show n + t - b = n - b + t by omega, Nat.add_mod_right]
  · intro h i _
    rw [h.mod (n := b + i) (by omega), Nat.add_sub_cancel_left]
theorem filt0 {pr : D → Bool} {p s : Nat} (h1 : 1 ≤ s) (h2 : s ≤ p) (h3 : pr (.int (s : Int)) = true) (h4 : ∀ t : Nat, 1 ≤ t → t < s → pr (.int (t : Int)) = false) : ((rgD 1 p).filter pr)[0]? = some (.int (s : Int)) := by
  have e : rgD 1 p = rgD 1 (s - 1) ++ .int (s : Int) :: rgD (s + 1) (p - s) := by
    unfold rgD
    have e1 : List.range' 1 p = List.range' 1 (s - 1) ++ s :: List.range' (s + 1) (p - s) := by
      have e2 : s :: List.range' (s + 1) (p - s) = List.range' s (p - s + 1) := rfl
      rw [e2]
      have e3 := List.range'_append (s := 1) (m := s - 1) (n := p - s + 1) (step := 1)
      rw [show 1 + 1 * (s - 1) = s by omega, show s - 1 + (p - s + 1) = p by omega] at e3
      exact e3.symm
    rw [e1, List.map_append]
    rfl
  rw [e, List.filter_append]
  have e4 : (rgD 1 (s - 1)).filter pr = [] := by
    rw [List.filter_eq_nil_iff]
    intro d hd
    obtain ⟨i, hi⟩ := List.getElem?_of_mem hd
    obtain ⟨hi, rfl⟩ := rgD_get hi
    rw [h4 (1 + i) (by omega) (by omega)]
    exact Bool.false_ne_true
  rw [e4, List.nil_append, List.filter_cons, if_pos h3]
  rfl
section
variable {T : Tab} {L : Nat} (hL : 100001 ≤ L) (h0 : T.fn "_law_least" = some i__law_least) variable {k m b p : Nat} {o : Objs} {f : Nat → Bool} {x y : Int}
/-- whether a ring comes again by t -/
def ringB (f : Nat → Bool) (b p t : Nat) : Bool := decide (p % t = 0) && decide (∀ i, i < p → f (b + i % t) = f (b + i))
include hL h0 in
theorem v_law_least (hx : x = (b : Int)) (hy : y = (p : Int)) (hp : 0 < p) (per : Per f b p) (hb : b + p ≤ m) (hm : m ≤ 20000) {b' p' : Nat} (hl : Least f b' p') : cf T L (k + 1) "_law_least" [.val (.lst (flg f m)), .val (.int x), .val (.int y)] o = .ok (fD b' p' f) o := by
  have hp' := hl.pos
  have hpd : p' ∣ p := hl.dvd per
  have hpl : p' ≤ p := Nat.le_of_dvd hp hpd
  have hb' : b' ≤ b := hl.low _ (per.back hp hl.per)
  have hper : Per f b p' := hl.per.later hb'
  refine cf_p h0 rfl ?_
  subst hx hy
  repeat infer_instance
  refine ⟨_, cut_fl (a := b) (c := b + p) rfl (Int.natCast_add _ _).symm (by omega) (by omega), ?_⟩
  rw [show b + p - b = p by omega]
  repeat infer_instance
  refine we_comp (f := fun d => d) (p := fun d => ringB f b p (toI d).toNat) ?_
  repeat infer_instance
  refine ⟨_, _, 1, p, rfl, rfl, rfl, by omega, by omega, ?_⟩
  refine ⟨fun d hd => ?_, by rw [rgD_len]; exact ten (by omega), ?_⟩
  · obtain ⟨i, hi⟩ := List.getElem?_of_mem hd
    obtain ⟨hi, rfl⟩ := rgD_get hi
    refine ⟨_, rfl, ?_, fun _ => ?_⟩
    · show WC _ _ _ _ _ _ _ (fun bb o2 => bb = ringB f b p (1 + i) ∧ o2 = o)
      repeat infer_instance
      refine ⟨_, bin_mod (by omega), ?_⟩
      repeat infer_instance
      refine ⟨fun hc => ?_, fun hc => ?_⟩
      · have hc := of_decide_eq_true hc
        have hc2 : p % (1 + i) = 0 := by exact_mod_cast hc
        have hd2 : (1 + i) ∣ p := Nat.dvd_of_mod_eq_zero hc2
        repeat infer_instance
        refine ⟨_, cut_to (c := 1 + i) rfl (by omega), ?_⟩
        repeat infer_instance
        have e1 : ((p : Nat) : Int) / ((1 + i : Nat) : Int) = ((p / (1 + i) : Nat) : Int) := by norm_cast
        refine ⟨_, bin_div (by omega) (by omega), ?_⟩
        rw [e1]
        have e2 : (1 + i) * (p / (1 + i)) = p := Nat.mul_div_cancel' hd2
        have e3 : p / (1 + i) ≤ p := Nat.div_le_self _ _
        refine ⟨_, mul_lst rfl (Nat.le_trans e3 (by omega)) (by rw [flg_len, e2]; omega), ?_⟩
        rw [rep_flg, e2]
        repeat infer_instance
        refine ⟨_, cmp_eq (eqD_flgL (b := decide (∀ j, j < p → f (b + j % (1 + i)) = f (b + j))) decide_eq_true_iff), ?_⟩
        repeat infer_instance
        unfold ringB
        rw [decide_eq_true hc2, Bool.true_and]
        exact ⟨rfl, rfl⟩
      · have hc := of_decide_eq_false hc
        have hc2 : ¬ p % (1 + i) = 0 := fun z => hc (by exact_mod_cast z)
        repeat infer_instance
        unfold ringB
        rw [decide_eq_false hc2, Bool.false_and]
        exact ⟨rfl, rfl⟩
    · repeat infer_instance
      exact ⟨rfl, rfl⟩
  · rw [List.map_id']
    have e0 := filt0 (pr := fun d => ringB f b p (toI d).toNat) (p := p) (s := p') hp' hpl (by
      show ringB f b p p' = true
      unfold ringB
      rw [decide_eq_true (Nat.mod_eq_zero_of_dvd hpd), decide_eq_true ((ring_iff hp per hp' hpd).mpr hper)]
      rfl) (fun t h1 h2 => by
      show ringB f b p t = false
      unfold ringB
      by_cases z : p % t = 0
      · have hd := Nat.dvd_of_mod_eq_zero z
        have e5 : decide (∀ i, i < p → f (b + i % t) = f (b + i)) = false := decide_eq_false fun w => by
          have := hl.min _ _ h1 ((ring_iff hp per h1 hd).mp w)
          omega
        rw [e5, Bool.and_false]
      · rw [decide_eq_false z, Bool.false_and])
    generalize (rgD 1 p).filter (fun d => ringB f b p (toI d).toNat) = xs at e0
    repeat infer_instance
    refine ⟨_, idx_lst (i := 0) rfl e0, ?_⟩
    repeat infer_instance
    refine ws_whl (fun j ρ o' => o = o' ∧ ∃ c : Nat, c = j + b' ∧ c ≤ b ∧ Per f c p' ∧ ρ = [.val (.lst (flg f m)), .val (.int (c : Int)), .val (.int (p : Int)), .val (.lst (flg (fun i => f (b + i)) p)), .val (.int (p' : Int)), .val (.lst xs), .none]) (m := b - b') ⟨rfl, b, by omega, by omega, hper, rfl⟩ (by omega) ?_
    rintro j ρ o' ⟨rfl, c, hc, hcb, hcp, rfl⟩
    have tail : WSs (cf T L k) (cc T L k) T.con T.isa L (.cons s__law_least_9 .nil) [.val (.lst (flg f m)), .val (.int (b' : Int)), .val (.int (p : Int)), .val (.lst (flg (fun i => f (b + i)) p)), .val (.int (p' : Int)), .val (.lst xs), .none] o (fun ρ o' => fD b' p' f = .non ∧ o' = o) (fun d o' => d = fD b' p' f ∧ o' = o) := by
      repeat infer_instance
      refine we_comp (f := fun d => d) (p := fun d => f (toI d).toNat) ?_
      repeat infer_instance
      refine ⟨_, b' + p', rfl, (Int.natCast_add _ _).symm, by omega, ?_⟩
      refine ⟨fun d hd => ?_, by rw [rgD_len]; exact ten (by omega), ?_⟩
      · obtain ⟨i, hi, rfl⟩ := rg_mem hd
        refine ⟨_, rfl, ?_, fun _ => ?_⟩
        · repeat infer_instance
          refine ⟨_, idx_lst (i := i) rfl (flg_get (by omega)), ?_⟩
          repeat infer_instance
          exact ⟨rfl, rfl⟩
        · repeat infer_instance
          exact ⟨rfl, rfl⟩
      · rw [List.map_id']
        have e : (rgD 0 (b' + p')).filter (fun d => f (toI d).toNat) = nT (dys f (b' + p')) := by
          unfold rgD nT dys
          rw [← List.range_eq_range', List.filter_map]
          rfl
        rw [e]
        repeat infer_instance
        exact ⟨rfl, rfl⟩
    repeat infer_instance
    refine ⟨fun hc' => ?_, fun hc' => ?_⟩
    · have hc0 := of_decide_eq_true hc'
      have hc1 : 0 < c := by omega
      repeat infer_instance
      refine ⟨_, idx_lst (i := c - 1) (by omega) (flg_get (by omega)), ?_⟩
      repeat infer_instance
      refine ⟨_, idx_lst (i := c - 1 + p') (by omega) (flg_get (by omega)), ?_⟩
      repeat infer_instance
      refine ⟨_, cmp_eq (eqBl _ _), ?_⟩
      repeat infer_instance
      refine ⟨fun q => ?_, fun q => ?_⟩
      · have q := eq_of_beq q
        have hp1 : Per f (c - 1) p' := per_back1 (by rw [Nat.sub_add_cancel hc1]; exact hcp) q
        have := hl.low _ hp1
        refine ⟨j - 1, by omega, ?_⟩
        repeat infer_instance
        exact ⟨rfl, c - 1, by omega, by omega, hp1, by rw [show ((c - 1 : Nat) : Int) = (c : Int) - 1 by omega]; rfl⟩
      · have e : c = b' := Nat.le_antisymm (Nat.le_of_not_lt fun l => by
          have h8 := hl.per (c - 1) (by omega)
          rw [h8, beq_self_eq_true] at q
          cases q) (by omega)
        subst e
        exact tail
    · have hc0 := of_decide_eq_false hc'
      have e : c = b' := by omega
      subst e
      refine ⟨_, rfl, if_f tail⟩
end
end Lib

set_option maxHeartbeats 2000000
/-! Lu: what is no form. -/
namespace Lib
open PySem Ev
local macro_rules | `(tactic| infer_instance) => `(tactic| first
  | refine wss_cons ?_
  | refine wss_nil ?_
  | refine ws_set ?_
  | refine ws_setOwn ?_
  | refine ws_par ?_
  | refine ws_parO ?_
  | refine ws_expr ?_
  | refine ws_ret ?_
  | refine ws_retN ?_
  | refine ws_retObj ?_
  | refine ws_ife ?_
  | refine ws_append rfl ?_
  | refine ws_extend rfl ?_
  | refine ws_put rfl ?_
  | refine ws_putO rfl ?_
  | refine ws_aug rfl ?_
  | refine ws_frz ?_
  | refine ws_pass ?_
  | refine ws_newDic ?_
  | refine we_var rfl ?_
  | refine we_bor rfl ?_
  | refine we_int ?_
  | refine we_bl ?_
  | refine we_non ?_
  | refine we_str ?_
  | refine we_tup ?_
  | refine we_lst ?_
  | refine we_dnew ?_
  | refine we_bin ?_
  | refine we_neg ?_
  | refine we_not ?_
  | refine we_and ?_
  | refine we_or ?_
  | refine we_cmp ?_
  | refine we_chain ?_
  | refine we_ite ?_
  | refine we_slc ?_
  | refine we_idx ?_
  | refine we_glob (by assumption) ?_
  | refine we_gin (by assumption) ?_
  | refine we_gidx (by assumption) ?_
  | refine we_gget (by assumption) ?_
  | refine we_call ?_
  | refine we_callv rfl ?_
  | refine we_bif ?_
  | refine we_isi ?_
  | refine we_rev ?_
  | refine weo_none ?_
  | refine weo_some ?_
  | refine wes_nil ?_
  | refine wes_cons ?_
  | refine was_nil ?_
  | refine was_val ?_
  | refine was_lam rfl ?_
  | refine wc_none ?_
  | refine wc_some ?_
  | refine wr_seq ?_
  | refine wr_zip ?_
  | refine wr_enum ?_
  | refine wr_rng1 ?_
  | refine wr_rng2 ?_
  | refine And.intro (Nat.le_of_ble_eq_true rfl) ?_
  | refine Exists.intro _ (And.intro rfl ?_)
  | refine Exists.intro _ (And.intro (Or.inl rfl) ?_)
  | refine Exists.intro _ (And.intro (Or.inr rfl) ?_)
  | refine Exists.intro _ (Exists.intro _ (And.intro (Or.inl (And.intro rfl rfl)) ?_))
  | refine Exists.intro _ (And.intro (Or.inr (Or.inl rfl)) ?_)
  | with_reducible refine if_t ?_
  | with_reducible refine if_f ?_
  | with_reducible refine if_nt ?_
  | with_reducible refine if_nf ?_
  | with_reducible refine if_n ?_
  | with_reducible refine g_add ?_
  | with_reducible refine g_sub ?_
  | with_reducible refine g_neg ?_
  | with_reducible refine g_lt ?_
  | with_reducible refine g_le ?_
  | with_reducible refine g_gt ?_
  | with_reducible refine g_ge ?_
  | with_reducible refine g_eqI ?_
  | with_reducible refine g_neI ?_
  | with_reducible refine g_lenf ?_
  | with_reducible refine g_lenfT ?_
  | with_reducible refine g_lenT0 ?_
  | with_reducible refine g_lenT1 ?_
  | with_reducible refine g_lenT2 ?_
  | with_reducible refine g_lenT3 ?_
  | with_reducible refine g_lenT4 ?_
  | with_reducible refine g_len ?_
  | with_reducible refine g_lenT ?_
  | with_reducible refine g_idx0 ?_
  | with_reducible refine g_idx1 ?_
  | with_reducible refine g_idx2 ?_
  | with_reducible refine g_isnB ?_
  | with_reducible refine g_isB ?_
  | ((with_reducible apply g_idx); exact rfl)
  | ((with_reducible apply g_bif); exact rfl)
  | ((with_reducible apply g_eqS); (· decide +kernel); (· decide +kernel))
  | ((with_reducible apply g_neS); (· decide +kernel); (· decide +kernel))
  | ((with_reducible apply g_in); assumption)
  | ((with_reducible apply g_in); exact rfl)
  | refine if_eqt (by decide +kernel) ?_
  | refine if_eqf (by decide +kernel) ?_
  | fail)
structure BadF (d : D) : Prop where
  q : nQ d = true
  s : sm1 d = true
  f : formB d = false
theorem fB3 {a b c : D} (h : wi a 0 20000 = false ∨ wi b 1 20000 = false ∨ decide (toI a + toI b ≤ 20000) = false ∨ lotB c (toI a + toI b) = false) : formB (.tup [a, b, c]) = false := by
  show ((wi a 0 20000 && wi b 1 20000) && (decide (toI a + toI b ≤ 20000) && lotB c (toI a + toI b))) = false
  rcases h with h | h | h | h
  · rw [h, Bool.false_and, Bool.false_and]
  · rw [h, Bool.and_false, Bool.false_and]
  · rw [h, Bool.false_and, Bool.and_false]
  · rw [h, Bool.and_false, Bool.and_false]
theorem wi_no {i a b : Int} (h : ¬ (a ≤ i ∧ i ≤ b)) : wi (.int i) a b = false := by
  show (decide (a ≤ i) && decide (i ≤ b)) = false
  by_cases z : a ≤ i
  · rw [decide_eq_false fun y => h ⟨z, y⟩, Bool.and_false]
  · rw [decide_eq_false z, Bool.false_and]
theorem sm1_c {d : D} {ds : List D} (h1 : smB d = true) (h2 : sm1 (.tup ds) = true) : sm1 (.tup (d :: ds)) = true := by
  show (smB d && ds.all smB) = true
  rw [h1]
  exact h2
theorem sm1_n : sm1 (.tup []) = true := rfl
theorem smB_nT {l : List Nat} (h : l.length ≤ 1000) : smB (.tup (nT l)) = true := by
  show decide ((nT l).length ≤ 1000000) = true
  rw [nT_len]
  exact decide_eq_true (by omega)
/-- what the laws take for no form -/
def bentF (b p : Int) (ds : List D) : List D := ([.tup [.int b, .int 0, .tup []], .tup [.int (-1), .int p, .tup []], .tup [.int b, .int p, .tup [.int (b + p)]], .tup [.int b, .int p, .lst ds], .non] ++ [.str "?", .tup [.int b, .int p], .lst [.int b, .int p, .tup ds], .tup [.int b, .int p, .tup [.int 1, .int 1]], .tup [.bl true, .int p, .tup []], .dct [] []]) ++
  [.tup [.int b, .int (20001 - b), .tup []], .tup [.int b, .int p, .tup [.bl true]], .tup ([.int b, .int p, .tup ds] ++ [.int 1]), .int 7, .tup [.non, .int 1, .tup []]]
theorem bentF_bad {b p : Int} {l : List Nat} (hb : 0 ≤ b) (hl : l.length ≤ 1000) : ∀ d ∈ bentF b p (nT l), BadF d := by
  have i := nQ_int
  have t0 : nQ (.tup []) = true := nQ_tup' nQs_nil
  have n3 : ∀ {a b c : D}, nQ a = true → nQ b = true → nQ c = true → nQ (.tup [a, b, c]) = true := fun h1 h2 h3 => nQ_tup' (nQs_cons h1 (nQs_cons h2 (nQs_cons h3 nQs_nil)))
  have s3 : ∀ {a b c : D}, smB a = true → smB b = true → smB c = true → sm1 (.tup [a, b, c]) = true := fun h1 h2 h3 => sm1_c h1 (sm1_c h2 (sm1_c h3 rfl))
  intro d hd
  unfold bentF at hd
  simp only [List.cons_append, List.nil_append, List.mem_cons, List.not_mem_nil, or_false] at hd
  rcases hd with rfl | rfl | rfl | rfl | rfl | rfl | rfl | rfl | rfl | rfl | rfl | rfl | rfl | rfl | rfl | rfl
  · exact ⟨n3 (i _) (i _) t0, rfl, fB3 (.inr (.inl rfl))⟩
  · exact ⟨n3 (i _) (i _) t0, rfl, fB3 (.inl rfl)⟩
  · refine ⟨n3 (i _) (i _) (nQ_tup' (nQs_cons (i _) nQs_nil)), rfl, fB3 (.inr (.inr (.inr ?_)))⟩
    show ((wi (.int (b + p)) 0 (b + p - 1) && true) && _) = false
    rw [wi_no (by omega)]
    rfl
  · exact ⟨n3 (i _) (i _) (nQ_lst' (nQs_nT l)), rfl, fB3 (.inr (.inr (.inr rfl)))⟩
  · exact ⟨nQ_non, rfl, rfl⟩
  · exact ⟨nQ_str _, rfl, rfl⟩
  · exact ⟨nQ_tup' (nQs_cons (i _) (nQs_cons (i _) nQs_nil)), rfl, rfl⟩
  · exact ⟨nQ_lst' (nQs_cons (i _) (nQs_cons (i _) (nQs_cons (nQ_tup' (nQs_nT l)) nQs_nil))), rfl, rfl⟩
  · refine ⟨n3 (i _) (i _) (nQ_tup' (nQs_cons (i _) (nQs_cons (i _) nQs_nil))), rfl, fB3 (.inr (.inr (.inr ?_)))⟩
    show (([D.int 1, .int 1].all fun d => wi d 0 (b + p - 1)) && ris [1, 1]) = false
    rw [show ris [1, 1] = false by decide, Bool.and_false]
  · exact ⟨n3 (nQ_bl _) (i _) t0, rfl, fB3 (.inl rfl)⟩
  · exact ⟨nQ_dct _ _, rfl, rfl⟩
  · refine ⟨n3 (i _) (i _) t0, rfl, fB3 (.inr (.inr (.inl (decide_eq_false ?_))))⟩
    show ¬ (b + (20001 - b) ≤ 20000)
    omega
  · exact ⟨n3 (i _) (i _) (nQ_tup' (nQs_cons (nQ_bl _) nQs_nil)), rfl, fB3 (.inr (.inr (.inr rfl)))⟩
  · exact ⟨nQ_tup' (nQs_cons (i _) (nQs_cons (i _) (nQs_cons (nQ_tup' (nQs_nT l)) (nQs_cons (i _) nQs_nil)))), sm1_c rfl (sm1_c rfl (sm1_c (smB_nT hl) rfl)), rfl⟩
  · exact ⟨i _, rfl, rfl⟩
  · exact ⟨n3 nQ_non (i _) t0, rfl, fB3 (.inl rfl)⟩
section
variable {T : Tab} {L : Nat} (B : LHand T) (h0 : T.fn "_law_bent_form" = some i__law_bent_form) variable {k n b p : Nat} {o : Objs} {f : Nat → Bool}
include B h0 in
theorem v_bent_form (hb : b + p ≤ 900) (h : Hd (n + 1) o) : ∃ (d : D) (o' : Objs), cf T L (k + 3) "_law_bent_form" [.val (.obj 0), .val (fD b p f)] o = .ok d o' ∧ BadF d ∧ Hd n o' := by
  obtain ⟨d, o', h1, _, h2⟩ := cf_w (T := T) (L := L) (k := k + 2) (o := o) (sl := [.val (.obj 0), .val (fD b p f)]) (P := fun d o' => BadF d ∧ Hd n o') h0 rfl (by
    repeat infer_instance
    refine ⟨_, bin_lst (Nat.le_of_ble_eq_true rfl), ?_⟩
    repeat infer_instance
    refine g_addt (Nat.le_of_ble_eq_true rfl) ?_
    repeat infer_instance
    refine ⟨_, bin_lst (Nat.le_of_ble_eq_true rfl), ?_⟩
    repeat infer_instance
    obtain ⟨x1, o1, z1, m1, d1⟩ := v_any (T := T) (L := L) (k := k) B (n := n) (ds := bentF (b : Int) (p : Int) (nT (dys f (b + p)))) h (Nat.le_of_ble_eq_true rfl) (Nat.le_of_ble_eq_true rfl)
    refine ⟨_, _, z1, ?_⟩
    exact ⟨by rw [h.len, d1.len], bentF_bad (by omega) (by have := dys_len (f := f) (n := b + p); omega) _ m1, d1⟩)
  exact ⟨d, o', h1, h2⟩
end
end Lib

set_option maxHeartbeats 2000000
/-! Ma: calendars, in plain Lean: days of years, of months; dates. -/
namespace Lib
open PySem Ev
section
variable {c : Cal} {y : Int}
def mlen (c : Cal) (y : Int) (i : Nat) : Int := c.ms.getD i 0 + if ((i : Int) = c.mo) ∧ lpB c y = true then c.mr else 0
theorem sum_bd : ∀ {l : List Int}, (∀ m ∈ l, 1 ≤ m ∧ m ≤ 31) → 0 ≤ l.sum ∧ l.sum ≤ 31 * l.length
  | [], _ => by simp
  | a :: l, h => by
    have h1 := h a List.mem_cons_self
    have h2 := sum_bd fun m hm => h m (List.mem_cons_of_mem _ hm)
    rw [List.sum_cons, List.length_cons]
    omega
def cyd (c : Cal) : Int := c.cy * c.ms.sum + c.ls.length * c.mr
theorem Cal.Ok.sum (C : c.Ok) : 0 ≤ c.ms.sum ∧ c.ms.sum ≤ 124 := by
  have z := sum_bd C.mm
  have := C.m2
  omega
theorem cyd_bd (C : c.Ok) : 0 ≤ cyd c ∧ cyd c ≤ 4000 := by
  unfold cyd
  have z := C.sum
  have h1 := C.c1
  have h2 := C.c2
  have h3 := C.ln
  have h4 := C.r1
  have h5 := C.r2
  have a1 : 0 ≤ c.cy * c.ms.sum := Int.mul_nonneg (by omega) z.1
  have a2 : c.cy * c.ms.sum ≤ 28 * 124 := Int.mul_le_mul h2 z.2 z.1 (by omega)
  have b1 : 0 ≤ (c.ls.length : Int) * c.mr := Int.mul_nonneg (by omega) (by omega)
  have b2 : (c.ls.length : Int) * c.mr ≤ 28 * 3 := Int.mul_le_mul (by omega) h5 (by omega) (by omega)
  omega
def leaps (c : Cal) (r : Int) : Int := (c.ls.filter fun l => decide (l < r)).length
def ybg (c : Cal) (y : Int) : Int := y / c.cy * cyd c + y % c.cy * c.ms.sum + leaps c (y % c.cy) * c.mr
def yd (c : Cal) (y : Int) : Int := c.ms.sum + if lpB c y then c.mr else 0
def mbg (c : Cal) (y : Int) (i : Nat) : Int := ybg c y + ((List.range i).map fun j => mlen c y j).sum
theorem sum_add {α : Type} (f g : α → Int) : ∀ l : List α, (l.map fun a => f a + g a).sum = (l.map f).sum + (l.map g).sum
  | [] => rfl
  | a :: l => by
    have z := sum_add f g l
    simp only [List.map_cons, List.sum_cons]
    omega
theorem range_getD (l : List Int) : ((List.range l.length).map fun i => l.getD i 0) = l := by
  refine List.ext_getElem (by simp) fun i h1 h2 => ?_
  simp [List.getD, h2]
theorem sum_one (mo r : Int) (b : Bool) (h : 0 ≤ mo) : ∀ n : Nat, ((List.range n).map fun (i : Nat) => if ((i : Int) = mo) ∧ b = true then r else 0).sum = if mo < n ∧ b = true then r else 0
  | 0 => by
    have : ¬ (mo < ((0 : Nat) : Int) ∧ b = true) := fun z => by omega
    rw [if_neg this]
    rfl
  | n + 1 => by
    have z := sum_one mo r b h n
    rw [List.range_succ, List.map_append, List.sum_append, z]
    simp only [List.map_cons, List.map_nil, List.sum_cons, List.sum_nil]
    cases b with
    | false => simp
    | true =>
      by_cases q : (n : Int) = mo
      · rw [if_neg (fun z => by omega), if_pos ⟨q, rfl⟩, if_pos ⟨by omega, rfl⟩]
        omega
      · by_cases q2 : mo < (n : Int)
        · rw [if_pos ⟨q2, rfl⟩, if_neg (fun z => q z.1), if_pos ⟨by omega, rfl⟩]
          omega
        · rw [if_neg (fun z => q2 z.1), if_neg (fun z => q z.1), if_neg (fun z => by omega)]
          omega
def lens (c : Cal) (y : Int) : List Int := (List.range c.ms.length).map (mlen c y)
theorem sum_lens (C : c.Ok) : (lens c y).sum = yd c y := by
  have e : lens c y = (List.range c.ms.length).map fun i => c.ms.getD i 0 + if ((i : Int) = c.mo) ∧ lpB c y = true then c.mr else 0 := rfl
  rw [e, sum_add, range_getD, sum_one c.mo c.mr (lpB c y) C.o1]
  unfold yd
  cases q : lpB c y with
  | true => rw [if_pos ⟨C.o2, rfl⟩, if_pos rfl]
  | false => rw [if_neg (fun z => by simp at z), if_neg (fun z => by simp at z)]
theorem ris_pw : ∀ {l : List Int}, ris l = true → l.Pairwise (· < ·)
  | [], _ => List.Pairwise.nil
  | [a], _ => List.pairwise_singleton _ _
  | a :: b :: t, h => by
    have h : (decide (a < b) && ris (b :: t)) = true := h
    rw [Bool.and_eq_true, decide_eq_true_eq] at h
    have z := ris_pw h.2
    refine List.pairwise_cons.mpr ⟨fun x hx => ?_, z⟩
    rcases List.mem_cons.mp hx with rfl | hx
    · exact h.1
    · exact Int.lt_trans h.1 ((List.pairwise_cons.mp z).1 x hx)
theorem cnt_succ (r : Int) : ∀ {l : List Int}, l.Pairwise (· < ·) → (((l.filter fun x => decide (x < r + 1)).length : Nat) : Int) = ((l.filter fun x => decide (x < r)).length : Nat) + if decide (r ∈ l) = true then 1 else 0
  | [], _ => rfl
  | a :: t, h => by
    have ha := (List.pairwise_cons.mp h).1
    have ih := cnt_succ r (List.pairwise_cons.mp h).2
    by_cases q1 : a < r
    · have e1 : decide (r ∈ a :: t) = decide (r ∈ t) := by
        rw [Bool.eq_iff_iff, decide_eq_true_eq, decide_eq_true_eq, List.mem_cons]
        exact ⟨fun z => z.resolve_left (by omega), Or.inr⟩
      rw [List.filter_cons_of_pos (p := fun x => decide (x < r + 1)) (decide_eq_true (show a < r + 1 by omega)), List.filter_cons_of_pos (p := fun x => decide (x < r)) (decide_eq_true q1), List.length_cons, List.length_cons, e1]
      omega
    · have hn : r ∉ t := fun z => by
        have := ha r z
        omega
      rw [if_neg (by rw [decide_eq_true_eq]; exact hn)] at ih
      by_cases q2 : a = r
      · subst q2
        rw [List.filter_cons_of_pos (p := fun x => decide (x < a + 1)) (decide_eq_true (show a < a + 1 by omega)), List.filter_cons_of_neg (p := fun x => decide (x < a)) (by rw [decide_eq_true_eq]; omega), List.length_cons, if_pos (decide_eq_true List.mem_cons_self)]
        omega
      · have hn2 : r ∉ a :: t := fun z => by
          rcases List.mem_cons.mp z with z | z
          · omega
          · exact hn z
        rw [List.filter_cons_of_neg (p := fun x => decide (x < r + 1)) (by rw [decide_eq_true_eq]; omega), List.filter_cons_of_neg (p := fun x => decide (x < r)) (by rw [decide_eq_true_eq]; omega), if_neg (by rw [decide_eq_true_eq]; exact hn2)]
        omega
theorem leaps_succ (C : c.Ok) (r : Int) : leaps c (r + 1) = leaps c r + if decide (r ∈ c.ls) = true then 1 else 0 := cnt_succ r (ris_pw C.lr)
theorem leaps_0 (C : c.Ok) : leaps c 0 = 0 := by
  unfold leaps
  rw [List.filter_eq_nil_iff.mpr fun l hl => by have := C.ll l hl; rw [decide_eq_true_eq]; omega]
  rfl
theorem leaps_all (C : c.Ok) : leaps c c.cy = c.ls.length := by
  unfold leaps
  rw [List.filter_eq_self.mpr fun l hl => decide_eq_true (C.ll l hl).2]
theorem ybg_0 (C : c.Ok) : ybg c 0 = 0 := by
  unfold ybg
  rw [Int.zero_ediv, Int.zero_emod, leaps_0 C]
  omega
theorem ybg_succ (C : c.Ok) (h0 : 0 ≤ y) : ybg c (y + 1) = ybg c y + yd c y := by
  have hp : 0 < c.cy := by
    have := C.c1
    omega
  have r1 := Int.emod_nonneg y (show c.cy ≠ 0 by omega)
  have r2 := Int.emod_lt_of_pos y hp
  have e := Int.mul_ediv_add_emod y c.cy
  unfold ybg yd lpB
  generalize y % c.cy = r at *
  generalize y / c.cy = q at *
  have ls := leaps_succ C r
  have m1 : (leaps c r + 1) * c.mr = leaps c r * c.mr + c.mr := by rw [Int.add_mul, Int.one_mul]
  by_cases w : r + 1 < c.cy
  · obtain ⟨e1, e2⟩ := (Int.ediv_emod_unique hp (a := y + 1) (q := q) (r := r + 1)).mpr ⟨by omega, by omega, w⟩
    rw [e1, e2, ls]
    have m2 : (r + 1) * c.ms.sum = r * c.ms.sum + c.ms.sum := by rw [Int.add_mul, Int.one_mul]
    cases decide (r ∈ c.ls) with
    | true =>
      rw [if_pos rfl, if_pos rfl, m1, m2]
      omega
    | false =>
      rw [if_neg Bool.false_ne_true, if_neg Bool.false_ne_true, m2, Int.add_zero]
      omega
  · have w : r + 1 = c.cy := by omega
    have m4 : c.cy * (q + 1) = c.cy * q + c.cy := by rw [Int.mul_add, Int.mul_one]
    obtain ⟨e1, e2⟩ := (Int.ediv_emod_unique hp (a := y + 1) (q := q + 1) (r := 0)).mpr ⟨by omega, by omega, hp⟩
    have la := leaps_all C
    rw [← w, ls] at la
    have m2 : (r + 1) * c.ms.sum = r * c.ms.sum + c.ms.sum := by rw [Int.add_mul, Int.one_mul]
    have m3 : (q + 1) * cyd c = q * cyd c + cyd c := by rw [Int.add_mul, Int.one_mul]
    have e3 : cyd c = (r + 1) * c.ms.sum + (c.ls.length : Int) * c.mr := by
      unfold cyd
      rw [w]
    rw [e1, e2, leaps_0 C, m3, Int.zero_mul, Int.zero_mul]
    rw [← la] at e3
    cases q2 : decide (r ∈ c.ls) with
    | true =>
      rw [q2, if_pos rfl, m1, m2] at e3
      rw [if_pos rfl]
      omega
    | false =>
      rw [q2, if_neg Bool.false_ne_true, m2, Int.add_zero] at e3
      rw [if_neg Bool.false_ne_true]
      omega
theorem ybg_cy (C : c.Ok) : ybg c c.cy = cyd c := by
  have := C.c1
  unfold ybg
  rw [Int.ediv_self (by omega), Int.emod_self, leaps_0 C]
  omega
theorem mbg_0 : mbg c y 0 = ybg c y := by
  unfold mbg
  show ybg c y + 0 = _
  omega
theorem mbg_end (C : c.Ok) (h0 : 0 ≤ y) : mbg c y c.ms.length = ybg c (y + 1) := by
  rw [ybg_succ C h0, ← sum_lens C]
  rfl
theorem mbg_succ (i : Nat) : mbg c y (i + 1) = mbg c y i + mlen c y i := by
  unfold mbg
  rw [List.range_succ, List.map_append, List.sum_append]
  simp only [List.map_cons, List.map_nil, List.sum_cons, List.sum_nil]
  omega
/-! ### dates -/
theorem mlen_pos (C : c.Ok) {i : Nat} (hi : i < c.ms.length) : 1 ≤ mlen c y i ∧ mlen c y i ≤ 34 := by
  have h := C.mm (c.ms.getD i 0) (by rw [List.getD_eq_getElem?_getD, List.getElem?_eq_getElem hi]; exact List.getElem_mem hi)
  have h1 := C.r1
  have h2 := C.r2
  unfold mlen
  split <;> omega
theorem yd_pos (C : c.Ok) : 1 ≤ yd c y ∧ yd c y ≤ 127 := by
  have h1 := C.r1
  have h2 := C.r2
  have h3 := C.sum
  have h4 : 1 ≤ c.ms.sum := by
    have hm := C.m1
    have mm := C.mm
    cases e : c.ms with
    | nil => rw [e] at hm; exact absurd hm (by decide)
    | cons a l =>
      rw [e] at mm
      have ha := mm a List.mem_cons_self
      have hl := sum_bd fun m hm => mm m (List.mem_cons_of_mem _ hm)
      rw [List.sum_cons]
      omega
  unfold yd
  split <;> omega
theorem ybg_mono (C : c.Ok) (h0 : 0 ≤ y) : ∀ k : Nat, ybg c y + k ≤ ybg c (y + k)
  | 0 => by rw [Int.natCast_zero, Int.add_zero, Int.add_zero]; exact Int.le_refl _
  | k + 1 => by
    have ih := ybg_mono C h0 k
    have e := ybg_succ C (y := y + k) (by omega)
    have p := yd_pos C (y := y + k)
    rw [show y + ((k + 1 : Nat) : Int) = y + (k : Int) + 1 by omega, e]
    omega
theorem ybg_le (C : c.Ok) {z : Int} (h0 : 0 ≤ y) (h : y ≤ z) : ybg c y ≤ ybg c z := by
  have := ybg_mono C h0 (z - y).toNat
  rw [show y + ((z - y).toNat : Int) = z by omega] at this
  omega
theorem mbg_mono (C : c.Ok) {i : Nat} : ∀ k : Nat, i + k ≤ c.ms.length → mbg c y i ≤ mbg c y (i + k)
  | 0, _ => Int.le_refl _
  | k + 1, h => by
    have ih := mbg_mono C (i := i) k (by omega)
    have e : mbg c y (i + (k + 1)) = mbg c y (i + k) + mlen c y (i + k) := mbg_succ (i + k)
    have p := mlen_pos C (y := y) (i := i + k) (by omega)
    omega
theorem mbg_le (C : c.Ok) {i j : Nat} (h : i ≤ j) (hj : j ≤ c.ms.length) : mbg c y i ≤ mbg c y j := by
  have := mbg_mono C (y := y) (i := i) (j - i) (by omega)
  rwa [show i + (j - i) = j by omega] at this
/-- the date of a day -/
structure IsDt (c : Cal) (n y : Int) (i : Nat) (d : Int) : Prop where
  y0 : 0 ≤ y
  hi : i < c.ms.length
  d1 : 1 ≤ d
  d2 : d ≤ mlen c y i
  e : mbg c y i + d - 1 = n
variable {n : Int} {i : Nat} {d : Int}
theorem IsDt.mb (h : IsDt c n y i d) : mbg c y i ≤ n ∧ n < mbg c y (i + 1) := by
  have := h.d1
  have := h.d2
  have := h.e
  have e : mbg c y (i + 1) = mbg c y i + mlen c y i := mbg_succ i
  omega
theorem IsDt.yb (C : c.Ok) (h : IsDt c n y i d) : ybg c y ≤ n ∧ n < ybg c (y + 1) := by
  have h1 := h.mb
  have h2 := mbg_le C (y := y) (Nat.zero_le i) (Nat.le_of_lt h.hi)
  have h3 := mbg_le C (y := y) (i := i + 1) (j := c.ms.length) h.hi (Nat.le_refl _)
  rw [mbg_0] at h2
  rw [mbg_end C h.y0] at h3
  omega
theorem IsDt.unique (C : c.Ok) {y' d' : Int} {i' : Nat} (h : IsDt c n y i d) (g : IsDt c n y' i' d') : y = y' ∧ i = i' ∧ d = d' := by
  have a := h.yb C
  have b := g.yb C
  have ey : y = y' := by
    rcases Int.lt_trichotomy y y' with z | z | z
    · have := ybg_le C (y := y + 1) (z := y') (by have := h.y0; omega) (by omega)
      omega
    · exact z
    · have := ybg_le C (y := y' + 1) (z := y) (by have := g.y0; omega) (by omega)
      omega
  subst ey
  have a := h.mb
  have b := g.mb
  have ei : i = i' := by
    rcases Nat.lt_trichotomy i i' with z | z | z
    · have := mbg_le C (y := y) (i := i + 1) (j := i') z (Nat.le_of_lt g.hi)
      omega
    · exact z
    · have := mbg_le C (y := y) (i := i' + 1) (j := i) z (Nat.le_of_lt h.hi)
      omega
  subst ei
  have := h.e
  have := g.e
  exact ⟨rfl, rfl, by omega⟩
theorem IsDt.pos (C : c.Ok) (h : IsDt c n y i d) : 0 ≤ n := by
  have := (h.yb C).1
  have z := ybg_le C (y := 0) (z := y) (Int.le_refl _) h.y0
  rw [ybg_0 C] at z
  omega
theorem dt_ex (C : c.Ok) (h0 : 0 ≤ n) : ∃ (y : Int) (i : Nat) (d : Int), IsDt c n y i d := by
  have e1 : ∃ k : Nat, n < ybg c (k : Int) := by
    refine ⟨n.toNat + 1, ?_⟩
    have := ybg_mono C (y := 0) (Int.le_refl _) (n.toNat + 1)
    rw [ybg_0 C] at this
    rw [Int.zero_add] at this
    omega
  obtain ⟨k, hk, hm⟩ := exists_min e1
  have kp : 0 < k := by
    rcases Nat.eq_zero_or_pos k with z | z
    · rw [z] at hk
      have := ybg_0 C
      rw [Int.natCast_zero] at hk
      omega
    · exact z
  obtain ⟨y, hy⟩ : ∃ y : Int, y = (k : Int) - 1 := ⟨_, rfl⟩
  have y0 : 0 ≤ y := by omega
  have b1 : ybg c y ≤ n := by
    refine Int.not_lt.mp fun z => ?_
    have := hm (k - 1) (by rw [show ((k - 1 : Nat) : Int) = y by omega]; exact z)
    omega
  have b2 : n < ybg c (y + 1) := by
    rw [show y + 1 = (k : Int) by omega]
    exact hk
  have e2 : ∃ i : Nat, n < mbg c y (i + 1) := ⟨c.ms.length - 1, by
    have := C.m1
    rw [show c.ms.length - 1 + 1 = c.ms.length by omega, mbg_end C y0]
    exact b2⟩
  obtain ⟨i, hi, hm2⟩ := exists_min e2
  have hil : i < c.ms.length := by
    have := C.m1
    have := hm2 (c.ms.length - 1) (by rw [show c.ms.length - 1 + 1 = c.ms.length by omega, mbg_end C y0]; exact b2)
    omega
  have b3 : mbg c y i ≤ n := by
    cases i with
    | zero =>
      rw [mbg_0]
      exact b1
    | succ i =>
      refine Int.not_lt.mp fun z => ?_
      have := hm2 i z
      omega
  have e3 : mbg c y (i + 1) = mbg c y i + mlen c y i := mbg_succ i
  exact ⟨y, i, n - mbg c y i + 1, y0, hil, by omega, by omega, by omega⟩
open Classical in
/-- the date of a day -/
noncomputable def dt (c : Cal) (n : Int) : Int × Nat × Int := if h : ∃ t : Int × Nat × Int, IsDt c n t.1 t.2.1 t.2.2 then h.choose else (0, 0, 0)
theorem dt_eq (C : c.Ok) (h : IsDt c n y i d) : dt c n = (y, i, d) := by
  have e : ∃ t : Int × Nat × Int, IsDt c n t.1 t.2.1 t.2.2 := ⟨(y, i, d), h⟩
  unfold dt
  rw [dif_pos e]
  obtain ⟨h1, h2, h3⟩ := e.choose_spec.unique C h
  exact Prod.ext h1 (Prod.ext h2 h3)
theorem dt_is (C : c.Ok) (h0 : 0 ≤ n) : IsDt c n (dt c n).1 (dt c n).2.1 (dt c n).2.2 := by
  obtain ⟨y, i, d, h⟩ := dt_ex C h0
  rw [dt_eq C h]
  exact h
/-! whole cycles later -/
theorem mod_cy (C : c.Ok) (q : Int) : (y + q * c.cy) % c.cy = y % c.cy ∧ (y + q * c.cy) / c.cy = y / c.cy + q := by
  have h := C.c1
  exact ⟨Int.add_mul_emod_self_right _ _ _, Int.add_mul_ediv_right _ _ (by omega)⟩
theorem lpB_cy (C : c.Ok) (q : Int) : lpB c (y + q * c.cy) = lpB c y := by
  unfold lpB
  rw [(mod_cy C q).1]
theorem mlen_cy (C : c.Ok) (q : Int) (i : Nat) : mlen c (y + q * c.cy) i = mlen c y i := by
  unfold mlen
  rw [lpB_cy C q]
theorem ybg_cyc (C : c.Ok) (q : Int) : ybg c (y + q * c.cy) = ybg c y + q * cyd c := by
  unfold ybg
  rw [(mod_cy C q).1, (mod_cy C q).2, Int.add_mul]
  omega
theorem mbg_cy (C : c.Ok) (q : Int) (i : Nat) : mbg c (y + q * c.cy) i = mbg c y i + q * cyd c := by
  unfold mbg
  rw [ybg_cyc C q]
  have e : (fun j => mlen c (y + q * c.cy) j) = fun j => mlen c y j := funext fun j => mlen_cy C q j
  rw [e]
  omega
theorem IsDt.later (C : c.Ok) {q : Int} (hq : 0 ≤ q) (h : IsDt c n y i d) : IsDt c (n + q * cyd c) (y + q * c.cy) i d := by
  have h1 := C.c1
  have := Int.mul_nonneg hq (show 0 ≤ c.cy by omega)
  exact ⟨by have := h.y0; omega, h.hi, h.d1, by rw [mlen_cy C q]; exact h.d2, by rw [mbg_cy C q]; have := h.e; omega⟩
theorem cyd_pos (C : c.Ok) : 1 ≤ cyd c := by
  have h := C.c1
  have z := ybg_mono C (y := 0) (Int.le_refl _) c.cy.toNat
  rw [ybg_0 C, show (0 : Int) + (c.cy.toNat : Int) = c.cy by omega, ybg_cy C] at z
  omega
end
end Lib

set_option maxHeartbeats 2000000
/-! Lv: the date of a day. -/
namespace Lib
open PySem Ev
local macro_rules | `(tactic| infer_instance) => `(tactic| first
  | refine wss_cons ?_
  | refine wss_nil ?_
  | refine ws_set ?_
  | refine ws_setOwn ?_
  | refine ws_par ?_
  | refine ws_parO ?_
  | refine ws_expr ?_
  | refine ws_ret ?_
  | refine ws_retN ?_
  | refine ws_retObj ?_
  | refine ws_ife ?_
  | refine ws_append rfl ?_
  | refine ws_extend rfl ?_
  | refine ws_put rfl ?_
  | refine ws_putO rfl ?_
  | refine ws_aug rfl ?_
  | refine ws_frz ?_
  | refine ws_pass ?_
  | refine ws_newDic ?_
  | refine we_var rfl ?_
  | refine we_bor rfl ?_
  | refine we_int ?_
  | refine we_bl ?_
  | refine we_non ?_
  | refine we_str ?_
  | refine we_tup ?_
  | refine we_lst ?_
  | refine we_dnew ?_
  | refine we_bin ?_
  | refine we_neg ?_
  | refine we_not ?_
  | refine we_and ?_
  | refine we_or ?_
  | refine we_cmp ?_
  | refine we_chain ?_
  | refine we_ite ?_
  | refine we_slc ?_
  | refine we_idx ?_
  | refine we_glob (by assumption) ?_
  | refine we_gin (by assumption) ?_
  | refine we_gidx (by assumption) ?_
  | refine we_gget (by assumption) ?_
  | refine we_call ?_
  | refine we_callv rfl ?_
  | refine we_bif ?_
  | refine we_isi ?_
  | refine we_rev ?_
  | refine weo_none ?_
  | refine weo_some ?_
  | refine wes_nil ?_
  | refine wes_cons ?_
  | refine was_nil ?_
  | refine was_val ?_
  | refine was_lam rfl ?_
  | refine wc_none ?_
  | refine wc_some ?_
  | refine wr_seq ?_
  | refine wr_zip ?_
  | refine wr_enum ?_
  | refine wr_rng1 ?_
  | refine wr_rng2 ?_
  | refine And.intro (Nat.le_of_ble_eq_true rfl) ?_
  | refine Exists.intro _ (And.intro rfl ?_)
  | refine Exists.intro _ (And.intro (Or.inl rfl) ?_)
  | refine Exists.intro _ (And.intro (Or.inr rfl) ?_)
  | refine Exists.intro _ (Exists.intro _ (And.intro (Or.inl (And.intro rfl rfl)) ?_))
  | refine Exists.intro _ (And.intro (Or.inr (Or.inl rfl)) ?_)
  | with_reducible refine if_t ?_
  | with_reducible refine if_f ?_
  | with_reducible refine if_nt ?_
  | with_reducible refine if_nf ?_
  | with_reducible refine if_n ?_
  | with_reducible refine g_add ?_
  | with_reducible refine g_sub ?_
  | with_reducible refine g_neg ?_
  | with_reducible refine g_lt ?_
  | with_reducible refine g_le ?_
  | with_reducible refine g_gt ?_
  | with_reducible refine g_ge ?_
  | with_reducible refine g_eqI ?_
  | with_reducible refine g_neI ?_
  | with_reducible refine g_lenf ?_
  | with_reducible refine g_lenfT ?_
  | with_reducible refine g_lenT0 ?_
  | with_reducible refine g_lenT1 ?_
  | with_reducible refine g_lenT2 ?_
  | with_reducible refine g_lenT3 ?_
  | with_reducible refine g_lenT4 ?_
  | with_reducible refine g_len ?_
  | with_reducible refine g_lenT ?_
  | with_reducible refine g_idx0 ?_
  | with_reducible refine g_idx1 ?_
  | with_reducible refine g_idx2 ?_
  | with_reducible refine g_isnB ?_
  | with_reducible refine g_isB ?_
  | ((with_reducible apply g_idx); exact rfl)
  | ((with_reducible apply g_bif); exact rfl)
  | ((with_reducible apply g_eqS); (· decide +kernel); (· decide +kernel))
  | ((with_reducible apply g_neS); (· decide +kernel); (· decide +kernel))
  | ((with_reducible apply g_in); assumption)
  | ((with_reducible apply g_in); exact rfl)
  | refine if_eqt (by decide +kernel) ?_
  | refine if_eqf (by decide +kernel) ?_
  | fail)
structure LDate (T : Tab) : Prop extends LRaw T where
  raw_date : T.fn "raw_date" = some i_raw_date
  raw_ahead : T.fn "raw_ahead" = some i_raw_ahead
section
variable {T : Tab} {L : Nat} (hL : 100001 ≤ L) (A : LDate T) variable {k : Nat} {o : Objs} {c : Cal} {y n d x : Int} {i : Nat}
theorem at_ms {l : List Int} (hx : x = (i : Int)) (h : i < l.length) : idxD (iT l) (.int x) = some (.int (l.getD i 0)) := by
  subst hx
  show L2.atI (l.map D.int) (i : Int) = _
  refine atI_c ?_
  rw [List.getElem?_map, List.getElem?_eq_getElem h, List.getD_eq_getElem?_getD, List.getElem?_eq_getElem h]
  rfl
include A in
theorem v_raw_month_days (C : c.Ok) (hx : x = (i : Int)) (hi : i < c.ms.length) : cf T L (k + 2) "raw_month_days" [.val c.d, .val (.int y), .val (.int x)] o = .ok (.int (mlen c y i)) o := by
  refine cf_p A.raw_month_days rfl ?_
  repeat infer_instance
  have e0 : (x = c.mo) ↔ ((i : Int) = c.mo) := by rw [hx]
  refine ⟨fun z => ?_, fun z => ?_⟩
  · have z := of_decide_eq_true z
    repeat infer_instance
    refine ⟨_, _, v_raw_is_leap A.toLRaw C, ?_⟩
    cases q : lpB c y with
    | true =>
      repeat infer_instance
      have em : mlen c y i = c.ms.getD i 0 + c.mr := by
        unfold mlen
        rw [if_pos ⟨e0.mp z, q⟩]
      refine ⟨_, at_ms hx hi, ?_⟩
      repeat infer_instance
      rw [em]
      exact ⟨rfl, rfl⟩
    | false =>
      repeat infer_instance
      have em : mlen c y i = c.ms.getD i 0 + 0 := by
        unfold mlen
        rw [if_neg fun w => by rw [q] at w; exact absurd w.2 Bool.false_ne_true]
      refine ⟨_, at_ms hx hi, ?_⟩
      repeat infer_instance
      rw [em]
      exact ⟨rfl, rfl⟩
  · have z := of_decide_eq_false z
    repeat infer_instance
    have em : mlen c y i = c.ms.getD i 0 + 0 := by
      unfold mlen
      rw [if_neg fun w => z (e0.mpr w.1)]
    refine ⟨_, at_ms hx hi, ?_⟩
    repeat infer_instance
    rw [em]
    exact ⟨rfl, rfl⟩
include A in
theorem v_raw_cycle_days (C : c.Ok) : cf T L (k + 1) "raw_cycle_days" [.val c.d] o = .ok (.int (cyd c)) o := by
  have z := C.sum
  have h1 := C.c1
  have h2 := C.c2
  have h3 := C.ln
  have h4 := C.r1
  have h5 := C.r2
  refine cf_p A.raw_cycle_days rfl ?_
  repeat infer_instance
  refine ⟨_, sumD c.ms, ?_⟩
  repeat infer_instance
  refine ⟨_, bin_mul (by omega) (by omega) (by omega) (by omega), ?_⟩
  repeat infer_instance
  refine ⟨_, bin_mul (by rw [List.length_map]; omega) (by rw [List.length_map]; omega) (by omega) (by omega), ?_⟩
  repeat infer_instance
  rw [List.length_map]
  exact ⟨rfl, rfl⟩
include hL A in
theorem v_raw_date (C : c.Ok) (h : IsDt c n y i d) (hn : n ≤ 10 ^ 40) : cf T L (k + 4) "raw_date" [.val c.d, .val (.int n)] o = .ok (.tup [.int y, .int (i : Int), .int d]) o := by
  have n0 := h.pos C
  have cp := cyd_pos C
  have cb := cyd_bd C
  have h1 := C.c1
  have h2 := C.c2
  have hm := C.m2
  have q0 : 0 ≤ n / cyd c := Int.ediv_nonneg n0 (by omega)
  have q1 : n / cyd c ≤ n := Int.ediv_le_self _ n0
  have hyb := h.yb C
  refine cf_p A.raw_date rfl ?_
  repeat infer_instance
  refine ⟨_, _, v_raw_cycle_days A C, ?_⟩
  repeat infer_instance
  refine ⟨_, bin_div (by omega) (by omega), ?_⟩
  repeat infer_instance
  refine ⟨_, _, v_raw_cycle_days A C, ?_⟩
  repeat infer_instance
  refine ⟨_, bin_mod (by omega), ?_⟩
  repeat infer_instance
  refine ⟨_, bin_mul (by omega) (by omega) (by omega) (by omega), ?_⟩
  repeat infer_instance
  have eq := Int.mul_ediv_add_emod n (cyd c)
  have er := Int.emod_nonneg n (show cyd c ≠ 0 by omega)
  have er2 := Int.emod_lt_of_pos n (show 0 < cyd c by omega)
  generalize hq : n / cyd c = q at *
  have yb0 : ybg c (q * c.cy) = q * cyd c := by
    have := ybg_cyc C (y := 0) q
    rw [ybg_0 C, Int.zero_add, Int.zero_add] at this
    exact this
  have yb1 : ybg c ((q + 1) * c.cy) = q * cyd c + cyd c := by
    have := ybg_cyc C (y := 0) (q + 1)
    rw [ybg_0 C, Int.zero_add, Int.zero_add] at this
    rw [this, Int.add_mul, Int.one_mul]
  have ecy : (q + 1) * c.cy = q * c.cy + c.cy := by rw [Int.add_mul, Int.one_mul]
  have ecm : cyd c * q = q * cyd c := Int.mul_comm _ _
  have qc0 : 0 ≤ q * c.cy := Int.mul_nonneg q0 (by omega)
  refine ws_whl (fun j ρ o' => o = o' ∧ ∃ z : Int, q * c.cy ≤ z ∧ z + j = (q + 1) * c.cy ∧ ybg c z ≤ n ∧ ρ = [.val c.d, .val (.int n), .val (.int q), .val (.int (n - ybg c z)), .val (.int z), .none]) (m := c.cy.toNat) ⟨rfl, q * c.cy, Int.le_refl _, by omega, by omega, by rw [yb0, show n - q * cyd c = n % cyd c by omega]; rfl⟩ (by omega) ?_
  rintro j ρ o' ⟨rfl, z, z1, z2, z3, rfl⟩
  have ys := ybg_succ C (y := z) (by omega)
  repeat infer_instance
  refine ⟨_, _, v_raw_year_days A.toLRaw C, ?_⟩
  rw [show c.ms.sum + (if lpB c z = true then c.mr else 0) = yd c z from rfl]
  repeat infer_instance
  refine ⟨fun w => ?_, fun w => ?_⟩
  · have w := of_decide_eq_true w
    have hj : j ≠ 0 := fun e => by
      rw [e] at z2
      have e3 : z = (q + 1) * c.cy := by omega
      rw [e3, yb1] at z3
      omega
    refine ⟨j - 1, by omega, ?_⟩
    repeat infer_instance
    refine ⟨_, _, v_raw_year_days A.toLRaw C, ?_⟩
    rw [show c.ms.sum + (if lpB c z = true then c.mr else 0) = yd c z from rfl]
    repeat infer_instance
    exact ⟨rfl, z + 1, by omega, by omega, by omega, by rw [ys, show n - (ybg c z + yd c z) = n - ybg c z - yd c z by omega]; rfl⟩
  · have w := of_decide_eq_false w
    have ez : z = y := by
      rcases Int.lt_trichotomy y z with t | t | t
      · have := ybg_le C (y := y + 1) (z := z) (by have := h.y0; omega) (by omega)
        omega
      · exact t.symm
      · have := ybg_le C (y := z + 1) (z := y) (by omega) (by omega)
        omega
    subst ez
    repeat infer_instance
    refine ws_whl (fun j ρ o' => o = o' ∧ ∃ a : Nat, a ≤ i ∧ a + j = c.ms.length ∧ ρ = [.val c.d, .val (.int n), .val (.int q), .val (.int (n - mbg c z a)), .val (.int z), .val (.int (a : Int))]) (m := c.ms.length) ⟨rfl, 0, Nat.zero_le _, by omega, by rw [mbg_0]; rfl⟩ (by omega) ?_
    rintro j ρ o' ⟨rfl, a, a1, a2, rfl⟩
    have hi := h.hi
    have ms : mbg c z (a + 1) = mbg c z a + mlen c z a := mbg_succ a
    have hb := h.mb
    repeat infer_instance
    refine ⟨_, _, v_raw_month_days A C rfl (by omega), ?_⟩
    repeat infer_instance
    refine ⟨fun w => ?_, fun w => ?_⟩
    · have w := of_decide_eq_true w
      have hai : a < i := Nat.lt_of_le_of_ne a1 fun e => by
        subst e
        omega
      refine ⟨j - 1, by omega, ?_⟩
      repeat infer_instance
      refine ⟨_, _, v_raw_month_days A C rfl (by omega), ?_⟩
      repeat infer_instance
      exact ⟨rfl, a + 1, by omega, by omega, by rw [ms, show n - (mbg c z a + mlen c z a) = n - mbg c z a - mlen c z a by omega]; rfl⟩
    · have w := of_decide_eq_false w
      have hai : a = i := Nat.le_antisymm a1 (Nat.le_of_not_lt fun l => by
        have := mbg_le C (y := z) (i := a + 1) (j := i) l (Nat.le_of_lt hi)
        omega)
      subst hai
      repeat infer_instance
      have e := h.e
      rw [show n - mbg c z a + 1 = d by omega]
      exact ⟨rfl, rfl⟩
include hL A in
theorem v_raw_ahead (C : c.Ok) (h : IsDt c n y i d) (hn : n ≤ 10 ^ 40) : cf T L (k + 5) "raw_ahead" [.val c.d, .val (.int n)] o = .ok (.int (mlen c y i - d + 1)) o := by
  refine cf_p A.raw_ahead rfl ?_
  repeat infer_instance
  refine ⟨_, _, v_raw_date hL A C h hn, ?_⟩
  repeat infer_instance
  refine ⟨_, _, v_raw_month_days A C rfl h.hi, ?_⟩
  repeat infer_instance
  exact ⟨rfl, rfl⟩
end
end Lib

set_option maxHeartbeats 2000000
/-! Lw: the laws' own calendars and days. -/
namespace Lib
open PySem Ev
local macro_rules | `(tactic| infer_instance) => `(tactic| first
  | refine wss_cons ?_
  | refine wss_nil ?_
  | refine ws_set ?_
  | refine ws_setOwn ?_
  | refine ws_par ?_
  | refine ws_parO ?_
  | refine ws_expr ?_
  | refine ws_ret ?_
  | refine ws_retN ?_
  | refine ws_retObj ?_
  | refine ws_ife ?_
  | refine ws_append rfl ?_
  | refine ws_extend rfl ?_
  | refine ws_put rfl ?_
  | refine ws_putO rfl ?_
  | refine ws_aug rfl ?_
  | refine ws_frz ?_
  | refine ws_pass ?_
  | refine ws_newDic ?_
  | refine we_var rfl ?_
  | refine we_bor rfl ?_
  | refine we_int ?_
  | refine we_bl ?_
  | refine we_non ?_
  | refine we_str ?_
  | refine we_tup ?_
  | refine we_lst ?_
  | refine we_dnew ?_
  | refine we_bin ?_
  | refine we_neg ?_
  | refine we_not ?_
  | refine we_and ?_
  | refine we_or ?_
  | refine we_cmp ?_
  | refine we_chain ?_
  | refine we_ite ?_
  | refine we_slc ?_
  | refine we_idx ?_
  | refine we_glob (by assumption) ?_
  | refine we_gin (by assumption) ?_
  | refine we_gidx (by assumption) ?_
  | refine we_gget (by assumption) ?_
  | refine we_call ?_
  | refine we_callv rfl ?_
  | refine we_bif ?_
  | refine we_isi ?_
  | refine we_rev ?_
  | refine weo_none ?_
  | refine weo_some ?_
  | refine wes_nil ?_
  | refine wes_cons ?_
  | refine was_nil ?_
  | refine was_val ?_
  | refine was_lam rfl ?_
  | refine wc_none ?_
  | refine wc_some ?_
  | refine wr_seq ?_
  | refine wr_zip ?_
  | refine wr_enum ?_
  | refine wr_rng1 ?_
  | refine wr_rng2 ?_
  | refine And.intro (Nat.le_of_ble_eq_true rfl) ?_
  | refine Exists.intro _ (And.intro rfl ?_)
  | refine Exists.intro _ (And.intro (Or.inl rfl) ?_)
  | refine Exists.intro _ (And.intro (Or.inr rfl) ?_)
  | refine Exists.intro _ (Exists.intro _ (And.intro (Or.inl (And.intro rfl rfl)) ?_))
  | refine Exists.intro _ (And.intro (Or.inr (Or.inl rfl)) ?_)
  | with_reducible refine if_t ?_
  | with_reducible refine if_f ?_
  | with_reducible refine if_nt ?_
  | with_reducible refine if_nf ?_
  | with_reducible refine if_n ?_
  | with_reducible refine g_add ?_
  | with_reducible refine g_sub ?_
  | with_reducible refine g_neg ?_
  | with_reducible refine g_lt ?_
  | with_reducible refine g_le ?_
  | with_reducible refine g_gt ?_
  | with_reducible refine g_ge ?_
  | with_reducible refine g_eqI ?_
  | with_reducible refine g_neI ?_
  | with_reducible refine g_lenf ?_
  | with_reducible refine g_lenfT ?_
  | with_reducible refine g_lenT0 ?_
  | with_reducible refine g_lenT1 ?_
  | with_reducible refine g_lenT2 ?_
  | with_reducible refine g_lenT3 ?_
  | with_reducible refine g_lenT4 ?_
  | with_reducible refine g_len ?_
  | with_reducible refine g_lenT ?_
  | with_reducible refine g_idx0 ?_
  | with_reducible refine g_idx1 ?_
  | with_reducible refine g_idx2 ?_
  | with_reducible refine g_isnB ?_
  | with_reducible refine g_isB ?_
  | ((with_reducible apply g_idx); exact rfl)
  | ((with_reducible apply g_bif); exact rfl)
  | ((with_reducible apply g_eqS); (· decide +kernel); (· decide +kernel))
  | ((with_reducible apply g_neS); (· decide +kernel); (· decide +kernel))
  | ((with_reducible apply g_in); assumption)
  | ((with_reducible apply g_in); exact rfl)
  | refine if_eqt (by decide +kernel) ?_
  | refine if_eqf (by decide +kernel) ?_
  | fail)
def cals : List (Cal × Int) := [(⟨3, [2, 3], 1, [], 0, 1⟩, 30), (⟨2, [3, 2], 2, [1], 1, 1⟩, 66), (⟨4, [5], 1, [], 0, 1⟩, 60), (⟨5, [2, 1, 2], 1, [], 0, 1⟩, 30), (⟨3, [4], 2, [0], 0, 2⟩, 30), (⟨1, [1, 2], 3, [0, 2], 1, 1⟩, 66)]
theorem cals_ok : ∀ p ∈ cals, p.1.Ok := by
  intro p hp
  simp only [cals, List.mem_cons, List.not_mem_nil, or_false] at hp
  rcases hp with rfl | rfl | rfl | rfl | rfl | rfl <;> exact ⟨by decide, by decide, by decide, by decide, by decide, by decide, by decide, by decide, by decide, by decide, by decide, by decide, by decide, by decide⟩
theorem cals_cyd : ∀ p ∈ cals, cyd p.1 ≤ 66 := by
  intro p hp
  simp only [cals, List.mem_cons, List.not_mem_nil, or_false] at hp
  rcases hp with rfl | rfl | rfl | rfl | rfl | rfl <;> decide
noncomputable def rowD (c : Cal) (n : Nat) : D := .tup [.int (dt c n).1, .int ((dt c n).2.1 : Int), .int (dt c n).2.2, .int (mlen c (dt c n).1 (dt c n).2.1 - (dt c n).2.2 + 1), .int ((n : Int) % c.w)]
noncomputable def rows (c : Cal) (m : Nat) : List D := (List.range m).map (rowD c)
theorem rows_len {c : Cal} {m : Nat} : (rows c m).length = m := by
  unfold rows
  rw [List.length_map, List.length_range]
theorem rows_succ {c : Cal} {m : Nat} : rows c (m + 1) = rows c m ++ [rowD c m] := by
  unfold rows
  rw [List.range_succ, List.map_append]
  rfl
theorem rows_take {c : Cal} {m n : Nat} (h : m ≤ n) : (rows c n).take m = rows c m := by
  unfold rows
  rw [← List.map_take, List.take_range, Nat.min_eq_left h]
section
variable {T : Tab} {L : Nat} (B : LHand T) variable {k n m : Nat} {o : Objs} {c : Cal} {x y : Int}
include B in
theorem v_law_calendar (h0 : T.fn "_law_calendar" = some i__law_calendar) (h : Hd (n + 1) o) : ∃ (p : Cal × Int) (o' : Objs), cf T L (k + 3) "_law_calendar" [.val (.obj 0)] o = .ok (.tup [p.1.d, .int p.2]) o' ∧ p ∈ cals ∧ Hd n o' := by
  obtain ⟨d, o', h1, _, p, rfl, h2, h3⟩ := cf_w (T := T) (L := L) (k := k + 2) (o := o) (sl := [.val (.obj 0)]) (P := fun d o' => ∃ p : Cal × Int, d = .tup [p.1.d, .int p.2] ∧ p ∈ cals ∧ Hd n o') h0 rfl (by
    repeat infer_instance
    refine ⟨_, bin_lst (Nat.le_of_ble_eq_true rfl), ?_⟩
    repeat infer_instance
    refine ⟨_, bin_lst (Nat.le_of_ble_eq_true rfl), ?_⟩
    repeat infer_instance
    obtain ⟨x1, o1, z1, m1, d1⟩ := v_any (T := T) (L := L) (k := k) B (n := n) (ds := cals.map fun p => .tup [p.1.d, .int p.2]) h (by decide) (by decide)
    refine ⟨_, _, z1, ?_⟩
    obtain ⟨p, hp, rfl⟩ := List.mem_map.mp m1
    exact ⟨by rw [h.len, d1.len], p, rfl, hp, d1⟩)
  exact ⟨p, o', h1, h2, h3⟩
/-- how many more days -/
def mor (c : Cal) (y : Int) (i : Nat) : Int := if ((i : Int) = c.mo) ∧ lpB c y = true then c.mr else 0
theorem mlen_eq {i : Nat} : mlen c y i = c.ms.getD i 0 + mor c y i := rfl
theorem enD_get {s i : Nat} {xs : List D} {d : D} (h : (enD s xs)[i]? = some d) : ∃ x, xs[i]? = some x ∧ d = .tup [.int ((s + i : Nat) : Int), x] := by
  unfold enD at h
  rw [List.getElem?_zipWith] at h
  cases q : xs[i]? with
  | none =>
    rw [q] at h
    split at h
    · rename_i h2
      cases h2
    · cases h
  | some x =>
    have hi : i < xs.length := (List.getElem?_eq_some_iff.mp q).1
    rw [q, List.getElem?_eq_getElem (by rw [List.length_range']; exact hi), List.getElem_range', Nat.one_mul] at h
    cases h
    exact ⟨x, rfl, rfl⟩
noncomputable abbrev dF (c : Cal) (x : Int) (N : Nat) (j : Int) (s7 s8 s9 s10 s11 : Slot) : Frm := [.val c.d, .val (.int x), .val (.int c.w), .val (iT c.ms), .val c.leap, .own (.lst (rows c N)), .val (.int j), s7, s8, s9, s10, s11]
/-- the days of a month -/
theorem days_in {N : Nat} {j : Int} {i : Nat} {s7 s10 s11 : Slot} (C : c.Ok) (hj : 0 ≤ j) (hi : i < c.ms.length) (hN : (N : Int) = mbg c j i) (hN2 : N ≤ 5000) (a : Int) (ha : a = c.ms.getD i 0) {x' : Int} (hx' : x' = (i : Int)) {R : D → Objs → Prop} :
    WSs (cf T L k) (cc T L k) T.con T.isa L b__law_days_7 (dF c x N j s7 (.val (.int x')) (.val (.int a)) s10 s11) o (fun ρ o' => o = o' ∧ ∃ (N' : Nat) (t8 t9 t10 t11 : Slot), (N' : Int) = mbg c j (i + 1) ∧ ρ = dF c x N' j s7 t8 t9 t10 t11) R := by
  have hw := C.w1
  have hc := C.c1
  have hr1 := C.r1
  have hr2 := C.r2
  have hml := mlen_pos C (y := j) hi
  have em : mlen c j i = a + mor c j i := by rw [mlen_eq, ha]
  have hin : inD (.int (j % c.cy)) (iT c.ls) = some (lpB c j) := inD_ints _ _
  have rest : ∀ m : Int, m = mor c j i → WS (cf T L k) (cc T L k) T.con T.isa L s__law_days_6 (dF c x N j s7 (.val (.int x')) (.val (.int a)) (.val (.int m)) s11) o (fun ρ o' => WSs (cf T L k) (cc T L k) T.con T.isa L .nil ρ o' (fun ρ o' => o = o' ∧ ∃ (N' : Nat) (t8 t9 t10 t11 : Slot), (N' : Int) = mbg c j (i + 1) ∧ ρ = dF c x N' j s7 t8 t9 t10 t11) R) R := by
    rintro m hm
    refine ws_for (fun e ρ o' => o = o' ∧ ∃ t11, ρ = dF c x (N + e) j s7 (.val (.int x')) (.val (.int a)) (.val (.int m)) t11) ?_
    repeat infer_instance
    refine ⟨_, _, 1, (mlen c j i).toNat, rfl, rfl, rfl, by omega, by omega, ?_⟩
    refine ⟨⟨rfl, s11, rfl⟩, ?_, ?_⟩
    · rintro e ρ o' d hd ⟨rfl, t11, rfl⟩
      obtain ⟨he, rfl⟩ := rgD_get hd
      refine ⟨_, rfl, ?_⟩
      repeat infer_instance
      rw [rows_len]
      refine ⟨_, bin_mod (by omega), ?_⟩
      repeat infer_instance
      refine ⟨Nat.lt_of_lt_of_le (show N + e < 1000001 by omega) (Nat.le_of_ble_eq_true rfl), ?_⟩
      have hdt : IsDt c ((N + e : Nat) : Int) j i ((1 + e : Nat) : Int) := ⟨hj, hi, by omega, by omega, by omega⟩
      have er : D.tup [.int j, .int x', .int ((1 + e : Nat) : Int), .int (a + m + 1 - ((1 + e : Nat) : Int)), .int (((N + e : Nat) : Int) % c.w)] = rowD c (N + e) := by
        unfold rowD
        rw [dt_eq C hdt]
        show _ = D.tup [.int j, .int (i : Int), .int ((1 + e : Nat) : Int), .int (mlen c j i - ((1 + e : Nat) : Int) + 1), .int (((N + e : Nat) : Int) % c.w)]
        rw [hx', show a + m + 1 - ((1 + e : Nat) : Int) = mlen c j i - ((1 + e : Nat) : Int) + 1 by omega]
      rw [er, ← rows_succ]
      exact wss_nil ⟨rfl, _, rfl⟩
    · rintro ρ o' ⟨rfl, t11, rfl⟩
      rw [rgD_len]
      refine wss_nil ⟨rfl, N + (mlen c j i).toNat, _, _, _, _, ?_, rfl⟩
      have e3 : mbg c j (i + 1) = mbg c j i + mlen c j i := mbg_succ i
      omega
  repeat infer_instance
  refine ⟨fun z => ?_, fun z => ?_⟩
  · have z := of_decide_eq_true z
    repeat infer_instance
    refine ⟨_, bin_mod (by omega), ?_⟩
    repeat infer_instance
    cases q : lpB c j with
    | true =>
      repeat infer_instance
      refine rest c.mr ?_
      unfold mor
      rw [if_pos ⟨by omega, q⟩]
    | false =>
      repeat infer_instance
      refine rest 0 ?_
      unfold mor
      rw [if_neg fun w => by rw [q] at w; exact absurd w.2 Bool.false_ne_true]
  · have z := of_decide_eq_false z
    repeat infer_instance
    refine rest 0 ?_
    unfold mor
    rw [if_neg fun w => z (by omega)]
end
end Lib

set_option maxHeartbeats 2000000
/-! Lx: the laws' own days, all. -/
namespace Lib
open PySem Ev
local macro_rules | `(tactic| infer_instance) => `(tactic| first
  | refine wss_cons ?_
  | refine wss_nil ?_
  | refine ws_set ?_
  | refine ws_setOwn ?_
  | refine ws_par ?_
  | refine ws_parO ?_
  | refine ws_expr ?_
  | refine ws_ret ?_
  | refine ws_retN ?_
  | refine ws_retObj ?_
  | refine ws_ife ?_
  | refine ws_append rfl ?_
  | refine ws_extend rfl ?_
  | refine ws_put rfl ?_
  | refine ws_putO rfl ?_
  | refine ws_aug rfl ?_
  | refine ws_frz ?_
  | refine ws_pass ?_
  | refine ws_newDic ?_
  | refine we_var rfl ?_
  | refine we_bor rfl ?_
  | refine we_int ?_
  | refine we_bl ?_
  | refine we_non ?_
  | refine we_str ?_
  | refine we_tup ?_
  | refine we_lst ?_
  | refine we_dnew ?_
  | refine we_bin ?_
  | refine we_neg ?_
  | refine we_not ?_
  | refine we_and ?_
  | refine we_or ?_
  | refine we_cmp ?_
  | refine we_chain ?_
  | refine we_ite ?_
  | refine we_slc ?_
  | refine we_idx ?_
  | refine we_glob (by assumption) ?_
  | refine we_gin (by assumption) ?_
  | refine we_gidx (by assumption) ?_
  | refine we_gget (by assumption) ?_
  | refine we_call ?_
  | refine we_callv rfl ?_
  | refine we_bif ?_
  | refine we_isi ?_
  | refine we_rev ?_
  | refine weo_none ?_
  | refine weo_some ?_
  | refine wes_nil ?_
  | refine wes_cons ?_
  | refine was_nil ?_
  | refine was_val ?_
  | refine was_lam rfl ?_
  | refine wc_none ?_
  | refine wc_some ?_
  | refine wr_seq ?_
  | refine wr_zip ?_
  | refine wr_enum ?_
  | refine wr_rng1 ?_
  | refine wr_rng2 ?_
  | refine And.intro (Nat.le_of_ble_eq_true rfl) ?_
  | refine Exists.intro _ (And.intro rfl ?_)
  | refine Exists.intro _ (And.intro (Or.inl rfl) ?_)
  | refine Exists.intro _ (And.intro (Or.inr rfl) ?_)
  | refine Exists.intro _ (Exists.intro _ (And.intro (Or.inl (And.intro rfl rfl)) ?_))
  | refine Exists.intro _ (And.intro (Or.inr (Or.inl rfl)) ?_)
  | with_reducible refine if_t ?_
  | with_reducible refine if_f ?_
  | with_reducible refine if_nt ?_
  | with_reducible refine if_nf ?_
  | with_reducible refine if_n ?_
  | with_reducible refine g_add ?_
  | with_reducible refine g_sub ?_
  | with_reducible refine g_neg ?_
  | with_reducible refine g_lt ?_
  | with_reducible refine g_le ?_
  | with_reducible refine g_gt ?_
  | with_reducible refine g_ge ?_
  | with_reducible refine g_eqI ?_
  | with_reducible refine g_neI ?_
  | with_reducible refine g_lenf ?_
  | with_reducible refine g_lenfT ?_
  | with_reducible refine g_lenT0 ?_
  | with_reducible refine g_lenT1 ?_
  | with_reducible refine g_lenT2 ?_
  | with_reducible refine g_lenT3 ?_
  | with_reducible refine g_lenT4 ?_
  | with_reducible refine g_len ?_
  | with_reducible refine g_lenT ?_
  | with_reducible refine g_idx0 ?_
  | with_reducible refine g_idx1 ?_
  | with_reducible refine g_idx2 ?_
  | with_reducible refine g_isnB ?_
  | with_reducible refine g_isB ?_
  | ((with_reducible apply g_idx); exact rfl)
  | ((with_reducible apply g_bif); exact rfl)
  | ((with_reducible apply g_eqS); (· decide +kernel); (· decide +kernel))
  | ((with_reducible apply g_neS); (· decide +kernel); (· decide +kernel))
  | ((with_reducible apply g_in); assumption)
  | ((with_reducible apply g_in); exact rfl)
  | refine if_eqt (by decide +kernel) ?_
  | refine if_eqf (by decide +kernel) ?_
  | fail)
section
variable {T : Tab} {L : Nat} {k n m : Nat} {o : Objs} {c : Cal} {x y : Int}
theorem slc_to {l : List D} {x : Int} {m : Nat} (hx : x = (m : Int)) : slcD (.lst l) none (some x) = some (.lst (l.take m)) := by
  subst hx
  show some (D.lst (cutD l none (some (m : Int)))) = _
  rw [cutN]
theorem v_law_days (h0 : T.fn "_law_days" = some i__law_days) (C : c.Ok) (hx : x = (m : Int)) (hm : m ≤ 4000) : cf T L (k + 1) "_law_days" [.val c.d, .val (.int x)] o = .ok (.lst (rows c m)) o := by
  refine cf_p h0 rfl ?_
  have hyd := fun y => yd_pos C (y := y)
  repeat infer_instance
  refine ws_for (fun j ρ o' => o = o' ∧ ∃ (N : Nat) (s7 s8 s9 s10 s11 : Slot), ((N : Int) = ybg c (j : Int) ∨ m ≤ N) ∧ N ≤ m + 200 ∧ ρ = dF c x N (j : Int) s7 s8 s9 s10 s11) ?_
  repeat infer_instance
  refine ⟨_, m, rfl, hx, by omega, ?_⟩
  refine ⟨⟨rfl, 0, .none, .none, .none, .none, .none, .inl (by rw [Int.natCast_zero, ybg_0 C]), by omega, rfl⟩, ?_, ?_⟩
  · rintro j ρ o' d hd ⟨rfl, N, s7, s8, s9, s10, s11, hN, hN2, rfl⟩
    obtain ⟨hj, rfl⟩ := rgD_get hd
    refine ⟨_, rfl, ?_⟩
    refine wss_cons ?_
    by_cases z : N < m
    · have hN := hN.resolve_right (by omega)
      have hys := ybg_succ C (y := (j : Int)) (by omega)
      have hme := mbg_end C (y := (j : Int)) (by omega)
      have hyj := hyd (j : Int)
      refine ws_for (fun i ρ o' => o = o' ∧ ∃ (N' : Nat) (t8 t9 t10 t11 : Slot), (N' : Int) = mbg c (j : Int) i ∧ ρ = dF c x N' (j : Int) (.val (.int ((0 + j : Nat) : Int))) t8 t9 t10 t11) ?_
      repeat infer_instance
      rw [rows_len]
      refine ⟨fun _ => ?_, fun w => absurd (of_decide_eq_false w) (by omega)⟩
      repeat infer_instance
      refine ⟨⟨rfl, N, s8, s9, s10, s11, by rw [mbg_0]; exact hN, rfl⟩, ?_, ?_⟩
      · rintro i ρ o' d hd ⟨rfl, N', t8, t9, t10, t11, hN', rfl⟩
        obtain ⟨v, hv, rfl⟩ := enD_get hd
        rw [List.getElem?_map] at hv
        obtain ⟨a, ha, rfl⟩ := Option.map_eq_some_iff.mp hv
        have hi : i < c.ms.length := (List.getElem?_eq_some_iff.mp ha).1
        have hb := mbg_le C (y := (j : Int)) (i := i) (j := c.ms.length) (Nat.le_of_lt hi) (Nat.le_refl _)
        refine ⟨_, rfl, ?_⟩
        refine days_in C (by omega) hi hN' (by omega) a ?_ (x' := ((0 + i : Nat) : Int)) (by rw [Nat.zero_add])
        rw [List.getD_eq_getElem?_getD, ha]
        rfl
      · rintro ρ o' ⟨rfl, N', t8, t9, t10, t11, hN', rfl⟩
        have hl : (enD 0 (c.ms.map D.int)).length = c.ms.length := by rw [enD_len, List.length_map]
        rw [hl] at hN'
        repeat infer_instance
        exact ⟨rfl, N', _, t8, t9, t10, t11, .inl (by rw [hN', hme]; rfl), by omega, rfl⟩
    · refine ws_for (fun i ρ o' => o = o' ∧ ρ = dF c x N (j : Int) (.val (.int ((0 + j : Nat) : Int))) s8 s9 s10 s11) ?_
      repeat infer_instance
      rw [rows_len]
      refine ⟨fun w => absurd (of_decide_eq_true w) (by omega), fun _ => ?_⟩
      repeat infer_instance
      refine ⟨⟨rfl, rfl⟩, fun i ρ o' d hd => ?_, ?_⟩
      · exact nomatch hd
      · rintro ρ o' ⟨rfl, rfl⟩
        repeat infer_instance
        exact ⟨rfl, N, _, s8, s9, s10, s11, .inr (by omega), by omega, rfl⟩
  · rintro ρ o' ⟨rfl, N, s7, s8, s9, s10, s11, hN, hN2, rfl⟩
    rw [rgD_len] at hN
    have hmN : m ≤ N := by
      rcases hN with hN | hN
      · have := ybg_mono C (y := 0) (Int.le_refl _) m
        rw [ybg_0 C, Int.zero_add] at this
        omega
      · exact hN
    repeat infer_instance
    refine ⟨_, slc_to hx, ?_⟩
    rw [rows_take hmN]
    exact ⟨rfl, rfl⟩
end
end Lib

set_option maxHeartbeats 2000000
/-! Ly: dates, asked. -/
namespace Lib
open PySem Ev
local macro_rules | `(tactic| infer_instance) => `(tactic| first
  | refine wss_cons ?_
  | refine wss_nil ?_
  | refine ws_set ?_
  | refine ws_setOwn ?_
  | refine ws_par ?_
  | refine ws_parO ?_
  | refine ws_expr ?_
  | refine ws_ret ?_
  | refine ws_retN ?_
  | refine ws_retObj ?_
  | refine ws_ife ?_
  | refine ws_append rfl ?_
  | refine ws_extend rfl ?_
  | refine ws_put rfl ?_
  | refine ws_putO rfl ?_
  | refine ws_aug rfl ?_
  | refine ws_frz ?_
  | refine ws_pass ?_
  | refine ws_newDic ?_
  | refine we_var rfl ?_
  | refine we_bor rfl ?_
  | refine we_int ?_
  | refine we_bl ?_
  | refine we_non ?_
  | refine we_str ?_
  | refine we_tup ?_
  | refine we_lst ?_
  | refine we_dnew ?_
  | refine we_bin ?_
  | refine we_neg ?_
  | refine we_not ?_
  | refine we_and ?_
  | refine we_or ?_
  | refine we_cmp ?_
  | refine we_chain ?_
  | refine we_ite ?_
  | refine we_slc ?_
  | refine we_idx ?_
  | refine we_glob (by assumption) ?_
  | refine we_gin (by assumption) ?_
  | refine we_gidx (by assumption) ?_
  | refine we_gget (by assumption) ?_
  | refine we_call ?_
  | refine we_callv rfl ?_
  | refine we_bif ?_
  | refine we_isi ?_
  | refine we_rev ?_
  | refine weo_none ?_
  | refine weo_some ?_
  | refine wes_nil ?_
  | refine wes_cons ?_
  | refine was_nil ?_
  | refine was_val ?_
  | refine was_lam rfl ?_
  | refine wc_none ?_
  | refine wc_some ?_
  | refine wr_seq ?_
  | refine wr_zip ?_
  | refine wr_enum ?_
  | refine wr_rng1 ?_
  | refine wr_rng2 ?_
  | refine And.intro (Nat.le_of_ble_eq_true rfl) ?_
  | refine Exists.intro _ (And.intro rfl ?_)
  | refine Exists.intro _ (And.intro (Or.inl rfl) ?_)
  | refine Exists.intro _ (And.intro (Or.inr rfl) ?_)
  | refine Exists.intro _ (Exists.intro _ (And.intro (Or.inl (And.intro rfl rfl)) ?_))
  | refine Exists.intro _ (And.intro (Or.inr (Or.inl rfl)) ?_)
  | with_reducible refine if_t ?_
  | with_reducible refine if_f ?_
  | with_reducible refine if_nt ?_
  | with_reducible refine if_nf ?_
  | with_reducible refine if_n ?_
  | with_reducible refine g_add ?_
  | with_reducible refine g_sub ?_
  | with_reducible refine g_neg ?_
  | with_reducible refine g_lt ?_
  | with_reducible refine g_le ?_
  | with_reducible refine g_gt ?_
  | with_reducible refine g_ge ?_
  | with_reducible refine g_eqI ?_
  | with_reducible refine g_neI ?_
  | with_reducible refine g_lenf ?_
  | with_reducible refine g_lenfT ?_
  | with_reducible refine g_lenT0 ?_
  | with_reducible refine g_lenT1 ?_
  | with_reducible refine g_lenT2 ?_
  | with_reducible refine g_lenT3 ?_
  | with_reducible refine g_lenT4 ?_
  | with_reducible refine g_len ?_
  | with_reducible refine g_lenT ?_
  | with_reducible refine g_idx0 ?_
  | with_reducible refine g_idx1 ?_
  | with_reducible refine g_idx2 ?_
  | with_reducible refine g_isnB ?_
  | with_reducible refine g_isB ?_
  | ((with_reducible apply g_idx); exact rfl)
  | ((with_reducible apply g_bif); exact rfl)
  | ((with_reducible apply g_eqS); (· decide +kernel); (· decide +kernel))
  | ((with_reducible apply g_neS); (· decide +kernel); (· decide +kernel))
  | ((with_reducible apply g_in); assumption)
  | ((with_reducible apply g_in); exact rfl)
  | refine if_eqt (by decide +kernel) ?_
  | refine if_eqf (by decide +kernel) ?_
  | fail)
theorem nQs_iT : ∀ l : List Int, nQs (l.map D.int) = true
  | [] => nQs_nil
  | a :: l => nQs_cons (nQ_int a) (nQs_iT l)
theorem nQ_iT (l : List Int) : nQ (iT l) = true := nQ_tup' (nQs_iT l)
theorem nQ_d (c : Cal) : nQ c.d = true := nQ_tup' (nQs_cons (nQ_int _) (nQs_cons (nQ_iT _) (nQs_cons (nQ_tup' (nQs_cons (nQ_int _) (nQs_cons (nQ_iT _) (nQs_cons (nQ_int _) (nQs_cons (nQ_int _) nQs_nil))))) nQs_nil)))
theorem smB_iT {l : List Int} (h : l.length ≤ 1000) : smB (iT l) = true := by
  show decide ((l.map D.int).length ≤ 1000000) = true
  rw [List.length_map]
  exact decide_eq_true (by omega)
theorem sm1_iT (l : List Int) : sm1 (iT l) = true := by
  show ((l.map D.int).all smB) = true
  rw [List.all_map]
  exact List.all_eq_true.mpr fun _ _ => rfl
theorem sm2_d {c : Cal} (C : c.Ok) : sm2 c.d = true := by
  have h1 := C.m2
  have h2 := C.ln
  have a := smB_iT (l := c.ms) (by omega)
  have b := smB_iT (l := c.ls) (by omega)
  have l2 : sm1 c.leap = true := by
    show (smB (.int c.cy) && (smB (iT c.ls) && (smB (.int c.mo) && (smB (.int c.mr) && true)))) = true
    rw [b]
    rfl
  show ((smB (.int c.w) && sm1 (.int c.w)) && ((smB (iT c.ms) && sm1 (iT c.ms)) && ((smB c.leap && sm1 c.leap) && true))) = true
  rw [a, sm1_iT, l2]
  rfl
theorem all_wi {l : List Int} {a b : Int} (h : ∀ i ∈ l, a ≤ i ∧ i ≤ b) : ((l.map D.int).all fun d => wi d a b) = true := by
  rw [List.all_map, List.all_eq_true]
  intro i hi
  exact wi_of (h i hi).1 (h i hi).2
theorem calB_d {c : Cal} (C : c.Ok) : calB c.d = true := by
  have e2 : szT (iT c.ms) 1 12 = true := by
    have h1 := C.m1
    have h2 := C.m2
    show (decide ((1 : Int) ≤ ((c.ms.map D.int).length : Int)) && decide (((c.ms.map D.int).length : Int) ≤ 12)) = true
    rw [List.length_map, decide_eq_true (by omega), decide_eq_true (by omega)]
    rfl
  have e5 : ((c.ls.map D.int).all fun d => wi d 0 (c.cy - 1)) = true := all_wi fun i hi => by
    have := C.ll i hi
    omega
  have e6 : lotB (iT c.ls) c.cy = true := by
    show (((c.ls.map D.int).all fun d => wi d 0 (c.cy - 1)) && ris ((c.ls.map D.int).filterMap asI)) = true
    rw [e5, fm_ints, C.lr]
    rfl
  have e7 : wi (.int c.mo) 0 ((((c.ms.map D.int).length : Nat) : Int) - 1) = true := by
    have := C.o2
    rw [List.length_map]
    exact wi_of C.o1 (by omega)
  show ((wi (.int c.w) 1 10 && szT (iT c.ms) 1 12) && (((c.ms.map D.int).all fun m => wi m 1 31) && ((wi (.int c.cy) 1 28 && lotB (iT c.ls) c.cy) && (wi (.int c.mo) 0 ((((c.ms.map D.int).length : Nat) : Int) - 1) && wi (.int c.mr) 1 3)))) = true
  rw [wi_of C.w1 C.w2, e2, all_wi C.mm, wi_of C.c1 C.c2, e6, e7, wi_of C.r1 C.r2]
  rfl
structure LDay (T : Tab) : Prop extends LDate T where
  raw_year_begins : T.fn "raw_year_begins" = some i_raw_year_begins
  raw_month_begins : T.fn "raw_month_begins" = some i_raw_month_begins
  check_day : T.fn "check_day" = some i_check_day
  date_of : T.fn "date_of" = some i_date_of
  raw_is_date : T.fn "raw_is_date" = some i_raw_is_date
  is_date : T.fn "is_date" = some i_is_date
  day_of : T.fn "day_of" = some i_day_of
  raw_weekday : T.fn "raw_weekday" = some i_raw_weekday
  weekday_of : T.fn "weekday_of" = some i_weekday_of
  date_ahead : T.fn "date_ahead" = some i_date_ahead
section
variable {T : Tab} {L : Nat} (hL : 100001 ≤ L) (A : LDay T) variable {k : Nat} {o : Objs} {c : Cal} {y n x : Int} {i m : Nat} {d v : D} {e : Int}
include A in
theorem ck_calC (C : c.Ok) : cf T L (k + 6) "check_calendar" [.val c.d] o = .ok .non o := by
  rw [v_check_calendar A.toLCal c.d (nQ_d c) (sm2_d C), calB_d C]
  rfl
include A in
theorem v_raw_year_begins (C : c.Ok) (h0 : 0 ≤ y) (hy : y ≤ 10 ^ 40) : cf T L (k + 2) "raw_year_begins" [.val c.d, .val (.int y)] o = .ok (.int (ybg c y)) o := by
  have h1 := C.c1
  have h2 := C.c2
  have hs := C.sum
  have hb := cyd_bd C
  have h4 := C.r1
  have h5 := C.r2
  have hln := C.ln
  have r1 := Int.emod_nonneg y (show c.cy ≠ 0 by omega)
  have r2 := Int.emod_lt_of_pos y (show 0 < c.cy by omega)
  have d1 : 0 ≤ y / c.cy := Int.ediv_nonneg h0 (by omega)
  have d2 : y / c.cy ≤ y := Int.ediv_le_self _ h0
  have lf : (c.ls.filter fun l => decide (l < y % c.cy)).length ≤ 28 := Nat.le_trans (List.length_filter_le _ _) hln
  refine cf_p A.raw_year_begins rfl ?_
  repeat infer_instance
  refine ⟨_, bin_div (by omega) (by omega), ?_⟩
  repeat infer_instance
  refine ⟨_, bin_mod (by omega), ?_⟩
  repeat infer_instance
  refine we_comp (f := fun d => d) (p := fun d => decide (toI d < y % c.cy)) ?_
  repeat infer_instance
  refine ⟨fun d hd => ?_, by rw [List.length_map]; exact ten (by omega), ?_⟩
  · obtain ⟨l, _, rfl⟩ := List.mem_map.mp hd
    refine ⟨_, rfl, ?_, fun _ => ?_⟩
    · repeat infer_instance
      exact ⟨rfl, rfl⟩
    · repeat infer_instance
      exact ⟨rfl, rfl⟩
  have ef : ((c.ls.map D.int).filter fun d => decide (toI d < y % c.cy)) = (c.ls.filter fun l => decide (l < y % c.cy)).map D.int := by
    rw [List.filter_map]
    rfl
  rw [List.map_id', ef]
  repeat infer_instance
  rw [List.length_map]
  refine ⟨_, _, v_raw_cycle_days A.toLDate C, ?_⟩
  repeat infer_instance
  refine ⟨_, bin_mul (by omega) (by omega) (by omega) (by omega), ?_⟩
  repeat infer_instance
  refine ⟨_, sumD c.ms, ?_⟩
  repeat infer_instance
  refine ⟨_, bin_mul (by omega) (by omega) (by omega) (by omega), ?_⟩
  repeat infer_instance
  refine ⟨_, bin_mul (by omega) (by omega) (by omega) (by omega), ?_⟩
  repeat infer_instance
  exact ⟨rfl, rfl⟩
include A in
theorem v_raw_month_begins (C : c.Ok) (h0 : 0 ≤ y) (hy : y ≤ 10 ^ 40) (hx : x = (i : Int)) (hi : i ≤ c.ms.length) : cf T L (k + 3) "raw_month_begins" [.val c.d, .val (.int y), .val (.int x)] o = .ok (.int (mbg c y i)) o := by
  have hm := C.m2
  refine cf_p A.raw_month_begins rfl ?_
  repeat infer_instance
  refine ⟨_, _, v_raw_year_begins A C h0 hy, ?_⟩
  repeat infer_instance
  refine we_comp (f := fun d => .int (mlen c y (toI d).toNat)) (p := fun _ => true) ?_
  repeat infer_instance
  refine ⟨_, i, rfl, hx, by omega, ?_⟩
  refine ⟨fun d hd => ?_, by rw [rgD_len]; exact ten (by omega), ?_⟩
  · obtain ⟨j, hj, rfl⟩ := rg_mem hd
    refine ⟨_, rfl, ?_, fun _ => ?_⟩
    · repeat infer_instance
      exact ⟨rfl, rfl⟩
    · repeat infer_instance
      exact ⟨_, _, v_raw_month_days A.toLDate C rfl (by omega), rfl, rfl⟩
  have er : (rgD 0 i).map (fun d => D.int (mlen c y (toI d).toNat)) = ((List.range i).map fun j => mlen c y j).map D.int := by
    unfold rgD
    rw [← List.range_eq_range', List.map_map, List.map_map]
    rfl
  rw [filter_true, er]
  repeat infer_instance
  have es : bifD .sum [.lst (((List.range i).map fun j => mlen c y j).map D.int)] = some (.int ((List.range i).map fun j => mlen c y j).sum) := by
    have z := intsD_map (fun i : Int => i) ((List.range i).map fun j => mlen c y j)
    rw [List.map_id'] at z
    show (intsD (((List.range i).map fun j => mlen c y j).map D.int)).map _ = _
    rw [z]
    rfl
  refine ⟨_, es, ?_⟩
  repeat infer_instance
  exact ⟨rfl, rfl⟩
include A in
theorem ck_day (C : c.Ok) (h0 : 0 ≤ n) : cf T L (k + 7) "check_day" [.val c.d, .val (.int n)] o = .ok .non o := by
  refine cf_p A.check_day rfl ?_
  repeat infer_instance
  refine ⟨_, _, ck_calC A C, ?_⟩
  repeat infer_instance
  refine ⟨_, _, v_is_number A.toLCal _ rfl, ?_⟩
  rw [show isN (.int n) = true from decide_eq_true h0]
  repeat infer_instance
  exact ⟨rfl, rfl⟩
include A in
theorem ck_dayB (h1 : nQ d = true) (h2 : sm2 d = true) (h3 : calB d = false) : cf T L (k + 7) "check_day" [.val d, .val v] o = .err "NoCalendar" [] o := by
  refine err_first A.check_day rfl rfl ?_
  have := v_check_calendar A.toLCal (L := L) (k := k) (o := o) d h1 h2
  rw [h3] at this
  simp only [exSs, exS, evE, evEs, evAs, evEo, evC, evSrc, evT, frame, getV, getB, Res.ofO, Res.bind, Res.st, SRes.seq, SRes.out, List.getElem?_cons_zero, List.getElem?_cons_succ, List.cons_append, List.nil_append, List.replicate, List.length_cons, List.length_nil, bindT, bindTs, List.set_cons_zero, List.set_cons_succ, frzF, wipeF, setsO, slotF, ownS, this, Bool.false_eq_true, if_false]
include A in
theorem ck_dayN (C : c.Ok) (h1 : okD v = true) (h2 : isN v = false) : cf T L (k + 7) "check_day" [.val c.d, .val v] o = .err "NoDay" [] o := by
  have g1 := ck_calC A (L := L) (k := k) (o := o) C
  have g2 := v_is_number A.toLCal (L := L) (k := k + 4) (o := o) v h1
  rw [h2] at g2
  generalize c.d = q at g1
  refine cf_ok A.check_day rfl ?_ trunc_err
  simp only [s_check_day_1, s_check_day_2, s_check_day_3, i_check_day, exSs, exS, evE, evEs, evAs, evEo, evC, evSrc, evT, frame, getV, getB, Res.ofO, Res.bind, Res.st, SRes.seq, SRes.out, List.getElem?_cons_zero, List.getElem?_cons_succ, List.cons_append, List.nil_append, List.replicate, List.length_cons, List.length_nil, bindT, bindTs, List.set_cons_zero, List.set_cons_succ, frzF, wipeF, setsO, slotF, ownS, g1, g2, Bool.not_false, if_true]
include hL A in
theorem v_date_of (C : c.Ok) (h : IsDt c n y i e) (hn : n ≤ 10 ^ 40) : cf T L (k + 8) "date_of" [.val c.d, .val (.int n)] o = .ok (.tup [.int y, .int (i : Int), .int e]) o := by
  refine cf_p A.date_of rfl ?_
  repeat infer_instance
  refine ⟨_, _, ck_day A C (h.pos C), ?_⟩
  repeat infer_instance
  exact ⟨_, _, v_raw_date hL A.toLDate C h hn, rfl, rfl⟩
include A in
theorem v_weekday_of (C : c.Ok) (h0 : 0 ≤ n) : cf T L (k + 8) "weekday_of" [.val c.d, .val (.int n)] o = .ok (.int (n % c.w)) o := by
  have hw := C.w1
  refine cf_p A.weekday_of rfl ?_
  repeat infer_instance
  refine ⟨_, _, ck_day A C h0, ?_⟩
  repeat infer_instance
  refine ⟨.int (n % c.w), o, ?_, rfl, rfl⟩
  refine cf_p A.raw_weekday rfl ?_
  repeat infer_instance
  exact ⟨_, bin_mod (by omega), rfl, rfl⟩
include hL A in
theorem v_date_ahead (C : c.Ok) (h : IsDt c n y i e) (hn : n ≤ 10 ^ 40) : cf T L (k + 8) "date_ahead" [.val c.d, .val (.int n)] o = .ok (.int (mlen c y i - e + 1)) o := by
  refine cf_p A.date_ahead rfl ?_
  repeat infer_instance
  refine ⟨_, _, ck_day A C (h.pos C), ?_⟩
  repeat infer_instance
  exact ⟨_, _, v_raw_ahead hL A.toLDate C h hn, rfl, rfl⟩
def isDB (c : Cal) : D → Bool
  | .tup [a, b, e] => (isN a && wi b 0 ((c.ms.length : Int) - 1)) && wi e 1 (mlen c (toI a) (toI b).toNat)
  | _ => false
include A in
theorem v_raw_is_date (C : c.Ok) (h : nQ d = true) : cf T L (k + 4) "raw_is_date" [.val c.d, .val d] o = .ok (.bl (isDB c d)) o := by
  refine cf_p A.raw_is_date rfl ?_
  repeat infer_instance
  refine ⟨_, _, v_is_sized A.toLCal d 3 3 (nQ_ok h), ?_⟩
  repeat infer_instance
  cases q : szT d 3 3 with
  | false =>
    repeat infer_instance
    refine ⟨?_, rfl⟩
    congr 1
    unfold isDB
    split
    · exact absurd q (by simp [szT])
    · rfl
  | true =>
    cases d with
    | tup ds =>
      obtain ⟨u, v, w, rfl⟩ := sz3 q
      have hn := nQs_mem (nQ_tup h)
      have nu := hn u (by simp)
      have nv := hn v (by simp)
      have nw := hn w (by simp)
      repeat infer_instance
      refine ⟨_, _, v_is_number A.toLCal u (nQ_ok nu), ?_⟩
      repeat infer_instance
      have eq : isDB c (.tup [u, v, w]) = ((isN u && wi v 0 ((c.ms.length : Int) - 1)) && wi w 1 (mlen c (toI u) (toI v).toNat)) := rfl
      cases q1 : isN u with
      | false =>
        repeat infer_instance
        rw [eq, q1]
        exact ⟨rfl, rfl⟩
      | true =>
        repeat infer_instance
        rw [List.length_map]
        refine ⟨_, _, v_is_within A.toLCal v 0 ((c.ms.length : Int) - 1) (nQ_ok nv), ?_⟩
        repeat infer_instance
        cases q2 : wi v 0 ((c.ms.length : Int) - 1) with
        | false =>
          repeat infer_instance
          rw [eq, q1, q2]
          exact ⟨rfl, rfl⟩
        | true =>
          repeat infer_instance
          obtain ⟨e2, h5, h6⟩ := wi_int q2
          have e1 : u = .int (toI u) := by
            cases u <;> first
              | (cases q1; done)
              | rfl
          rw [eq, q1, q2]
          generalize toI u = a at e1
          generalize toI v = b at e2 h5 h6
          subst e1 e2
          refine ⟨_, _, v_raw_month_days A.toLDate C (i := b.toNat) (by omega) (by omega), ?_⟩
          repeat infer_instance
          refine ⟨_, _, v_is_within A.toLCal w 1 _ (nQ_ok nw), ?_⟩
          rw [Bool.and_self, Bool.true_and]
          exact ⟨rfl, rfl⟩
    | _ => cases q
include A in
theorem v_is_date (C : c.Ok) (h : nQ d = true) : cf T L (k + 7) "is_date" [.val c.d, .val d] o = .ok (.bl (isDB c d)) o := by
  refine cf_p A.is_date rfl ?_
  repeat infer_instance
  refine ⟨_, _, ck_calC A C, ?_⟩
  repeat infer_instance
  exact ⟨_, _, v_raw_is_date A C h, rfl, rfl⟩
theorem isDB_of (h : IsDt c n y i e) : isDB c (.tup [.int y, .int (i : Int), .int e]) = true := by
  have h1 := h.hi
  show (((decide (0 ≤ y)) && wi (.int (i : Int)) 0 ((c.ms.length : Int) - 1)) && wi (.int e) 1 (mlen c y ((i : Int)).toNat)) = true
  rw [decide_eq_true h.y0, wi_of (by omega) (by omega), Int.toNat_natCast, wi_of h.d1 h.d2]
  rfl
theorem IsDt.ylt (C : c.Ok) (h : IsDt c n y i e) : y ≤ n := by
  have := (h.yb C).1
  have z := ybg_mono C (y := 0) (Int.le_refl _) y.toNat
  have h0 := h.y0
  rw [ybg_0 C, show (0 : Int) + (y.toNat : Int) = y by omega] at z
  omega
include A in
theorem v_day_of (C : c.Ok) (h : IsDt c n y i e) (hn : n ≤ 10 ^ 40) : cf T L (k + 7) "day_of" [.val c.d, .val (.tup [.int y, .int (i : Int), .int e])] o = .ok (.int n) o := by
  have := h.ylt C
  refine cf_p A.day_of rfl ?_
  repeat infer_instance
  refine ⟨_, _, ck_calC A C, ?_⟩
  repeat infer_instance
  refine ⟨_, _, v_raw_is_date A C (nQ_tup' (nQs_cons (nQ_int _) (nQs_cons (nQ_int _) (nQs_cons (nQ_int _) nQs_nil)))), ?_⟩
  rw [isDB_of h]
  repeat infer_instance
  refine ⟨_, _, v_raw_month_begins A C h.y0 (by omega) rfl (Nat.le_of_lt h.hi), ?_⟩
  repeat infer_instance
  rw [h.e]
  exact ⟨rfl, rfl⟩
end
end Lib

set_option maxHeartbeats 2000000
/-! Lz: leaves of dates; the other days; what a rule tells. -/
namespace Lib
open PySem Ev
local macro_rules | `(tactic| infer_instance) => `(tactic| first
  | refine wss_cons ?_
  | refine wss_nil ?_
  | refine ws_set ?_
  | refine ws_setOwn ?_
  | refine ws_par ?_
  | refine ws_parO ?_
  | refine ws_expr ?_
  | refine ws_ret ?_
  | refine ws_retN ?_
  | refine ws_retObj ?_
  | refine ws_ife ?_
  | refine ws_append rfl ?_
  | refine ws_extend rfl ?_
  | refine ws_put rfl ?_
  | refine ws_putO rfl ?_
  | refine ws_aug rfl ?_
  | refine ws_frz ?_
  | refine ws_pass ?_
  | refine ws_newDic ?_
  | refine we_var rfl ?_
  | refine we_bor rfl ?_
  | refine we_int ?_
  | refine we_bl ?_
  | refine we_non ?_
  | refine we_str ?_
  | refine we_tup ?_
  | refine we_lst ?_
  | refine we_dnew ?_
  | refine we_bin ?_
  | refine we_neg ?_
  | refine we_not ?_
  | refine we_and ?_
  | refine we_or ?_
  | refine we_cmp ?_
  | refine we_chain ?_
  | refine we_ite ?_
  | refine we_slc ?_
  | refine we_idx ?_
  | refine we_glob (by assumption) ?_
  | refine we_gin (by assumption) ?_
  | refine we_gidx (by assumption) ?_
  | refine we_gget (by assumption) ?_
  | refine we_call ?_
  | refine we_callv rfl ?_
  | refine we_bif ?_
  | refine we_isi ?_
  | refine we_rev ?_
  | refine weo_none ?_
  | refine weo_some ?_
  | refine wes_nil ?_
  | refine wes_cons ?_
  | refine was_nil ?_
  | refine was_val ?_
  | refine was_lam rfl ?_
  | refine wc_none ?_
  | refine wc_some ?_
  | refine wr_seq ?_
  | refine wr_zip ?_
  | refine wr_enum ?_
  | refine wr_rng1 ?_
  | refine wr_rng2 ?_
  | refine And.intro (Nat.le_of_ble_eq_true rfl) ?_
  | refine Exists.intro _ (And.intro rfl ?_)
  | refine Exists.intro _ (And.intro (Or.inl rfl) ?_)
  | refine Exists.intro _ (And.intro (Or.inr rfl) ?_)
  | refine Exists.intro _ (Exists.intro _ (And.intro (Or.inl (And.intro rfl rfl)) ?_))
  | refine Exists.intro _ (And.intro (Or.inr (Or.inl rfl)) ?_)
  | with_reducible refine if_t ?_
  | with_reducible refine if_f ?_
  | with_reducible refine if_nt ?_
  | with_reducible refine if_nf ?_
  | with_reducible refine if_n ?_
  | with_reducible refine g_add ?_
  | with_reducible refine g_sub ?_
  | with_reducible refine g_neg ?_
  | with_reducible refine g_lt ?_
  | with_reducible refine g_le ?_
  | with_reducible refine g_gt ?_
  | with_reducible refine g_ge ?_
  | with_reducible refine g_eqI ?_
  | with_reducible refine g_neI ?_
  | with_reducible refine g_lenf ?_
  | with_reducible refine g_lenfT ?_
  | with_reducible refine g_lenT0 ?_
  | with_reducible refine g_lenT1 ?_
  | with_reducible refine g_lenT2 ?_
  | with_reducible refine g_lenT3 ?_
  | with_reducible refine g_lenT4 ?_
  | with_reducible refine g_len ?_
  | with_reducible refine g_lenT ?_
  | with_reducible refine g_idx0 ?_
  | with_reducible refine g_idx1 ?_
  | with_reducible refine g_idx2 ?_
  | with_reducible refine g_isnB ?_
  | with_reducible refine g_isB ?_
  | ((with_reducible apply g_idx); exact rfl)
  | ((with_reducible apply g_bif); exact rfl)
  | ((with_reducible apply g_eqS); (· decide +kernel); (· decide +kernel))
  | ((with_reducible apply g_neS); (· decide +kernel); (· decide +kernel))
  | ((with_reducible apply g_in); assumption)
  | ((with_reducible apply g_in); exact rfl)
  | refine if_eqt (by decide +kernel) ?_
  | refine if_eqf (by decide +kernel) ?_
  | fail)
section
variable {T : Tab} {L k : Nat} {o : Objs} {v : D}
theorem cc_w {np nl : Nat} {b : IE} {cap ds : List D} (hl : ds.length = np) (w : WE (cf T L k) (cc T L k) T.con T.isa b (frame (ds.map .val ++ cap.map .val) nl) o fun d o' => d = v ∧ o' = o) : cc T L (k + 1) np nl b cap ds o = .ok v o := by
  obtain ⟨d, o', h1, rfl, rfl⟩ := w
  rw [cc_succ hl]
  exact h1
end
structure LCalF (T : Tab) (L : Nat) : Prop where
  F : LForm T L
  day : LDay T
  nodes : LNodes T
  words : LWords T
  rules : LRules T
  has : LHas T
  calendar_form : T.fn "calendar_form" = some i_calendar_form
  is_dated : T.fn "is_dated" = some i_is_dated
  are_dates : T.fn "are_dates" = some i_are_dates
  raw_turned : T.fn "raw_turned" = some i_raw_turned
  tells : T.fn "tells" = some i_tells
  c_date : globD T.con "MOST_DATE" = some (.int 31)
section
variable {T : Tab} {L : Nat} (Z : LCalF T L) variable {k b p m n : Nat} {o : Objs} {f : Nat → Bool} {c : Cal} {x : Int} {cal : D} {l : List Nat} {zs : List Int}
include Z in
theorem v_raw_turned (hp : 0 < p) (per : Per f b p) (hb : b + p ≤ 20000) {b' p' : Nat} (hl : Least (fun i => !f i) b' p') : cf T L (k + 3) "raw_turned" [.val (fD b p f)] o = .ok (fD b' p' fun i => !f i) o := by
  refine cf_p Z.raw_turned rfl ?_
  repeat infer_instance
  refine we_comp (f := fun d => match d with
    | .bl q => .bl (!q)
    | d => d) (p := fun _ => true) ?_
  repeat infer_instance
  refine ⟨_, _, v_raw_flags Z.F.toLCore (m := b + p) (Int.natCast_add _ _).symm hp per hb (by omega), ?_⟩
  repeat infer_instance
  refine ⟨fun d hd => ?_, by rw [flg_len]; exact ten (by omega), ?_⟩
  · obtain ⟨i, _, rfl⟩ := List.mem_map.mp hd
    refine ⟨_, rfl, ?_, fun _ => ?_⟩
    · repeat infer_instance
      exact ⟨rfl, rfl⟩
    · repeat infer_instance
      exact ⟨rfl, rfl⟩
  · have e : (flg f (b + p)).map (fun d => match d with
      | .bl q => .bl (!q)
      | d => d) = flg (fun i => !f i) (b + p) := by
      unfold flg
      rw [List.map_map]
      rfl
    rw [filter_true, e]
    repeat infer_instance
    exact ⟨_, _, v_form_by Z.F.toLCore rfl hp (fun i hi => by show (!f (i + p)) = !f i; rw [per i hi]) hb hl, rfl, rfl⟩
include Z in
theorem v_calendar_form {nl : Nat} {body : IE} {cap : List D} (hx : x = (m : Int)) (hm : 0 < m) (hm2 : m ≤ 20000) (per : Per f 0 m) (hf : ∀ i, i < m → cc T L (k + 2) 1 nl body cap [.int (i : Int)] o = .ok (.bl (f i)) o) {b' p' : Nat} (hl : Least f b' p') :
    cf T L (k + 3) "calendar_form" [.val cal, .val (.int x), .clo 1 nl body cap] o = .ok (fD b' p' f) o := by
  refine cf_p Z.calendar_form rfl ?_
  repeat infer_instance
  refine ⟨_, _, check_width_ok Z.F.check_width Z.F.c_f (by omega), ?_⟩
  repeat infer_instance
  refine we_comp (f := fun d => .bl (f (toI d).toNat)) (p := fun _ => true) ?_
  repeat infer_instance
  refine ⟨_, m, rfl, hx, by omega, ?_⟩
  refine ⟨fun d hd => ?_, by rw [rgD_len]; exact ten (by omega), ?_⟩
  · obtain ⟨i, hi, rfl⟩ := rg_mem hd
    refine ⟨_, rfl, ?_, fun _ => ?_⟩
    · repeat infer_instance
      exact ⟨rfl, rfl⟩
    · repeat infer_instance
      exact ⟨_, _, hf i hi, rfl, rfl⟩
  · rw [filter_true, rg_flg (f := f) fun i _ => rfl]
    repeat infer_instance
    have e : flg f m = flg f (0 + m) := by rw [Nat.zero_add]
    rw [e]
    exact ⟨_, _, v_form_by Z.F.toLCore (b := 0) rfl hm per (by omega) hl, rfl, rfl⟩
/-! what days of months, dates are told -/
noncomputable def fMon (c : Cal) (l : List Nat) (i : Nat) : Bool := decide ((dt c (i : Int)).2.1 ∈ l)
noncomputable def ahd (c : Cal) (i : Nat) : Int := mlen c (dt c (i : Int)).1 (dt c (i : Int)).2.1 - (dt c (i : Int)).2.2 + 1
noncomputable def fDat (c : Cal) (zs : List Int) (i : Nat) : Bool := decide ((dt c (i : Int)).2.2 ∈ zs) || decide (0 - ahd c i ∈ zs)
theorem dt_later (C : c.Ok) (hm : (m : Int) = cyd c) (i : Nat) : (dt c ((i + m : Nat) : Int)).2 = (dt c (i : Int)).2 ∧ mlen c (dt c ((i + m : Nat) : Int)).1 = mlen c (dt c (i : Int)).1 := by
  have h := dt_is C (n := (i : Int)) (by omega)
  have g := h.later C (q := 1) (by omega)
  rw [Int.one_mul, Int.one_mul, ← hm, ← Int.natCast_add] at g
  have e := dt_eq C g
  rw [e]
  refine ⟨rfl, funext fun a => ?_⟩
  have := mlen_cy C (y := (dt c (i : Int)).1) 1 a
  rw [Int.one_mul] at this
  exact this
theorem per_mon (C : c.Ok) (hm : (m : Int) = cyd c) : Per (fMon c l) 0 m := fun i _ => by
  unfold fMon
  rw [(dt_later C hm i).1]
theorem per_dat (C : c.Ok) (hm : (m : Int) = cyd c) : Per (fDat c zs) 0 m := fun i _ => by
  unfold fDat ahd
  rw [(dt_later C hm i).1, (dt_later C hm i).2]
include Z in
theorem v_leaf_month (C : c.Ok) (hm : (m : Int) = cyd c) {b' p' : Nat} (hl : Least (fMon c l) b' p') : cf T L (k + 8) "raw_leaf" [.val c.d, .val (.tup [.str "month", .tup (nT l)])] o = .ok (fD b' p' (fMon c l)) o := by
  have hb := cyd_bd C
  have hp := cyd_pos C
  cases Z.words
  refine cf_p Z.nodes.raw_leaf rfl ?_
  repeat infer_instance
  refine ⟨_, _, v_raw_cycle_days Z.day.toLDate C, ?_⟩
  repeat infer_instance
  refine ⟨_, _, v_calendar_form (k := k + 4) (m := m) Z hm.symm (by omega) (by omega) (per_mon C hm) (fun i hi => ?_) hl, rfl, rfl⟩
  refine cc_w rfl ?_
  repeat infer_instance
  refine ⟨_, _, v_raw_date Z.F.hL Z.day.toLDate C (dt_is C (n := (i : Int)) (by omega)) (by omega), ?_⟩
  repeat infer_instance
  exact ⟨_, cmp_in (inD_nT rfl), rfl, rfl⟩
include Z in
theorem v_leaf_date (C : c.Ok) (hm : (m : Int) = cyd c) {b' p' : Nat} (hl : Least (fDat c zs) b' p') : cf T L (k + 10) "raw_leaf" [.val c.d, .val (.tup [.str "date", iT zs])] o = .ok (fD b' p' (fDat c zs)) o := by
  have hb := cyd_bd C
  have hp := cyd_pos C
  cases Z.words
  refine cf_p Z.nodes.raw_leaf rfl ?_
  repeat infer_instance
  refine ⟨_, _, v_raw_cycle_days Z.day.toLDate C, ?_⟩
  repeat infer_instance
  refine ⟨_, _, v_calendar_form (k := k + 6) (m := m) Z hm.symm (by omega) (by omega) (per_dat C hm) (fun i hi => ?_) hl, rfl, rfl⟩
  have hd := dt_is C (n := (i : Int)) (by omega)
  refine cc_w rfl ?_
  repeat infer_instance
  refine ⟨.bl (fDat c zs i), o, ?_, rfl, rfl⟩
  refine cf_p Z.is_dated rfl ?_
  repeat infer_instance
  refine ⟨_, _, v_raw_date Z.F.hL Z.day.toLDate C hd (by omega), ?_⟩
  repeat infer_instance
  refine ⟨_, cmp_in (inD_ints _ _), ?_⟩
  repeat infer_instance
  refine ⟨fun z => ?_, fun z => ?_⟩
  · refine ⟨?_, rfl⟩
    unfold fDat
    rw [z]
    rfl
  · repeat infer_instance
    refine ⟨_, _, v_raw_ahead Z.F.hL Z.day.toLDate C hd (by omega), ?_⟩
    repeat infer_instance
    refine ⟨_, cmp_in (inD_ints _ _), ?_⟩
    refine ⟨?_, rfl⟩
    unfold fDat
    rw [z, Bool.false_or]
    rfl
/-! their nodes -/
include Z in
theorem n_month (C : c.Ok) (hl : l.Pairwise (· < ·)) (hm : ∀ i ∈ l, i < c.ms.length) (hn : l.length ≤ 1000) : cf T L (k + 6) "is_node" [.val c.d, .val (.tup [.str "month", .tup (nT l)])] o = .ok (.bl true) o := by
  cases Z.words
  have g1 := Z.nodes.d_sizes
  have g2 := Z.nodes.c_leaves
  refine cf_p Z.nodes.is_node rfl ?_
  repeat infer_instance
  refine ⟨.bl true, o, ?_, ⟨rfl, rfl⟩⟩
  refine cf_p Z.nodes.is_leaf_right rfl ?_
  repeat infer_instance
  rw [List.length_map]
  refine ⟨_, _, v_is_lot Z.F.cal _ _ (nQ_tup' (nQs_nT l)) (fun ds e => by cases e; rw [nT_len]; exact ten (by omega)), ?_⟩
  rw [lot_nT hl hm rfl]
  exact ⟨rfl, rfl⟩
include Z in
theorem v_are_dates1 {z : Int} (h1 : -31 ≤ z) (h2 : z ≤ 31) (h3 : z ≠ 0) : cf T L (k + 3) "are_dates" [.val (iT [z])] o = .ok (.bl true) o := by
  have g := Z.c_date
  refine cf_p Z.are_dates rfl ?_
  repeat infer_instance
  refine we_comp (f := fun _ => .bl true) (p := fun _ => true) ?_
  repeat infer_instance
  refine ⟨fun d hd => ?_, Nat.le_of_ble_eq_true rfl, ?_⟩
  · obtain rfl := List.mem_singleton.mp hd
    refine ⟨_, rfl, ?_, fun _ => ?_⟩
    · repeat infer_instance
      exact ⟨rfl, rfl⟩
    · repeat infer_instance
      refine ⟨_, _, v_is_within Z.F.cal _ (-31) 31 rfl, ?_⟩
      rw [wi_of h1 h2]
      repeat infer_instance
      rw [decide_eq_false h3]
      exact ⟨rfl, rfl⟩
  · repeat infer_instance
    refine we_comp (f := fun _ => .bl true) (p := fun _ => true) ?_
    repeat infer_instance
    refine ⟨.tup [], rfl, ?_⟩
    refine ⟨_, _, Or.inr ⟨rfl, rfl⟩, ?_⟩
    refine ⟨fun d hd => (nomatch hd), Nat.zero_le _, ?_⟩
    repeat infer_instance
    exact ⟨rfl, rfl⟩
include Z in
theorem n_date {z : Int} (h1 : -31 ≤ z) (h2 : z ≤ 31) (h3 : z ≠ 0) : cf T L (k + 6) "is_node" [.val c.d, .val (.tup [.str "date", iT [z]])] o = .ok (.bl true) o := by
  cases Z.words
  have g1 := Z.nodes.d_sizes
  have g2 := Z.nodes.c_leaves
  refine cf_p Z.nodes.is_node rfl ?_
  repeat infer_instance
  refine ⟨.bl true, o, ?_, ⟨rfl, rfl⟩⟩
  refine cf_p Z.nodes.is_leaf_right rfl ?_
  repeat infer_instance
  exact ⟨_, _, v_are_dates1 Z h1 h2 h3, rfl, rfl⟩
/-! what a rule tells -/
theorem nO_nT (l : List Nat) : nOs (nT l) = true := by
  unfold nT
  induction l with
  | nil => unfold List.map nOs; rfl
  | cons a l ih =>
    rw [List.map_cons]
    unfold nOs
    rw [ih]
    unfold nO
    rfl
theorem nO_fD : nO (fD b p f) = true := by
  have c : ∀ {d : D} {ds : List D}, Ev.nO d = true → Ev.nOs ds = true → Ev.nOs (d :: ds) = true := fun {d ds} h1 h2 => by
    unfold Ev.nOs
    rw [h1, h2]
    rfl
  have i : ∀ a : Int, Ev.nO (.int a) = true := fun a => by unfold Ev.nO; rfl
  have t : ∀ {ds : List D}, Ev.nOs ds = true → Ev.nO (.tup ds) = true := fun {ds} h => by
    unfold Ev.nO
    exact h
  exact t (c (i _) (c (i _) (c (t (nO_nT _)) (by unfold Ev.nOs; rfl))))
/-- a rule, its days -/
structure Tells (T : Tab) (L : Nat) (c : Cal) (R : Rl) (f : Nat → Bool) (m : Nat) : Prop where
  ok : ∀ k, RlOk T L (k + 7) c.d R
  den : ∀ k b p, Least f b p → Den T L (k + 10) c.d R (fD b p f)
  size : R.size ≤ 10
  hgt : R.hgt ≤ 4
  m1 : 0 < m
  m2 : m ≤ 20000
  per : Per f 0 m
variable {R : Rl}
theorem Tells.least (h : Tells T L c R f m) : ∃ b p, Least f b p ∧ b + p ≤ 20000 ∧ 0 < p := by
  obtain ⟨b, p, hl⟩ := exists_least h.m1 h.per
  have h1 := hl.low _ (h.per.back h.m1 hl.per)
  have h2 := hl.min _ _ h.m1 h.per
  have := h.m2
  exact ⟨b, p, hl, by omega, hl.pos⟩
include Z in
theorem v_form_of' (C : c.Ok) (h : Tells T L c R f m) (ho : o.all SObj.nO = true) (hl : Least f b p) : cf T L (k + 12) "form_of" [.val c.d, .val R.d] o = .ok (fD b p f) o := by
  have := h.size
  have := h.hgt
  exact v_form_of (k := k + 2) Z.F Z.nodes Z.rules (ck_calC Z.day C) (h.ok (k + 2)) (by omega) (by omega) (h.den k b p hl) nO_fD ho
include Z in
theorem v_tells (C : c.Ok) (h : Tells T L c R f m) (ho : o.all SObj.nO = true) (hx : x = (n : Int)) : cf T L (k + 12) "tells" [.val c.d, .val R.d, .val (.int x)] o = .ok (.bl (f n)) o := by
  obtain ⟨b, p, hl, hb, hp⟩ := h.least
  have h1 := h.size
  have h2 := h.hgt
  refine cf_p Z.tells rfl ?_
  repeat infer_instance
  refine ⟨.non, o, ?_, ?_⟩
  · refine cf_p Z.nodes.check_rule rfl ?_
    repeat infer_instance
    refine ⟨_, _, ck_calC Z.day C, ?_⟩
    repeat infer_instance
    refine ⟨_, _, v_raw_is_rule Z.F Z.rules (h.ok (k + 2)) (by omega) (by omega), ?_⟩
    repeat infer_instance
    exact ⟨rfl, rfl⟩
  repeat infer_instance
  refine ⟨_, _, ck_day Z.day C (by omega), ?_⟩
  repeat infer_instance
  refine ⟨_, _, v_raw_form Z.F Z.rules (h.ok (k + 2)).toP (h.den k b p hl) (by omega) nO_fD ho, ?_⟩
  repeat infer_instance
  exact ⟨_, _, v_raw_has Z.has.raw_has hp hl.per hx, rfl, rfl⟩
include Z in
theorem t_not (h : Tells T L c R f m) (hs : R.size ≤ 8) (hh : R.hgt ≤ 3) : Tells T L c (.node (.tup [.str "not", R.d]) [R]) (fun i => !f i) m := by
  have per : Per (fun i => !f i) 0 m := fun i hi => by show (!f (i + m)) = !f i; rw [h.per i hi]
  refine ⟨fun k => ?_, fun k b p hl => ?_, ?_, ?_, h.m1, h.m2, per⟩
  · refine .node (p_one Z.nodes (by kernel_rfl)) (fun o => n_not Z.nodes Z.words) fun r hr => ?_
    obtain rfl := List.mem_singleton.mp hr
    exact h.ok k
  · obtain ⟨b', p', hl', hb', hp'⟩ := h.least
    refine .made (by decide +kernel) (p_one Z.nodes (by kernel_rfl)) (fs := [fD b' p' f]) rfl (fun i r g hr hg => ?_) fun o => m_not Z.nodes Z.words (v_raw_turned Z hp' hl'.per hb' hl)
    cases i with
    | zero => cases hr; cases hg; exact h.den k b' p' hl'
    | succ i => cases hr
  · show 1 + (R.size + 0) ≤ 10
    omega
  · show 1 + max R.hgt 0 ≤ 4
    omega
include Z in
theorem t_week (C : c.Ok) {w : Nat} (hw : (w : Int) = c.w) (hl : l.Pairwise (· < ·)) (hm : ∀ i ∈ l, i < w) (hn : l.length ≤ 900) : Tells T L c (.node (.tup [.str "weekday", .tup (nT l)]) []) (fun i => decide (i % w ∈ l)) w := by
  have h1 := C.w1
  have h2 := C.w2
  refine ⟨fun k => .node (p_leaf Z.nodes (by kernel_rfl)) (fun o => n_week Z.F Z.nodes Z.words hw.symm hl hm (by omega)) fun r hr => (nomatch hr), fun k b p h => .leaf (by decide +kernel) fun o => v_leaf_week Z.F.toLCore Z.words Z.nodes.raw_leaf hw.symm (by omega) (by omega) h, Nat.le_of_ble_eq_true rfl, Nat.le_of_ble_eq_true rfl, by omega, by omega, fun i hi => ?_⟩
  show decide ((i + w) % w ∈ l) = decide (i % w ∈ l)
  rw [Nat.add_mod_right]
include Z in
theorem t_month (C : c.Ok) (hm : (m : Int) = cyd c) (hl : l.Pairwise (· < ·)) (hi : ∀ i ∈ l, i < c.ms.length) (hn : l.length ≤ 900) : Tells T L c (.node (.tup [.str "month", .tup (nT l)]) []) (fMon c l) m := by
  have hb := cyd_bd C
  have hp := cyd_pos C
  exact ⟨fun k => .node (p_leaf Z.nodes (by kernel_rfl)) (fun o => n_month Z C hl hi (by omega)) fun r hr => (nomatch hr), fun k b p h => .leaf (by decide +kernel) fun o => v_leaf_month Z C hm h, Nat.le_of_ble_eq_true rfl, Nat.le_of_ble_eq_true rfl, by omega, by omega, per_mon C hm⟩
include Z in
theorem t_date (C : c.Ok) (hm : (m : Int) = cyd c) {z : Int} (h1 : -31 ≤ z) (h2 : z ≤ 31) (h3 : z ≠ 0) : Tells T L c (.node (.tup [.str "date", iT [z]]) []) (fDat c [z]) m := by
  have hb := cyd_bd C
  have hp := cyd_pos C
  exact ⟨fun k => .node (p_leaf Z.nodes (by kernel_rfl)) (fun o => n_date Z h1 h2 h3) fun r hr => (nomatch hr), fun k b p h => .leaf (by decide +kernel) fun o => v_leaf_date Z C hm h, Nat.le_of_ble_eq_true rfl, Nat.le_of_ble_eq_true rfl, by omega, by omega, per_dat C hm⟩
end
end Lib

set_option maxHeartbeats 2000000
/-! K01b: rows of days; days and leaves right. -/
namespace K01
open PySem Ev Lib
local macro_rules | `(tactic| infer_instance) => `(tactic| first
  | refine wss_cons ?_
  | refine wss_nil ?_
  | refine ws_set ?_
  | refine ws_setOwn ?_
  | refine ws_par ?_
  | refine ws_parO ?_
  | refine ws_expr ?_
  | refine ws_ret ?_
  | refine ws_retN ?_
  | refine ws_retObj ?_
  | refine ws_ife ?_
  | refine ws_append rfl ?_
  | refine ws_extend rfl ?_
  | refine ws_put rfl ?_
  | refine ws_putO rfl ?_
  | refine ws_aug rfl ?_
  | refine ws_frz ?_
  | refine ws_pass ?_
  | refine ws_newDic ?_
  | refine we_var rfl ?_
  | refine we_bor rfl ?_
  | refine we_int ?_
  | refine we_bl ?_
  | refine we_non ?_
  | refine we_str ?_
  | refine we_tup ?_
  | refine we_lst ?_
  | refine we_dnew ?_
  | refine we_bin ?_
  | refine we_neg ?_
  | refine we_not ?_
  | refine we_and ?_
  | refine we_or ?_
  | refine we_cmp ?_
  | refine we_chain ?_
  | refine we_ite ?_
  | refine we_slc ?_
  | refine we_idx ?_
  | refine we_glob (by assumption) ?_
  | refine we_gin (by assumption) ?_
  | refine we_gidx (by assumption) ?_
  | refine we_gget (by assumption) ?_
  | refine we_call ?_
  | refine we_callv rfl ?_
  | refine we_bif ?_
  | refine we_isi ?_
  | refine we_rev ?_
  | refine weo_none ?_
  | refine weo_some ?_
  | refine wes_nil ?_
  | refine wes_cons ?_
  | refine was_nil ?_
  | refine was_val ?_
  | refine was_lam rfl ?_
  | refine wc_none ?_
  | refine wc_some ?_
  | refine wr_seq ?_
  | refine wr_zip ?_
  | refine wr_enum ?_
  | refine wr_rng1 ?_
  | refine wr_rng2 ?_
  | refine And.intro (Nat.le_of_ble_eq_true rfl) ?_
  | refine Exists.intro _ (And.intro rfl ?_)
  | refine Exists.intro _ (And.intro (Or.inl rfl) ?_)
  | refine Exists.intro _ (And.intro (Or.inr rfl) ?_)
  | refine Exists.intro _ (Exists.intro _ (And.intro (Or.inl (And.intro rfl rfl)) ?_))
  | refine Exists.intro _ (And.intro (Or.inr (Or.inl rfl)) ?_)
  | with_reducible refine if_t ?_
  | with_reducible refine if_f ?_
  | with_reducible refine if_nt ?_
  | with_reducible refine if_nf ?_
  | with_reducible refine if_n ?_
  | with_reducible refine g_add ?_
  | with_reducible refine g_sub ?_
  | with_reducible refine g_neg ?_
  | with_reducible refine g_lt ?_
  | with_reducible refine g_le ?_
  | with_reducible refine g_gt ?_
  | with_reducible refine g_ge ?_
  | with_reducible refine g_eqI ?_
  | with_reducible refine g_neI ?_
  | with_reducible refine g_lenf ?_
  | with_reducible refine g_lenfT ?_
  | with_reducible refine g_lenT0 ?_
  | with_reducible refine g_lenT1 ?_
  | with_reducible refine g_lenT2 ?_
  | with_reducible refine g_lenT3 ?_
  | with_reducible refine g_lenT4 ?_
  | with_reducible refine g_len ?_
  | with_reducible refine g_lenT ?_
  | with_reducible refine g_idx0 ?_
  | with_reducible refine g_idx1 ?_
  | with_reducible refine g_idx2 ?_
  | with_reducible refine g_isnB ?_
  | with_reducible refine g_isB ?_
  | ((with_reducible apply g_idx); exact rfl)
  | ((with_reducible apply g_bif); exact rfl)
  | ((with_reducible apply g_eqS); (· decide +kernel); (· decide +kernel))
  | ((with_reducible apply g_neS); (· decide +kernel); (· decide +kernel))
  | ((with_reducible apply g_in); assumption)
  | ((with_reducible apply g_in); exact rfl)
  | refine if_eqt (by decide +kernel) ?_
  | refine if_eqf (by decide +kernel) ?_
  | fail)
structure Own (T : Tab) (L : Nat) : Prop where
  Z : LCalF T L
  hand : LHand T
  law_calendar : T.fn "_law_calendar" = some i__law_calendar
  law_days : T.fn "_law_days" = some i__law_days
  law_word : T.fn "_law_word" = some i__law_word
  law_cycle : T.fn "_law_cycle" = some i__law_cycle
  law_row : T.fn "_law_row" = some i__law_row
  law_day_right : T.fn "_law_day_right" = some i__law_day_right
  law_leaves_right : T.fn "_law_leaves_right" = some i__law_leaves_right
  law_dates_right : T.fn "_law_dates_right" = some i__law_dates_right
  law_none : T.fn "_law_none" = some i__law_none
  law : T.fn "law" = some i_law
  isa : T.isa = isa
section
variable {T : Tab} {L : Nat} (W : Own T L) variable {k n m : Nat} {o : Objs} {c : Cal} {x y : Int}
include W in
theorem v_cycle (C : c.Ok) : cf T L (k + 1) "_law_cycle" [.val c.d] o = .ok (.int (cyd c)) o := by
  have z := C.sum
  have h1 := C.c1
  have h2 := C.c2
  have h3 := C.ln
  have h4 := C.r1
  have h5 := C.r2
  refine cf_p W.law_cycle rfl ?_
  repeat infer_instance
  refine ⟨_, sumD c.ms, ?_⟩
  repeat infer_instance
  refine ⟨_, bin_mul (by omega) (by omega) (by omega) (by omega), ?_⟩
  repeat infer_instance
  refine ⟨_, bin_mul (by rw [List.length_map]; omega) (by rw [List.length_map]; omega) (by omega) (by omega), ?_⟩
  repeat infer_instance
  rw [List.length_map]
  exact ⟨rfl, rfl⟩
theorem rows_get {r : Nat} (h : r < m) : (rows c m)[r]? = some (rowD c r) := by
  unfold rows
  rw [List.getElem?_map, List.getElem?_range h]
  rfl
include W in
theorem v_row (C : c.Ok) (hm : (m : Int) = cyd c) (hx : x = (n : Int)) (hn : n ≤ 10 ^ 40) : cf T L (k + 2) "_law_row" [.val c.d, .val (.lst (rows c m)), .val (.int x)] o = .ok (rowD c n) o := by
  have hb := cyd_bd C
  have hp := cyd_pos C
  have hw := C.w1
  have h1 := C.c1
  have h2 := C.c2
  have hr : n % m < m := Nat.mod_lt _ (by omega)
  have hq : n / m ≤ n := Nat.div_le_self _ _
  have em : n = n % m + n / m * m := by
    have := Nat.mod_add_div n m
    rw [Nat.mul_comm] at this
    omega
  have hd := dt_is C (n := ((n % m : Nat) : Int)) (by omega)
  have hl := hd.later C (q := ((n / m : Nat) : Int)) (Int.natCast_nonneg _)
  rw [← hm, show ((n % m : Nat) : Int) + ((n / m : Nat) : Int) * (m : Int) = (n : Int) by
    rw [← Int.natCast_mul, ← Int.natCast_add, ← em]] at hl
  have er : rowD c n = .tup [.int ((dt c ((n % m : Nat) : Int)).1 + ((n / m : Nat) : Int) * c.cy), .int ((dt c ((n % m : Nat) : Int)).2.1 : Int), .int (dt c ((n % m : Nat) : Int)).2.2, .int (mlen c (dt c ((n % m : Nat) : Int)).1 (dt c ((n % m : Nat) : Int)).2.1 - (dt c ((n % m : Nat) : Int)).2.2 + 1), .int ((n : Int) % c.w)] := by
    unfold rowD
    rw [dt_eq C hl, mlen_cy C]
  rw [er]
  refine cf_p W.law_row rfl ?_
  subst hx
  repeat infer_instance
  refine ⟨_, _, v_cycle W C, ?_⟩
  rw [← hm]
  repeat infer_instance
  refine ⟨_, bin_mod (by omega), ?_⟩
  repeat infer_instance
  refine ⟨_, idx_lst (i := n % m) (by norm_cast) (rows_get hr), ?_⟩
  repeat infer_instance
  refine ⟨_, bin_div (by omega) (by omega), ?_⟩
  repeat infer_instance
  rw [show ((n : Nat) : Int) / ((m : Nat) : Int) = ((n / m : Nat) : Int) by norm_cast]
  refine ⟨_, bin_mul (Int.le_trans (by decide) (Int.natCast_nonneg _)) (Int.le_trans (Int.ofNat_le.mpr hq) (by omega)) (by omega) (by omega), ?_⟩
  repeat infer_instance
  refine ⟨_, bin_mod (by omega), ?_⟩
  repeat infer_instance
  exact ⟨rfl, rfl⟩
theorem slcT3 {a b d e f : D} : slcD (.tup [a, b, d, e, f]) none (some 3) = some (.tup [a, b, d]) := rfl
theorem pl3 {a b d : Int} : plk (.tup [.int a, .int b, .int d]) = true := by rfl
include W in
theorem v_day_right (C : c.Ok) (hm : (m : Int) = cyd c) (hx : x = (n : Int)) (hn : n ≤ 10 ^ 40) : cf T L (k + 9) "_law_day_right" [.val c.d, .val (.lst (rows c m)), .val (.int x)] o = .ok (.bl true) o := by
  have hd := dt_is C (n := (n : Int)) (by omega)
  have hx2 : x ≤ 10 ^ 40 := by omega
  rw [← hx] at hd
  refine cf_p W.law_day_right rfl ?_
  repeat infer_instance
  refine ⟨_, _, v_row W C hm hx hn, ?_⟩
  have er : rowD c n = .tup [.int (dt c x).1, .int ((dt c x).2.1 : Int), .int (dt c x).2.2, .int (mlen c (dt c x).1 (dt c x).2.1 - (dt c x).2.2 + 1), .int (x % c.w)] := by
    unfold rowD
    rw [hx]
  rw [er]
  generalize (dt c x).1 = y at *
  generalize (dt c x).2.1 = i at *
  generalize (dt c x).2.2 = e at *
  repeat infer_instance
  refine ⟨_, _, v_date_of W.Z.F.hL W.Z.day C hd hx2, ?_⟩
  repeat infer_instance
  refine ⟨_, slcT3, ?_⟩
  repeat infer_instance
  refine ⟨_, cmp_ne (eqD_refl pl3), ?_⟩
  repeat infer_instance
  refine ⟨_, slcT3, ?_⟩
  repeat infer_instance
  refine ⟨_, _, v_day_of W.Z.day C hd hx2, ?_⟩
  repeat infer_instance
  rw [decide_eq_true rfl]
  repeat infer_instance
  refine ⟨_, _, v_weekday_of W.Z.day C (hd.pos C), ?_⟩
  repeat infer_instance
  rw [decide_eq_true rfl]
  repeat infer_instance
  refine ⟨_, _, v_date_ahead W.Z.F.hL W.Z.day C hd hx2, ?_⟩
  repeat infer_instance
  rw [decide_eq_true rfl]
  exact ⟨rfl, rfl⟩
theorem all4 : bifD .all [.lst [.bl true, .bl true, .bl true, .bl true]] = some (.bl true) := rfl
theorem any4 : bifD .any [.lst [.bl false, .bl false, .bl false, .bl false]] = some (.bl false) := rfl
include W in
theorem v_leaves_right (C : c.Ok) (hm : (m : Int) = cyd c) (h31 : ∀ y i, i < c.ms.length → mlen c y i ≤ 31) (hx : x = (n : Int)) (hn : n ≤ 1000) (ho : o.all SObj.nO = true) : cf T L (k + 14) "_law_leaves_right" [.val c.d, .val (.lst (rows c m)), .val (.int x)] o = .ok (.bl true) o := by
  have hw1 := C.w1
  have hw2 := C.w2
  obtain ⟨w, hw⟩ : ∃ w : Nat, (w : Int) = c.w := ⟨c.w.toNat, by omega⟩
  have hd := dt_is C (n := (n : Int)) (by omega)
  have hmd := Nat.mod_lt n (show 0 < w by omega)
  have ex : x % c.w = ((n % w : Nat) : Int) := by
    rw [hx, ← hw]
    norm_cast
  have hA : ahd c n = mlen c (dt c (n : Int)).1 (dt c (n : Int)).2.1 - (dt c (n : Int)).2.2 + 1 := rfl
  have k1 := h31 (dt c (n : Int)).1 _ hd.hi
  have k2 := hd.d1
  have k3 := hd.d2
  have t1 := t_week W.Z C hw (l := [n % w]) (List.pairwise_singleton _ _) (fun i hi => by obtain rfl := List.mem_singleton.mp hi; exact hmd) (by show 1 ≤ 900; omega)
  have t2 := t_month W.Z C hm (l := [(dt c (n : Int)).2.1]) (List.pairwise_singleton _ _) (fun i hi => by obtain rfl := List.mem_singleton.mp hi; exact hd.hi) (by show 1 ≤ 900; omega)
  have t3 := t_date W.Z C hm (z := (dt c (n : Int)).2.2) (by omega) (by omega) (by omega)
  have t4 := t_date W.Z C hm (z := 0 - ahd c n) (by omega) (by omega) (by omega)
  have f1 : (fun i => decide (i % w ∈ [n % w])) n = true := decide_eq_true (List.mem_singleton.mpr rfl)
  have f2 : fMon c [(dt c (n : Int)).2.1] n = true := decide_eq_true (List.mem_singleton.mpr rfl)
  have f3 : fDat c [(dt c (n : Int)).2.2] n = true := by
    unfold fDat
    rw [decide_eq_true (List.mem_singleton.mpr rfl)]
    rfl
  have f4 : fDat c [0 - ahd c n] n = true := by
    unfold fDat
    rw [decide_eq_true (show 0 - ahd c n ∈ [0 - ahd c n] from List.mem_singleton.mpr rfl), Bool.or_true]
  -- what is told, and what is not
  have key : ∀ {R : Rl} {f : Nat → Bool} {p : Nat}, Tells T L c R f p → R.size ≤ 8 → R.hgt ≤ 3 → f n = true →
      cf T L (k + 13) "tells" [.val c.d, .val R.d, .val (.int x)] o = .ok (.bl true) o ∧ ∃ fd, cf T L (k + 13) "form_of" [.val c.d, .val (.tup [.str "not", R.d])] o = .ok fd o ∧ cf T L (k + 13) "has_day" [.val fd, .val (.int x)] o = .ok (.bl false) o := by
    intro R f p t hs hh hf
    have h1 := v_tells (k := k + 1) W.Z C t ho hx
    rw [hf] at h1
    obtain ⟨b', p', hl, hb, hp⟩ := (t_not W.Z t hs hh).least
    have h2 := v_form_of' (k := k + 1) W.Z C (t_not W.Z t hs hh) ho hl
    have h3 := v_has_day (k := k + 6) (o := o) W.Z.F W.Z.has hp hl.per hb hx
    rw [show (!f n) = false by rw [hf]; rfl] at h3
    exact ⟨h1, _, h2, h3⟩
  have g1 := key t1 (Nat.le_of_ble_eq_true rfl) (Nat.le_of_ble_eq_true rfl) f1
  have g2 := key t2 (Nat.le_of_ble_eq_true rfl) (Nat.le_of_ble_eq_true rfl) f2
  have g3 := key t3 (Nat.le_of_ble_eq_true rfl) (Nat.le_of_ble_eq_true rfl) f3
  have g4 := key t4 (Nat.le_of_ble_eq_true rfl) (Nat.le_of_ble_eq_true rfl) f4
  refine cf_p W.law_leaves_right rfl ?_
  repeat infer_instance
  refine ⟨_, _, v_row W C hm hx (by omega), ?_⟩
  have er : rowD c n = .tup [.int (dt c (n : Int)).1, .int ((dt c (n : Int)).2.1 : Int), .int (dt c (n : Int)).2.2, .int (ahd c n), .int ((n % w : Nat) : Int)] := by
    unfold rowD
    rw [← hx, ex, hx]
    rfl
  rw [er]
  repeat infer_instance
  refine we_comp (f := fun _ => .bl true) (p := fun _ => true) ?_
  repeat infer_instance
  refine ⟨fun d hd => ?_, Nat.le_of_ble_eq_true rfl, ?_⟩
  · refine ⟨_, rfl, ?_, fun _ => ?_⟩
    · repeat infer_instance
      exact ⟨rfl, rfl⟩
    · simp only [List.mem_cons, List.not_mem_nil, or_false] at hd
      repeat infer_instance
      rcases hd with rfl | rfl | rfl | rfl
      · exact ⟨_, _, g1.1, rfl, rfl⟩
      · exact ⟨_, _, g2.1, rfl, rfl⟩
      · exact ⟨_, _, g3.1, rfl, rfl⟩
      · exact ⟨_, _, g4.1, rfl, rfl⟩
  repeat infer_instance
  refine we_comp (f := fun _ => .bl false) (p := fun _ => true) ?_
  repeat infer_instance
  refine ⟨fun d hd => ?_, Nat.le_of_ble_eq_true rfl, ?_⟩
  · refine ⟨_, rfl, ?_, fun _ => ?_⟩
    · repeat infer_instance
      exact ⟨rfl, rfl⟩
    · simp only [List.mem_cons, List.not_mem_nil, or_false] at hd
      repeat infer_instance
      rcases hd with rfl | rfl | rfl | rfl
      · obtain ⟨_, fd, e1, e2⟩ := g1
        refine ⟨_, _, e1, ?_⟩
        repeat infer_instance
        exact ⟨_, _, e2, rfl, rfl⟩
      · obtain ⟨_, fd, e1, e2⟩ := g2
        refine ⟨_, _, e1, ?_⟩
        repeat infer_instance
        exact ⟨_, _, e2, rfl, rfl⟩
      · obtain ⟨_, fd, e1, e2⟩ := g3
        refine ⟨_, _, e1, ?_⟩
        repeat infer_instance
        exact ⟨_, _, e2, rfl, rfl⟩
      · obtain ⟨_, fd, e1, e2⟩ := g4
        refine ⟨_, _, e1, ?_⟩
        repeat infer_instance
        exact ⟨_, _, e2, rfl, rfl⟩
  repeat infer_instance
  refine we_comp (f := fun d => d) (p := fun d => !decide (toI d = ((n % w : Nat) : Int))) ?_
  repeat infer_instance
  refine ⟨_, w, rfl, hw.symm, by omega, ?_⟩
  refine ⟨fun d hd => ?_, by rw [rgD_len]; exact ten (by omega), ?_⟩
  · obtain ⟨i, hi, rfl⟩ := rg_mem hd
    refine ⟨_, rfl, ?_, fun _ => ?_⟩
    · repeat infer_instance
      exact ⟨rfl, rfl⟩
    · repeat infer_instance
      exact ⟨rfl, rfl⟩
  rw [List.map_id']
  have eo : ((rgD 0 w).filter fun d => !decide (toI d = ((n % w : Nat) : Int))) = nT ((List.range w).filter fun i => !decide (i = n % w)) := by
    unfold rgD nT
    rw [← List.range_eq_range', List.filter_map]
    congr 1
    refine List.filter_congr fun i _ => ?_
    show (!decide ((i : Int) = ((n % w : Nat) : Int))) = !decide (i = n % w)
    congr 2
    refine propext ⟨fun h => by omega, fun h => by omega⟩
  rw [eo]
  have hlen : ((List.range w).filter fun i => !decide (i = n % w)).length ≤ 900 := Nat.le_trans (List.length_filter_le _ _) (by rw [List.length_range]; omega)
  have t5 := t_week W.Z C hw (l := (List.range w).filter fun i => !decide (i = n % w)) (List.Pairwise.filter _ List.pairwise_lt_range) (fun i hi => List.mem_range.mp (List.mem_filter.mp hi).1) hlen
  have f5 : decide (n % w ∈ (List.range w).filter fun i => !decide (i = n % w)) = false := decide_eq_false fun h => by
    have := (List.mem_filter.mp h).2
    rw [decide_eq_true rfl] at this
    cases this
  have h5 := v_tells (k := k + 1) W.Z C t5 ho hx
  rw [f5] at h5
  repeat infer_instance
  refine ⟨_, _, h5, ?_⟩
  repeat infer_instance
  exact ⟨rfl, rfl⟩
end
end K01

set_option maxHeartbeats 20000000
/-! K01c: dates that are, and are none; the law. -/
namespace K01
open PySem Ev Lib
local macro_rules | `(tactic| infer_instance) => `(tactic| first
  | refine wss_cons ?_
  | refine wss_nil ?_
  | refine ws_set ?_
  | refine ws_setOwn ?_
  | refine ws_par ?_
  | refine ws_parO ?_
  | refine ws_expr ?_
  | refine ws_ret ?_
  | refine ws_retN ?_
  | refine ws_retObj ?_
  | refine ws_ife ?_
  | refine ws_append rfl ?_
  | refine ws_extend rfl ?_
  | refine ws_put rfl ?_
  | refine ws_putO rfl ?_
  | refine ws_aug rfl ?_
  | refine ws_frz ?_
  | refine ws_pass ?_
  | refine ws_newDic ?_
  | refine we_var rfl ?_
  | refine we_bor rfl ?_
  | refine we_int ?_
  | refine we_bl ?_
  | refine we_non ?_
  | refine we_str ?_
  | refine we_tup ?_
  | refine we_lst ?_
  | refine we_dnew ?_
  | refine we_bin ?_
  | refine we_neg ?_
  | refine we_not ?_
  | refine we_and ?_
  | refine we_or ?_
  | refine we_cmp ?_
  | refine we_chain ?_
  | refine we_ite ?_
  | refine we_slc ?_
  | refine we_idx ?_
  | refine we_glob (by assumption) ?_
  | refine we_gin (by assumption) ?_
  | refine we_gidx (by assumption) ?_
  | refine we_gget (by assumption) ?_
  | refine we_call ?_
  | refine we_callv rfl ?_
  | refine we_bif ?_
  | refine we_isi ?_
  | refine we_rev ?_
  | refine weo_none ?_
  | refine weo_some ?_
  | refine wes_nil ?_
  | refine wes_cons ?_
  | refine was_nil ?_
  | refine was_val ?_
  | refine was_lam rfl ?_
  | refine wc_none ?_
  | refine wc_some ?_
  | refine wr_seq ?_
  | refine wr_zip ?_
  | refine wr_enum ?_
  | refine wr_rng1 ?_
  | refine wr_rng2 ?_
  | refine And.intro (Nat.le_of_ble_eq_true rfl) ?_
  | refine Exists.intro _ (And.intro rfl ?_)
  | refine Exists.intro _ (And.intro (Or.inl rfl) ?_)
  | refine Exists.intro _ (And.intro (Or.inr rfl) ?_)
  | refine Exists.intro _ (Exists.intro _ (And.intro (Or.inl (And.intro rfl rfl)) ?_))
  | refine Exists.intro _ (And.intro (Or.inr (Or.inl rfl)) ?_)
  | with_reducible refine if_t ?_
  | with_reducible refine if_f ?_
  | with_reducible refine if_nt ?_
  | with_reducible refine if_nf ?_
  | with_reducible refine if_n ?_
  | with_reducible refine g_add ?_
  | with_reducible refine g_sub ?_
  | with_reducible refine g_neg ?_
  | with_reducible refine g_lt ?_
  | with_reducible refine g_le ?_
  | with_reducible refine g_gt ?_
  | with_reducible refine g_ge ?_
  | with_reducible refine g_eqI ?_
  | with_reducible refine g_neI ?_
  | with_reducible refine g_lenf ?_
  | with_reducible refine g_lenfT ?_
  | with_reducible refine g_lenT0 ?_
  | with_reducible refine g_lenT1 ?_
  | with_reducible refine g_lenT2 ?_
  | with_reducible refine g_lenT3 ?_
  | with_reducible refine g_lenT4 ?_
  | with_reducible refine g_len ?_
  | with_reducible refine g_lenT ?_
  | with_reducible refine g_idx0 ?_
  | with_reducible refine g_idx1 ?_
  | with_reducible refine g_idx2 ?_
  | with_reducible refine g_isnB ?_
  | with_reducible refine g_isB ?_
  | ((with_reducible apply g_idx); exact rfl)
  | ((with_reducible apply g_bif); exact rfl)
  | ((with_reducible apply g_eqS); (· decide +kernel); (· decide +kernel))
  | ((with_reducible apply g_neS); (· decide +kernel); (· decide +kernel))
  | ((with_reducible apply g_in); assumption)
  | ((with_reducible apply g_in); exact rfl)
  | refine if_eqt (by decide +kernel) ?_
  | refine if_eqf (by decide +kernel) ?_
  | fail)
section
variable {T : Tab} {L : Nat} (W : Own T L) variable {k n m : Nat} {o : Objs} {c : Cal} {x y : Int}
/-! ### what is refused -/
def W3 (x : Str) : Prop := x = "NoCalendar" ∨ x = "NoDate" ∨ x = "NoDay"
theorem w_tail {F : FnT} {C' : CloT} {G : Str → Option D} {x : Str} {s : Slot} (h : W3 x) : exSs F C' G isa L b__law_word_7 [s, .exc x [], .none, .none, .none, .none] o = .ret (.str x) o := by
  rcases h with rfl | rfl | rfl <;> kernel_rfl
theorem w_isa {x : Str} (h : W3 x) : isa x "DateError" = true := by
  rcases h with rfl | rfl | rfl <;> kernel_rfl
include W in
theorem v_word {np nl : Nat} {body : IE} {cap : List D} {x : Str} (hx : W3 x) (h : cc T L k np nl body cap [] o = .err x [] o) : cf T L (k + 1) "_law_word" [.clo np nl body cap] o = .ok (.str x) o := by
  have h1 := w_tail (L := L) (F := cf T L k) (C' := cc T L k) (G := T.con) (o := o) (s := .clo np nl body cap) hx
  have h2 := w_isa hx
  rw [← W.isa] at h1 h2
  have hb : exSs (cf T L k) (cc T L k) T.con T.isa L b__law_word_2 [.clo np nl body cap, .none, .none, .none, .none, .none] o = .err x [] [.clo np nl body cap, .none, .none, .none, .none, .none] o := by
    simp only [b__law_word_2, s__law_word_1, exSs, exS, evE, evEs, evAs, evEo, evC, evSrc, evT, frame, getV, getB, Res.ofO, Res.bind, Res.st, SRes.seq, SRes.out, List.getElem?_cons_zero, List.getElem?_cons_succ, List.cons_append, List.nil_append, List.replicate, List.length_cons, List.length_nil, bindT, bindTs, List.set_cons_zero, List.set_cons_succ, frzF, wipeF, setsO, slotF, ownS, h]
  have e8 : exS (cf T L k) (cc T L k) T.con T.isa L s__law_word_8 [.clo np nl body cap, .none, .none, .none, .none, .none] o = .ret (.str x) o := by
    simp only [s__law_word_8, exS, hb, h2, if_true, List.set_cons_zero, List.set_cons_succ, h1]
  refine cf_ok W.law_word rfl ?_ trunc_ok
  show ((exSs (cf T L k) (cc T L k) T.con T.isa L (.cons s__law_word_8 (.cons s__law_word_9 .nil)) [.clo np nl body cap, .none, .none, .none, .none, .none] o).out) = _
  rw [exSs, e8]
  rfl
theorem cc_err {f : Str} {as : IAs} {nl : Nat} {cap : List D} {sl : List Slot} {x : Str} (ha : evAs (cf T L k) (cc T L k) T.con T.isa as (frame (cap.map .val) nl) o = .ok sl o) (h : cf T L k f sl o = .err x [] o) : cc T L (k + 1) 0 nl (.call f as) cap [] o = .err x [] o := by
  rw [cc_succ (np := 0) (ds := []) rfl]
  show evE _ _ _ _ (.call f as) (frame (cap.map .val) nl) o = _
  unfold evE
  rw [ha]
  exact h
def odds : List D := [.int (-1), .non, .str "?", .bl true, .tup [.int 0], .dct [] []]
theorem odd_ok : ∀ d ∈ odds, okD d = true ∧ isN d = false := by
  intro d hd
  simp only [odds, List.mem_cons, List.not_mem_nil, or_false] at hd
  rcases hd with rfl | rfl | rfl | rfl | rfl | rfl <;> exact ⟨rfl, rfl⟩
def nones : List D := [.non, .str "?", .tup [.int 3, .tup [.int 2]], .lst [], .dct [] [], .tup [.int 0, .tup [.int 2, .int 3], .tup [.int 1, .tup [], .int 0, .int 1]]]
theorem none_ok : ∀ d ∈ nones, nQ d = true ∧ sm2 d = true ∧ calB d = false := by
  have i := nQ_int
  intro d hd
  simp only [nones, List.mem_cons, List.not_mem_nil, or_false] at hd
  rcases hd with rfl | rfl | rfl | rfl | rfl | rfl
  · exact ⟨nQ_non, rfl, rfl⟩
  · exact ⟨nQ_str _, rfl, rfl⟩
  · exact ⟨nQ_tup' (nQs_cons (i _) (nQs_cons (nQ_tup' (nQs_cons (i _) nQs_nil)) nQs_nil)), rfl, rfl⟩
  · exact ⟨nQ_lst' nQs_nil, rfl, rfl⟩
  · exact ⟨nQ_dct _ _, rfl, rfl⟩
  · exact ⟨nQ_tup' (nQs_cons (i _) (nQs_cons (nQ_tup' (nQs_cons (i _) (nQs_cons (i _) nQs_nil))) (nQs_cons (nQ_tup' (nQs_cons (i _) (nQs_cons (nQ_tup' nQs_nil) (nQs_cons (i _) (nQs_cons (i _) nQs_nil))))) nQs_nil))), rfl, rfl⟩
def bads (c : Cal) (y : Int) (i : Int) (e a : Int) : List D := [.tup [.int y, .int i, .int (e + a)], .tup [.int y, .int i, .int 0], .tup [.int y, .int (c.ms.length : Int), .int e], .tup [.int (-1), .int i, .int e], .non, .str "?"] ++
  [.lst [.int y, .int i, .int e], .tup [.int y, .int i], .tup [.int y, .int i, .bl true], .tup [.int y, .non, .int e], .tup [.int y, .int i, .int e, .int 1]]
theorem bad_ok {i : Nat} {e a : Int} {nn : Int} (h : IsDt c nn y i e) (ha : a = mlen c y i - e + 1) : ∀ d ∈ bads c y (i : Int) e a, nQ d = true ∧ isDB c d = false := by
  have q := nQ_int
  have n3 : ∀ {a b c : D}, nQ a = true → nQ b = true → nQ c = true → nQ (.tup [a, b, c]) = true := fun h1 h2 h3 => nQ_tup' (nQs_cons h1 (nQs_cons h2 (nQs_cons h3 nQs_nil)))
  have f3 : ∀ {u v w : D}, isN u = false ∨ wi v 0 ((c.ms.length : Int) - 1) = false ∨ wi w 1 (mlen c (toI u) (toI v).toNat) = false → isDB c (.tup [u, v, w]) = false := fun {u v w} h => by
    show ((isN u && wi v 0 ((c.ms.length : Int) - 1)) && wi w 1 (mlen c (toI u) (toI v).toNat)) = false
    rcases h with h | h | h
    · rw [h, Bool.false_and, Bool.false_and]
    · rw [h, Bool.and_false, Bool.false_and]
    · rw [h, Bool.and_false]
  intro d hd
  unfold bads at hd
  simp only [List.cons_append, List.nil_append, List.mem_cons, List.not_mem_nil, or_false] at hd
  have em : mlen c (toI (.int y)) (toI (.int (i : Int))).toNat = mlen c y i := by
    show mlen c y ((i : Int)).toNat = _
    rw [Int.toNat_natCast]
  rcases hd with rfl | rfl | rfl | rfl | rfl | rfl | rfl | rfl | rfl | rfl | rfl
  · exact ⟨n3 (q _) (q _) (q _), f3 (.inr (.inr (by rw [em]; exact wi_no (by omega))))⟩
  · exact ⟨n3 (q _) (q _) (q _), f3 (.inr (.inr (wi_no (by omega))))⟩
  · exact ⟨n3 (q _) (q _) (q _), f3 (.inr (.inl (wi_no (by omega))))⟩
  · exact ⟨n3 (q _) (q _) (q _), f3 (.inl rfl)⟩
  · exact ⟨nQ_non, rfl⟩
  · exact ⟨nQ_str _, rfl⟩
  · exact ⟨nQ_lst' (nQs_cons (q _) (nQs_cons (q _) (nQs_cons (q _) nQs_nil))), rfl⟩
  · exact ⟨nQ_tup' (nQs_cons (q _) (nQs_cons (q _) nQs_nil)), rfl⟩
  · exact ⟨n3 (q _) (q _) (nQ_bl _), f3 (.inr (.inr rfl))⟩
  · exact ⟨n3 (q _) nQ_non (q _), f3 (.inr (.inl rfl))⟩
  · exact ⟨nQ_tup' (nQs_cons (q _) (nQs_cons (q _) (nQs_cons (q _) (nQs_cons (q _) nQs_nil)))), rfl⟩
variable {d v : D}
include W in
theorem r_day_of_none (h : nQ d = true ∧ sm2 d = true ∧ calB d = false) : cf T L (k + 7) "day_of" [.val d, .val v] o = .err "NoCalendar" [] o := by
  refine err_first W.Z.day.day_of rfl rfl ?_
  have := v_check_calendar W.Z.day.toLCal (L := L) (k := k) (o := o) d h.1 h.2.1
  rw [h.2.2] at this
  simp only [exSs, exS, evE, evEs, evAs, evEo, evC, evSrc, evT, frame, getV, getB, Res.ofO, Res.bind, Res.st, SRes.seq, SRes.out, List.getElem?_cons_zero, List.getElem?_cons_succ, List.cons_append, List.nil_append, List.replicate, List.length_cons, List.length_nil, bindT, bindTs, List.set_cons_zero, List.set_cons_succ, frzF, wipeF, setsO, slotF, ownS, this, Bool.false_eq_true, if_false]
include W in
theorem r_date_of_none (h : nQ d = true ∧ sm2 d = true ∧ calB d = false) : cf T L (k + 8) "date_of" [.val d, .val v] o = .err "NoCalendar" [] o := by
  refine err_first W.Z.day.date_of rfl rfl ?_
  have := ck_dayB W.Z.day (L := L) (k := k) (o := o) (v := v) h.1 h.2.1 h.2.2
  simp only [exSs, exS, evE, evEs, evAs, evEo, evC, evSrc, evT, frame, getV, getB, Res.ofO, Res.bind, Res.st, SRes.seq, SRes.out, List.getElem?_cons_zero, List.getElem?_cons_succ, List.cons_append, List.nil_append, List.replicate, List.length_cons, List.length_nil, bindT, bindTs, List.set_cons_zero, List.set_cons_succ, frzF, wipeF, setsO, slotF, ownS, this]
include W in
theorem r_day_of_bad (C : c.Ok) (h : nQ d = true ∧ isDB c d = false) : cf T L (k + 7) "day_of" [.val c.d, .val d] o = .err "NoDate" [] o := by
  have g1 := ck_calC W.Z.day (L := L) (k := k) (o := o) C
  have g2 := v_raw_is_date W.Z.day (L := L) (k := k + 2) (o := o) C h.1
  rw [h.2] at g2
  generalize c.d = q at g1 g2
  refine cf_ok W.Z.day.day_of rfl ?_ trunc_err
  simp only [s_day_of_1, s_day_of_2, s_day_of_3, s_day_of_4, i_day_of, exSs, exS, evE, evEs, evAs, evEo, evC, evSrc, evT, frame, getV, getB, Res.ofO, Res.bind, Res.st, SRes.seq, SRes.out, List.getElem?_cons_zero, List.getElem?_cons_succ, List.cons_append, List.nil_append, List.replicate, List.length_cons, List.length_nil, bindT, bindTs, List.set_cons_zero, List.set_cons_succ, frzF, wipeF, setsO, slotF, ownS, g1, g2, Bool.not_false, if_true]
include W in
theorem r_date_of (C : c.Ok) (h1 : okD v = true) (h2 : isN v = false) : cf T L (k + 8) "date_of" [.val c.d, .val v] o = .err "NoDay" [] o := by
  refine err_first W.Z.day.date_of rfl rfl ?_
  have := ck_dayN W.Z.day (L := L) (k := k) (o := o) C h1 h2
  generalize c.d = q at this
  simp only [exSs, exS, evE, evEs, evAs, evEo, evC, evSrc, evT, frame, getV, getB, Res.ofO, Res.bind, Res.st, SRes.seq, SRes.out, List.getElem?_cons_zero, List.getElem?_cons_succ, List.cons_append, List.nil_append, List.replicate, List.length_cons, List.length_nil, bindT, bindTs, List.set_cons_zero, List.set_cons_succ, frzF, wipeF, setsO, slotF, ownS, this]
include W in
theorem r_weekday_of (C : c.Ok) (h1 : okD v = true) (h2 : isN v = false) : cf T L (k + 8) "weekday_of" [.val c.d, .val v] o = .err "NoDay" [] o := by
  refine err_first W.Z.day.weekday_of rfl rfl ?_
  have := ck_dayN W.Z.day (L := L) (k := k) (o := o) C h1 h2
  generalize c.d = q at this
  simp only [exSs, exS, evE, evEs, evAs, evEo, evC, evSrc, evT, frame, getV, getB, Res.ofO, Res.bind, Res.st, SRes.seq, SRes.out, List.getElem?_cons_zero, List.getElem?_cons_succ, List.cons_append, List.nil_append, List.replicate, List.length_cons, List.length_nil, bindT, bindTs, List.set_cons_zero, List.set_cons_succ, frzF, wipeF, setsO, slotF, ownS, this]
include W in
theorem r_date_ahead (C : c.Ok) (h1 : okD v = true) (h2 : isN v = false) : cf T L (k + 8) "date_ahead" [.val c.d, .val v] o = .err "NoDay" [] o := by
  refine err_first W.Z.day.date_ahead rfl rfl ?_
  have := ck_dayN W.Z.day (L := L) (k := k) (o := o) C h1 h2
  generalize c.d = q at this
  simp only [exSs, exS, evE, evEs, evAs, evEo, evC, evSrc, evT, frame, getV, getB, Res.ofO, Res.bind, Res.st, SRes.seq, SRes.out, List.getElem?_cons_zero, List.getElem?_cons_succ, List.cons_append, List.nil_append, List.replicate, List.length_cons, List.length_nil, bindT, bindTs, List.set_cons_zero, List.set_cons_succ, frzF, wipeF, setsO, slotF, ownS, this]
include W in
theorem dates_tail (C : c.Ok) {bad none odd : D} (hb : nQ bad = true ∧ isDB c bad = false) (hno : nQ none = true ∧ sm2 none = true ∧ calB none = false) (hod : okD odd = true ∧ isN odd = false) {s0 s2 s3 s4 s5 s6 s7 s8 s9 : Slot} :
    WSs (cf T L (k + 11)) (cc T L (k + 11)) T.con T.isa L (.cons s__law_dates_right_9 (.cons s__law_dates_right_10 (.cons s__law_dates_right_11 (.cons s__law_dates_right_12 (.cons s__law_dates_right_13 (.cons s__law_dates_right_14 .nil)))))) [s0, .val c.d, s2, s3, s4, s5, s6, s7, s8, s9, .val bad, .val none, .val odd] o (fun _ _ => False) (fun d o' => d = .bl true ∧ o = o') := by
  repeat infer_instance
  refine ⟨_, _, v_word W (.inl rfl) (cc_err rfl (r_day_of_none (k := k + 2) W hno)), ?_⟩
  repeat infer_instance
  refine ⟨.str "NoCalendar", o, ?_, ?_⟩
  · refine cf_p W.law_none rfl ?_
    repeat infer_instance
    exact ⟨_, _, v_word W (.inl rfl) (cc_err rfl (r_date_of_none (k := k) W hno)), rfl, rfl⟩
  repeat infer_instance
  refine ⟨_, _, v_word W (.inr (.inl rfl)) (cc_err rfl (r_day_of_bad (k := k + 2) W C hb)), ?_⟩
  repeat infer_instance
  refine ⟨_, _, v_word W (.inr (.inr rfl)) (cc_err rfl (r_date_of (k := k + 1) W C hod.1 hod.2)), ?_⟩
  repeat infer_instance
  refine ⟨_, _, v_word W (.inr (.inr rfl)) (cc_err rfl (r_weekday_of (k := k + 1) W C hod.1 hod.2)), ?_⟩
  repeat infer_instance
  refine ⟨_, _, v_word W (.inr (.inr rfl)) (cc_err rfl (r_date_ahead (k := k + 1) W C hod.1 hod.2)), ?_⟩
  repeat infer_instance
  refine ⟨_, mul_lst (k := 2) rfl (by decide) (Nat.le_of_ble_eq_true rfl), ?_⟩
  repeat infer_instance
  refine ⟨_, bin_lst (Nat.le_of_ble_eq_true rfl), ?_⟩
  repeat infer_instance
  refine ⟨_, mul_lst (k := 3) rfl (by decide) (Nat.le_of_ble_eq_true rfl), ?_⟩
  repeat infer_instance
  refine ⟨_, bin_lst (Nat.le_of_ble_eq_true rfl), ?_⟩
  repeat infer_instance
  refine ⟨_, cmp_eq (eqD_refl (by decide +kernel)), ?_⟩
  exact ⟨rfl, rfl⟩
include W in
theorem v_dates_right (C : c.Ok) (hm : (m : Int) = cyd c) (h : Hd (n + 4) o) : ∃ o', cf T L (k + 12) "_law_dates_right" [.val (.obj 0), .val c.d, .val (.lst (rows c m))] o = .ok (.bl true) o' ∧ Hd n o' := by
  have hcp := cyd_pos C
  have hcb := cyd_bd C
  obtain ⟨d, o', h1, _, rfl, h2⟩ := cf_w (T := T) (L := L) (k := k + 11) (o := o) (sl := [.val (.obj 0), .val c.d, .val (.lst (rows c m))]) (P := fun d o' => d = .bl true ∧ Hd n o') W.law_dates_right rfl (by
    repeat infer_instance
    obtain ⟨row, o1, z1, m1, d1⟩ := v_any (T := T) (L := L) (k := k + 9) W.hand (n := n + 3) (ds := rows c m) h (by rw [rows_len]; omega) (by rw [rows_len]; omega)
    refine ⟨_, _, z1, ?_⟩
    unfold rows at m1
    obtain ⟨r, hr, rfl⟩ := List.mem_map.mp m1
    have hd := dt_is C (n := (r : Int)) (by omega)
    unfold rowD
    generalize (dt c (r : Int)).1 = y at *
    generalize (dt c (r : Int)).2.1 = i at *
    generalize (dt c (r : Int)).2.2 = e at *
    obtain ⟨a, ha⟩ : ∃ a : Int, a = mlen c y i - e + 1 := ⟨_, rfl⟩
    rw [← ha]
    repeat infer_instance
    rw [List.length_map]
    repeat infer_instance
    refine ⟨_, bin_lst (Nat.le_of_ble_eq_true rfl), ?_⟩
    repeat infer_instance
    obtain ⟨bad, o2, z2, m2, d2⟩ := v_any (T := T) (L := L) (k := k + 9) W.hand (n := n + 2) (ds := bads c y (i : Int) e a) d1 (Nat.le_of_ble_eq_true rfl) (Nat.le_of_ble_eq_true rfl)
    refine ⟨_, _, z2, ?_⟩
    have hb := bad_ok hd ha _ m2
    repeat infer_instance
    refine ⟨_, _, v_is_date W.Z.day C (nQ_tup' (nQs_cons (nQ_int _) (nQs_cons (nQ_int _) (nQs_cons (nQ_int _) nQs_nil)))), ?_⟩
    rw [isDB_of hd]
    repeat infer_instance
    refine ⟨_, _, v_is_date W.Z.day C hb.1, ?_⟩
    rw [hb.2]
    repeat infer_instance
    obtain ⟨none, o3, z3, m3, d3⟩ := v_any (T := T) (L := L) (k := k + 9) W.hand (n := n + 1) (ds := nones) d2 (by decide) (by decide)
    refine ⟨_, _, z3, ?_⟩
    have hno := none_ok _ m3
    repeat infer_instance
    obtain ⟨odd, o4, z4, m4, d4⟩ := v_any (T := T) (L := L) (k := k + 9) W.hand (n := n) (ds := odds) d3 (by decide) (by decide)
    refine ⟨_, _, z4, ?_⟩
    have hod := odd_ok _ m4
    refine ⟨_, rfl, ?_⟩
    exact ⟨wsr_imp (dates_tail (k := k) W C hb hno hod).p (fun _ _ z => z.elim) fun d o' z => ⟨by rw [← z.2, h.len, d4.len], z.1, by rw [← z.2]; exact d4⟩⟩)
  exact ⟨o', h1, h2⟩
/-! ### the law -/
def kn : Cal := ⟨7, [3, 2], 2, [1], 1, 1⟩
theorem knOk : kn.Ok := ⟨by decide, by decide, by decide, by decide, by decide, by decide, by decide, by decide, by decide, by decide, by decide, by decide, by decide, by decide⟩
theorem kn10 : IsDt kn 10 1 1 3 := ⟨by decide, by decide, by decide, by decide, by decide⟩
theorem kn11 : IsDt kn 11 2 0 1 := ⟨by decide, by decide, by decide, by decide, by decide⟩
theorem cals_31 : ∀ p ∈ cals, ∀ m ∈ p.1.ms, m ≤ 5 := by
  intro p hp
  simp only [cals, List.mem_cons, List.not_mem_nil, or_false] at hp
  rcases hp with rfl | rfl | rfl | rfl | rfl | rfl <;> decide
theorem cals_mlen {p : Cal × Int} (hp : p ∈ cals) (y : Int) (i : Nat) (hi : i < p.1.ms.length) : mlen p.1 y i ≤ 31 := by
  have C := cals_ok p hp
  have h := cals_31 p hp (p.1.ms.getD i 0) (by rw [List.getD_eq_getElem?_getD, List.getElem?_eq_getElem hi]; exact List.getElem_mem hi)
  have h2 := C.r2
  have h1 := C.r1
  unfold mlen
  split <;> omega
theorem p18 : binD .Pow (.int 10) (.int 18) = some (.int (10 ^ 18)) := by rfl
theorem p39 : binD .Pow (.int 10) (.int 39) = some (.int (10 ^ 39)) := by rfl
include W in
theorem v_law (ns : List Int) : ∃ o', cf T L (k + 16) "law" [.val (.lst (ns.map D.int))] [] = .ok (.bl true) o' := by
  have w : WSs (cf T L (k + 15)) (cc T L (k + 15)) T.con T.isa L i_law.body (frame [.val (.lst (ns.map D.int))] i_law.nl) [] (fun _ _ => False) (fun d o' => d = .bl true ∧ Hd 0 o') := by
    repeat infer_instance
    obtain ⟨o1, z1, d1⟩ := v_hand (T := T) (L := L) (k := k + 14) W.hand ns
    refine ⟨_, _, z1, ?_⟩
    repeat infer_instance
    refine ⟨_, _, v_date_of (c := kn) (k := k + 7) W.Z.F.hL W.Z.day knOk kn10 (by decide), ?_⟩
    repeat infer_instance
    refine ⟨_, _, v_weekday_of (c := kn) (n := 10) (k := k + 7) W.Z.day knOk (by decide), ?_⟩
    repeat infer_instance
    refine ⟨_, _, v_day_of (c := kn) (k := k + 8) W.Z.day knOk kn11 (by decide), ?_⟩
    repeat infer_instance
    refine ⟨_, cmp_ne (eqD_refl (x := .lst [.tup [.int 1, .int 1, .int 3], .int 3, .int 11]) (by decide +kernel)), ?_⟩
    repeat infer_instance
    refine ws_for (fun j ρ o' => Hd (1000000 - 100 * j) o' ∧ ∃ s3 s4 s5 s6 s7 s8 : Slot, ρ = [.val (.lst (ns.map D.int)), .val (.obj 0), .val kn.d, s3, s4, s5, s6, s7, s8]) ?_
    repeat infer_instance
    refine ⟨_, 4, rfl, rfl, by decide, ?_⟩
    refine ⟨⟨d1, .none, .none, .none, .none, .none, .none, rfl⟩, ?_, ?_⟩
    · rintro j ρ o ds hd ⟨hh, s3, s4, s5, s6, s7, s8, rfl⟩
      obtain ⟨hj, rfl⟩ := rgD_get hd
      refine ⟨_, rfl, ?_⟩
      repeat infer_instance
      obtain ⟨p, o2, z2, hp, d2⟩ := v_law_calendar (T := T) (L := L) (k := k + 12) W.hand W.law_calendar (n := 1000000 - 100 * (j + 1) + 20) (hh.le (by omega))
      refine ⟨_, _, z2, ?_⟩
      obtain ⟨c, sp⟩ := p
      have C : c.Ok := cals_ok _ hp
      have hcb := cals_cyd _ hp
      have hcb : cyd c ≤ 66 := hcb
      have hcp := cyd_pos C
      obtain ⟨m, hm⟩ : ∃ m : Nat, (m : Int) = cyd c := ⟨(cyd c).toNat, by omega⟩
      repeat infer_instance
      refine ⟨_, _, v_cycle W C, ?_⟩
      repeat infer_instance
      refine ⟨_, _, v_law_days W.law_days C hm.symm (by omega), ?_⟩
      repeat infer_instance
      obtain ⟨a1, o3, z3, ha1, d3⟩ := v_drawN (T := T) (L := L) (k := k + 14) W.hand (n := 1000000 - 100 * (j + 1) + 19) (x := 40) (q := 40) rfl d2 (by decide) (by decide)
      refine ⟨_, _, z3, ?_⟩
      repeat infer_instance
      obtain ⟨a2, o4, z4, ha2, d4⟩ := v_drawN (T := T) (L := L) (k := k + 14) W.hand (n := 1000000 - 100 * (j + 1) + 18) (x := 400) (q := 400) rfl d3 (by decide) (by decide)
      refine ⟨_, _, z4, ?_⟩
      repeat infer_instance
      refine ⟨_, p18, ?_⟩
      repeat infer_instance
      obtain ⟨a3, o5, z5, ha3, d5⟩ := v_drawN (T := T) (L := L) (k := k + 14) W.hand (n := 1000000 - 100 * (j + 1) + 17) (x := 10 ^ 18) (q := 10 ^ 18) rfl d4 (by decide) (by decide)
      refine ⟨_, _, z5, ?_⟩
      repeat infer_instance
      refine ⟨_, p39, ?_⟩
      repeat infer_instance
      obtain ⟨a4, o6, z6, ha4, d6⟩ := v_drawN (T := T) (L := L) (k := k + 14) W.hand (n := 1000000 - 100 * (j + 1) + 16) (x := 999) (q := 999) rfl d5 (by decide) (by decide)
      refine ⟨_, _, z6, ?_⟩
      repeat infer_instance
      have e4 : (10 : Int) ^ 39 + (a4 : Int) = ((10 ^ 39 + a4 : Nat) : Int) := by omega
      rw [e4]
      have hall : ∀ x ∈ [D.int (a1 : Int), .int (a2 : Int), .int (a3 : Int), .int ((10 ^ 39 + a4 : Nat) : Int)], ∃ q : Nat, x = .int (q : Int) ∧ q ≤ 10 ^ 40 := by
        intro x hx
        simp only [List.mem_cons, List.not_mem_nil, or_false] at hx
        rcases hx with rfl | rfl | rfl | rfl
        · exact ⟨a1, rfl, by omega⟩
        · exact ⟨a2, rfl, by omega⟩
        · exact ⟨a3, rfl, by omega⟩
        · exact ⟨10 ^ 39 + a4, rfl, by omega⟩
      generalize [D.int (a1 : Int), .int (a2 : Int), .int (a3 : Int), .int ((10 ^ 39 + a4 : Nat) : Int)] = some at hall
      refine ws_for (fun _ ρ o' => o6 = o' ∧ ∃ s8 : Slot, ρ = [.val (.lst (ns.map D.int)), .val (.obj 0), .val kn.d, .val (.int ((0 + j : Nat) : Int)), .val c.d, .val (.int sp), .val (.lst (rows c m)), .val (.lst some), s8]) ?_
      repeat infer_instance
      refine ⟨⟨rfl, s8, rfl⟩, ?_, ?_⟩
      · rintro i ρ o' dd hd ⟨rfl, t8, rfl⟩
        obtain ⟨q, rfl, hq⟩ := hall dd (List.mem_of_getElem? hd)
        refine ⟨_, rfl, ?_⟩
        repeat infer_instance
        refine ⟨_, _, v_day_right (k := k + 6) W C hm (n := q) rfl hq, ?_⟩
        repeat infer_instance
        exact ⟨rfl, _, rfl⟩
      · rintro ρ o' ⟨rfl, t8, rfl⟩
        repeat infer_instance
        obtain ⟨a5, o7, z7, ha5, d7⟩ := v_drawN (T := T) (L := L) (k := k + 14) W.hand (n := 1000000 - 100 * (j + 1) + 15) (x := 90) (q := 90) rfl d6 (by decide) (by decide)
        refine ⟨_, _, z7, ?_⟩
        repeat infer_instance
        refine ⟨_, _, v_leaves_right (k := k + 1) W C hm (cals_mlen hp) (n := a5) rfl (by omega) d7.nO, ?_⟩
        repeat infer_instance
        obtain ⟨o8, z8, d8⟩ := v_dates_right (k := k + 3) W C hm (n := 1000000 - 100 * (j + 1) + 11) d7
        refine ⟨_, _, z8, ?_⟩
        repeat infer_instance
        exact ⟨d8.le (by omega), _, _, _, _, _, _, rfl⟩
    · rintro ρ o ⟨hh, s3, s4, s5, s6, s7, s8, rfl⟩
      repeat infer_instance
      exact ⟨rfl, hh.le (by omega)⟩
  replace w := w.p
  revert w
  generalize hr : exSs (cf T L (k + 15)) (cc T L (k + 15)) T.con T.isa L i_law.body (frame [.val (.lst (ns.map D.int))] i_law.nl) [] = r
  intro w
  cases r with
  | ret d o' =>
    obtain ⟨rfl, h2⟩ := w
    have e : ((Res.ok (D.bl true) o').trunc ([] : Objs).length) = .ok (.bl true) [] := by
      show (if Ev.nO (.bl true) && (o'.take 0).all SObj.nO then Res.ok (D.bl true) (o'.take 0) else Res.ok (D.bl true) o') = _
      rw [List.take_zero]
      rfl
    refine ⟨[], ?_⟩
    show (match T.fn "law" with | some ir => if ([Slot.val (.lst (ns.map D.int))] : List Slot).length = ir.np then ((exSs (cf T L (k + 15)) (cc T L (k + 15)) T.con T.isa L ir.body (frame [.val (.lst (ns.map D.int))] ir.nl) []).out).trunc 0 else .stuck | none => .stuck) = _
    rw [W.law]
    show (if (1 : Nat) = 1 then ((exSs (cf T L (k + 15)) (cc T L (k + 15)) T.con T.isa L i_law.body (frame [.val (.lst (ns.map D.int))] i_law.nl) []).out).trunc 0 else .stuck) = _
    rw [if_pos rfl, hr]
    exact e
  | _ => exact w.elim
end
end K01

set_option maxHeartbeats 2000000
/-! K01e: the program has it all. -/
namespace K01
open PySem Ev Lib
theorem tCal : LCal T := by constructor <;> kernel_rfl
theorem tCore : LCore T 200000 := by constructor <;> first | kernel_rfl | decide
theorem tForm : LForm T 200000 := { toLCore := tCore, cal := tCal, is_form := by kernel_rfl, check_form := by kernel_rfl }
theorem tHas : LHas T := by constructor <;> kernel_rfl
theorem tHand : LHand T := by constructor <;> kernel_rfl
theorem tNodes : LNodes T := by constructor <;> kernel_rfl
theorem tWords : LWords T := by constructor <;> kernel_rfl
theorem tRules : LRules T := by constructor <;> kernel_rfl
theorem tRaw : LRaw T := { toLCal := tCal, raw_is_leap := by kernel_rfl, raw_year_days := by kernel_rfl, raw_month_days := by kernel_rfl, raw_cycle_days := by kernel_rfl }
theorem tDate : LDate T := { toLRaw := tRaw, raw_date := by kernel_rfl, raw_ahead := by kernel_rfl }
theorem tDay : LDay T := { toLDate := tDate, raw_year_begins := by kernel_rfl, raw_month_begins := by kernel_rfl, check_day := by kernel_rfl, date_of := by kernel_rfl, raw_is_date := by kernel_rfl, is_date := by kernel_rfl, day_of := by kernel_rfl, raw_weekday := by kernel_rfl, weekday_of := by kernel_rfl, date_ahead := by kernel_rfl }
theorem tZ : LCalF T 200000 := { F := tForm, day := tDay, nodes := tNodes, words := tWords, rules := tRules, has := tHas, calendar_form := by kernel_rfl, is_dated := by kernel_rfl, are_dates := by kernel_rfl, raw_turned := by kernel_rfl, tells := by kernel_rfl, c_date := by kernel_rfl }
theorem own : Own T 200000 := { Z := tZ, hand := tHand, law_calendar := by kernel_rfl, law_days := by kernel_rfl, law_word := by kernel_rfl, law_cycle := by kernel_rfl, law_row := by kernel_rfl, law_day_right := by kernel_rfl, law_leaves_right := by kernel_rfl, law_dates_right := by kernel_rfl, law_none := by kernel_rfl, law := by kernel_rfl, isa := rfl }
end K01

set_option maxHeartbeats 0
/-! K01h: the head, joined. -/
namespace K01
open PySem PySem.Spec PyProof.Rows L2 Ev
theorem okS : S.Ok := lawSet_ok fns_eq (by kernel_rfl) (by decide +kernel)
theorem says : S.Says 60 63 "law" := by
  intro ns _
  have e : S.T = T := by
    show Tab.mk (fun x => fns.lookup x) (fun x => (topCons bd ++ (topDics bd).map dctOf).lookup x) isa = _
    rw [cons_eq]
    rfl
  have z := v_law own (k := 44) ns
  rw [e]
  exact z
theorem cut {ok : He.DefD → Bool} {f v : He.DefD → He.FnW} {n : Nat} {ds : List He.DefD} (h1 : ((ds.take n).all ok, (ds.take n).map f) = (true, (ds.take n).map v)) (h2 : ((ds.drop n).all ok, (ds.drop n).map f) = (true, (ds.drop n).map v)) : (ds.all ok, ds.map f) = (true, ds.map v) := by
  have a1 := congrArg Prod.fst h1
  have a2 := congrArg Prod.snd h1
  have b1 := congrArg Prod.fst h2
  have b2 := congrArg Prod.snd h2
  have e := List.take_append_drop n ds
  rw [← e, List.all_append, List.map_append, List.map_append]
  show ((_ && _), _) = _
  rw [show (ds.take n).all ok = true from a1, show (ds.drop n).all ok = true from b1, show (ds.take n).map f = _ from a2, show (ds.drop n).map f = _ from b2]
  rfl
theorem joined {w : World} (os : OsState) (a : (En w os).map (pA w) = some true) (b : (En w os).map pB = some (PySem.W.openGood q loose)) (c1 : (En w os).map (pC D1) = some (true, D1.map He.DefD.val)) (c2 : (En w os).map (pC D2) = some (true, D2.map He.DefD.val)) (d : (En w os).map pD = some (vD w)) (f : (En w os).map pE = some true) :
    (En w os).map (fun s => (pA w s, pB s, ob s)) = some (true, PySem.W.openGood q loose, hk.val w) := by
  revert a b c1 c2 d f
  generalize En w os = x
  intro a b c1 c2 d f
  cases x with
  | none => cases a
  | some s =>
    have a := Option.some.inj a
    have b := Option.some.inj b
    have c := cut (n := 40) (ds := S.DS) (Option.some.inj c1) (Option.some.inj c2)
    have d := Option.some.inj d
    have f := Option.some.inj f
    have e : ob s = hk.val w := by
      show (((S.DS.all fun d => d.ok (Kf s), S.DS.map fun d => He.fnW (Kf s) d.at_), pD s), pE s) = ((((true : Bool), S.DS.map He.DefD.val), vD w), true)
      rw [c, d, show pE s = true from f]
    show some (pA w s, pB s, ob s) = _
    rw [show pA w s = true from a, show pB s = _ from b, e]
    rfl
theorem run (w : World) : HandSHeadRun.RunEq R q hk ob 60000 loose w := by
  rw [wB_eq w]
  cases w.params.followText "special-get-raises" with
  | true => exact fun os => joined os (TA w os) (TB w os) (TC1 w os) (TC2 w os) (TD w os) (TE w os)
  | false => exact fun os => joined os (FA w os) (FB w os) (FC1 w os) (FC2 w os) (FD w os) (FE w os)
end K01

set_option maxHeartbeats 0
open PySem PySem.W PySem.Calls PyProof.Rows
theorem PySem.Challenge.cw_everydate_k01_whole_dates_and_days_undon_holds : PySem.Challenge.rw_everydate_k01_whole_dates_and_days_undon.Holds := by
  w_on; o_law
  refine HandSHeadRun.head_any (r := K01.R) (q := K01.q) (H := K01.hk) (ob := K01.ob) (M := 60000) (loose := K01.loose) (d := HandSHeadRun.topDef K01.R.prog K01.iLaw) (kwd := []) K01.ob_eq
    K01.z_e K01.z_f K01.run K01.z_d K01.z_p K01.z_k (by rfl) K01.z_s K01.z_o K01.z_b ?hw ?hc
  case hw => w_witness2
  case hc =>
    exact Ev.law_walk (l := K01.row) (S := K01.S) (k := 59) (n := 63) (m := 4) (x := "script") (nm := "law") K01.okS rfl (by decide) (by kernel_rfl) ⟨rfl, by decide, by decide⟩ (by kernel_rfl) (by kernel_rfl) K01.says
