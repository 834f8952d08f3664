import PyProof.Rows.All
import Wide.All
import OpenK.AllK
import Wide.FinOn
import HandS.ForMost
import HandS.ForExc
import HandS.IsInst
import HandS.Wide
import HandS.Nested
import HandS.Lambda
import HandS.ExcCtx
import HandS.TupAny
import HandS.TupLe
import HandS.TupMul
import KE.KTupSum
import HandS.Zip0
import HandS.Iter
import HandS.HotCalls
import HandS.Comp
import HandS.ExcIs
import HandS.Style
import HandS.HeadHook4
import HandS.HeadWalk
import HandS.Head2
import PyProof.ExcBaseAll.ValueError
import HandS.Head0
import HandS.Head1
import HandS.HeadEnd
import HandS.HeadHook1
import PySem.Challenge.RW_everydate_k00_whole_calendars_years_and
set_option Elab.async false
set_option linter.all false
set_option maxRecDepth 100000
/-! EvA: the code tree, the values, the meaning. -/
namespace Ev
open PySem

/-- built-in functions on values -/
inductive Bif where
  | len | all | any | sum | tuple | list | abs | max2 | min2 | int | bool | max1 | min1 | sorted
  deriving DecidableEq

/-- targets: slots, nested -/
inductive Tg where
  | name (i : Nat)
  | tup (ts : List Tg)

mutual
inductive IE where
  | non | bl (b : Bool) | int (i : Int) | str (x : Str)
  | var (i : Nat) | bor (i : Nat) | glob (x : Str)
  | tup (es : IEs) | lst (es : IEs) | dnew
  | bin (op : Operator) (a b : IE)
  | neg (a : IE) | not (a : IE) | and (a b : IE) | or (a b : IE)
  | cmp (op : CmpOp) (a b : IE)
  | chain (op op' : CmpOp) (a b c : IE)
  | ite (t a b : IE)
  | idx (a i : IE)
  | slc (a : IE) (lo hi : IEo)
  | call (f : Str) (args : IAs)
  | callv (i : Nat) (args : IEs)
  | bif (f : Bif) (args : IEs)
  | isi (a : IE) (ty : String)
  | isx (i : Nat) (c : Str)
  | comp (elt : IE) (tg : Tg) (src : ISrc) (cond : IEo) (own : List Nat)
inductive IEs where
  | nil
  | cons (e : IE) (r : IEs)
inductive IEo where
  | none
  | some (e : IE)
inductive IAs where
  | nil
  | val (e : IE) (r : IAs)
  | lam (np nl : Nat) (body : IE) (cap : List Nat) (r : IAs)
inductive ISrc where
  | seq (e : IE)
  | range1 (a : IE)
  | range2 (a b : IE)
  | zip (a b : IE)
  | enum (a : IE)
end

mutual
inductive IS where
  | set (t : Tg) (e : IE)
  | setOwn (i : Nat) (e : IE)
  | par (is : List Nat) (es : IEs)
  | expr (e : IE)
  | append (i : Nat) (e : IE)
  | setIdx (o : IE) (k e : IE)
  | aug (i : Nat) (op : Operator) (e : IE)
  | ife (t : IE) (a b : ISs)
  | whl (t : IE) (b : ISs)
  | for (t : Tg) (src : ISrc) (b : ISs)
  | ret (e : IE)
  | retN
  | retObj (es : IEs)
  | raise (c : Str) (x : IEo)
  | pass
  | frz (is : List Nat)
  | tryAs (b : ISs) (c : Str) (i : Nat) (h : ISs)
inductive ISs where
  | nil
  | cons (s : IS) (r : ISs)
end

/-- values -/
inductive D where
  | non | bl (b : Bool) | int (i : Int) | str (x : Str)
  | tup (ds : List D) | lst (ds : List D)
  | dct (ks vs : List D)
  | obj (i : Nat)
/-- shared objects -/
inductive SObj where
  | lst (ds : List D)
abbrev Objs := List SObj

inductive Res (α : Type) where
  | ok (a : α) (o : Objs)
  | err (c : Str) (xs : List D) (o : Objs)
  | stuck
namespace Res
def bind {α β : Type} (r : Res α) (f : α → Objs → Res β) : Res β := match r with
  | .ok a o => f a o
  | .err c xs o => .err c xs o
  | .stuck => .stuck
@[simp] theorem bind_ok {α β : Type} (a : α) (o : Objs) (f : α → Objs → Res β) : (Res.ok a o).bind f = f a o := rfl
@[simp] theorem bind_err {α β : Type} (c : Str) (xs : List D) (o : Objs) (f : α → Objs → Res β) : (Res.err c xs o).bind f = .err c xs o := rfl
@[simp] theorem bind_stuck {α β : Type} (f : α → Objs → Res β) : (Res.stuck : Res α).bind f = .stuck := rfl
/-- an answer that may lack -/
def ofO {α : Type} (a : Option α) (o : Objs) : Res α := match a with
  | some a => .ok a o
  | none => .stuck
@[simp] theorem ofO_some {α : Type} (a : α) (o : Objs) : ofO (some a) o = .ok a o := rfl
@[simp] theorem ofO_none {α : Type} (o : Objs) : ofO (none : Option α) o = .stuck := rfl
/-- no exception comes out -/
def calm {α : Type} (r : Res α) : Res α := match r with
  | .err _ _ _ => .stuck
  | r => r
@[simp] theorem calm_ok {α : Type} (a : α) (o : Objs) : (Res.ok a o).calm = .ok a o := rfl
end Res

inductive Slot where
  | none | val (d : D) | own (d : D)
  /-- a lambda, what it captured -/
  | clo (np nl : Nat) (body : IE) (cap : List D)
  /-- an exception that is caught -/
  | exc (c : Str) (xs : List D)
abbrev Frm := List Slot

/-- the answer of statements -/
inductive SRes where
  | nx (ρ : Frm) (o : Objs)
  | ret (d : D) (o : Objs)
  | brk (ρ : Frm) (o : Objs)
  | cnt (ρ : Frm) (o : Objs)
  | err (c : Str) (xs : List D) (ρ : Frm) (o : Objs)
  | stuck
def SRes.seq (r : SRes) (f : Frm → Objs → SRes) : SRes := match r with
  | .nx ρ o => f ρ o
  | r => r
/-- an expression's answer, in a statement -/
def Res.st {α : Type} (r : Res α) (ρ : Frm) (f : α → Objs → SRes) : SRes := match r with
  | .ok a o => f a o
  | .err c xs o => .err c xs ρ o
  | .stuck => .stuck

/-! ### the operators on values -/
def sz (n : Nat) : Bool := decide (n ≤ sizeLine)
def mulOk (i j : Int) : Bool := decide (i.natAbs.log2 + j.natAbs.log2 < 1000000)
def divOk (j : Int) : Bool := decide (0 < j) && decide (j.natAbs.log2 < 9000)
def powOk (i j : Int) : Bool := decide (0 ≤ j) && (decide (j ≤ 1000000) && decide (i.natAbs < 2 ^ 64))
def repOk (n : Nat) (k : Int) : Bool := decide (-(2 ^ 63) ≤ k) && (decide (k < 2 ^ 63) && decide (n * k.toNat ≤ sizeLine))
/-- a tuple times a small int -/
def tupOk (n : Nat) (k : Int) : Bool := decide (0 < n) && (decide (1 ≤ k) && (decide (k ≤ 1000) && decide (n ≤ 1000)))
def binD : Operator → D → D → Option D
  | .Add, .int i, .int j => some (.int (i + j))
  | .Add, .str x, .str y => if sz (x.length + y.length) then some (.str (x ++ y)) else none
  | .Add, .tup xs, .tup ys => if sz (xs.length + ys.length) then some (.tup (xs ++ ys)) else none
  | .Add, .lst xs, .lst ys => if sz (xs.length + ys.length) then some (.lst (xs ++ ys)) else none
  | .Sub, .int i, .int j => some (.int (i - j))
  | .Mult, .int i, .int j => if mulOk i j then some (.int (i * j)) else none
  | .Mult, .tup xs, .int k => if tupOk xs.length k then some (.tup (List.replicate k.toNat xs).flatten) else none
  | .Mult, .lst xs, .int k => if repOk xs.length k then some (.lst (List.replicate k.toNat xs).flatten) else none
  | .FloorDiv, .int i, .int j => if divOk j then some (.int (i / j)) else none
  | .Mod, .int i, .int j => if decide (0 < j) then some (.int (i % j)) else none
  | .Pow, .int i, .int j => if powOk i j then some (.int (i ^ j.toNat)) else none
  | _, _, _ => none
def negD : D → Option D
  | .int i => some (.int (-i))
  | _ => none
mutual
def D.py : D → Option PyData
  | .non => some .none
  | .bl b => some (.bool b)
  | .int i => some (.int i)
  | .str x => some (.str x)
  | .tup ds => (D.pys ds).map .tuple
  | .lst ds => (D.pys ds).map .list
  | _ => none
def D.pys : List D → Option (List PyData)
  | [] => some []
  | d :: ds => match D.py d, D.pys ds with
    | some x, some xs => some (x :: xs)
    | _, _ => none
end
def eqD (x y : D) : Option Bool := match x.py, y.py with
  | some a, some b => if SeqAt.shaped a && SeqAt.shaped b then some (PyData.eqv a b) else none
  | _, _ => none
def flatD : D → Bool
  | .non | .bl _ | .int _ | .str _ => true
  | _ => false
def eqF : D → D → Bool
  | .non, .non => true
  | .bl a, .bl b => a == b
  | .bl a, .int b => (if a then 1 else 0) == b
  | .int a, .bl b => a == (if b then 1 else 0)
  | .int a, .int b => a == b
  | .str a, .str b => a == b
  | _, _ => false
def inD (x : D) : D → Option Bool
  | .tup ys => if flatD x && ys.all flatD then some (ys.any fun y => eqF y x) else none
  | .lst ys => if flatD x && ys.all flatD then some (ys.any fun y => eqF y x) else none
  | _ => none
def ltD : D → D → Option Bool
  | .int i, .int j => some (decide (i < j))
  | _, _ => none
def leD : D → D → Option Bool
  | .int i, .int j => some (decide (i ≤ j))
  | _, _ => none
def isNonD : D → Bool
  | .non => true
  | _ => false
/-- is: None, True, False alone -/
def isD : D → D → Option Bool
  | x, .non => some (isNonD x)
  | .bl a, .bl b => some (decide (a = b))
  | _, _ => none
def cmpD : CmpOp → D → D → Option D
  | .Eq, x, y => (eqD x y).map .bl
  | .NotEq, x, y => (eqD x y).map fun b => .bl (!b)
  | .Lt, x, y => (ltD x y).map .bl
  | .LtE, x, y => (leD x y).map .bl
  | .Gt, x, y => (ltD y x).map .bl
  | .GtE, x, y => (leD y x).map .bl
  | .Is, x, y => (isD x y).map .bl
  | .IsNot, x, y => (isD x y).map fun b => .bl (!b)
  | .In, x, y => (inD x y).map .bl
  | .NotIn, x, y => (inD x y).map fun b => .bl (!b)
def idxD : D → D → Option D
  | .tup ds, .int i => L2.atI ds i
  | .lst ds, .int i => L2.atI ds i
  | _, _ => none
def cutD (ds : List D) (lo hi : Option Int) : List D := (ds.drop (HT.sIx ds.length 0 lo)).take (HT.sIx ds.length ds.length hi - HT.sIx ds.length 0 lo)
def slcD (a : D) (lo hi : Option Int) : Option D := match a with
  | .tup ds => some (.tup (cutD ds lo hi))
  | .lst ds => some (.lst (cutD ds lo hi))
  | _ => none
def intsD : List D → Option (List Int)
  | [] => some []
  | .int i :: r => (intsD r).map (i :: ·)
  | _ => none
def blsD : List D → Option (List Bool)
  | [] => some []
  | .bl i :: r => (blsD r).map (i :: ·)
  | _ => none
def bifD : Bif → List D → Option D
  | .len, [.tup ds] => some (.int ds.length)
  | .len, [.lst ds] => some (.int ds.length)
  | .len, [.str x] => if sz x.length then some (.int x.length) else none
  | .all, [.lst ds] => (blsD ds).map fun bs => .bl (bs.all id)
  | .any, [.lst ds] => (blsD ds).map fun bs => .bl (bs.any id)
  | .sum, [.lst ds] => (intsD ds).map fun ns => .int ns.sum
  | .sum, [.tup ds] => (intsD ds).map fun ns => .int ns.sum
  | .tuple, [.tup ds] => some (.tup ds)
  | .tuple, [.lst ds] => some (.tup ds)
  | .list, [.tup ds] => some (.lst ds)
  | .list, [.lst ds] => some (.lst ds)
  | .abs, [.int i] => some (.int (if i < 0 then -i else i))
  | .max2, [.int i, .int j] => some (.int (if j > i then j else i))
  | .min2, [.int i, .int j] => some (.int (if j < i then j else i))
  | .int, [.int i] => some (.int i)
  | .int, [.bl b] => some (.int (if b then 1 else 0))
  | .bool, [.int i] => some (.bl (i != 0))
  | .bool, [.bl b] => some (.bl b)
  | _, _ => none
/-- isinstance of a value and a built-in class -/
def isiD (d : D) (ty : String) : Option Bool := match d with
  | .non => L2.kitB "NoneType" ty
  | .bl _ => L2.kitB "bool" ty
  | .int _ => L2.kitB "int" ty
  | .str _ => L2.kitB "str" ty
  | .tup _ => L2.kitB "tuple" ty
  | .lst _ => L2.kitB "list" ty
  | .dct _ _ => L2.kitB "dict" ty
  | _ => none

/-! ### frames -/
def getV (ρ : Frm) (i : Nat) : Option D := match ρ[i]? with
  | some (.val d) => some d
  | _ => none
def getB (ρ : Frm) (i : Nat) : Option D := match ρ[i]? with
  | some (.val d) => some d
  | some (.own d) => some d
  | _ => none
def wipeF (ρ : Frm) : List Nat → Frm
  | [] => ρ
  | v :: vs => (wipeF ρ vs).set v .none
mutual
def bindT : Tg → D → Frm → Option Frm
  | .name i, d, ρ => some (ρ.set i (.val d))
  | .tup ts, .tup ds, ρ => bindTs ts ds ρ
  | .tup ts, .lst ds, ρ => none
  | .tup _, _, _ => none
def bindTs : List Tg → List D → Frm → Option Frm
  | [], [], ρ => some ρ
  | t :: ts, d :: ds, ρ => match bindT t d ρ with
    | some ρ' => bindTs ts ds ρ'
    | none => none
  | _, _, _ => none
end

/-- a comprehension's walk -/
def compL (bd : D → Option Frm) (cnd : Frm → Objs → Res Bool) (el : Frm → Objs → Res D) : List D → Objs → Res (List D)
  | [], o => .ok [] o
  | d :: ds, o => match bd d with
    | none => .stuck
    | some ρ => (cnd ρ o).bind fun b o1 => if b then (el ρ o1).bind fun x o2 => (compL bd cnd el ds o2).bind fun xs o3 => .ok (x :: xs) o3 else compL bd cnd el ds o1

def rangeD (a b : Int) : List D := (List.range (b - a).toNat).map fun i => .int (a + (i : Nat))
def rngOk (a : Int) : Bool := decide (-(2 ^ 62) ≤ a) && decide (a < 2 ^ 62)

section
variable (F : Str → List Slot → Objs → Res D) (C : Nat → Nat → IE → List D → List D → Objs → Res D) (G : Str → Option D) (isa : Str → Str → Bool)
mutual
def evE : IE → Frm → Objs → Res D
  | .non, _, o => .ok .non o
  | .bl b, _, o => .ok (.bl b) o
  | .int i, _, o => .ok (.int i) o
  | .str x, _, o => .ok (.str x) o
  | .var i, ρ, o => .ofO (getV ρ i) o
  | .bor i, ρ, o => .ofO (getB ρ i) o
  | .glob x, _, o => .ofO (G x) o
  | .tup es, ρ, o => (evEs es ρ o).bind fun ds o1 => if sz ds.length then .ok (.tup ds) o1 else .stuck
  | .lst es, ρ, o => (evEs es ρ o).bind fun ds o1 => if sz ds.length then .ok (.lst ds) o1 else .stuck
  | .dnew, _, o => .ok (.dct [] []) o
  | .bin op a b, ρ, o => (evE a ρ o).bind fun x o1 => (evE b ρ o1).bind fun y o2 => .ofO (binD op x y) o2
  | .neg a, ρ, o => (evE a ρ o).bind fun x o1 => .ofO (negD x) o1
  | .not a, ρ, o => (evE a ρ o).bind fun x o1 => match x with
    | .bl b => .ok (.bl (!b)) o1
    | _ => .stuck
  | .and a b, ρ, o => (evE a ρ o).bind fun x o1 => match x with
    | .bl true => evE b ρ o1
    | .bl false => .ok (.bl false) o1
    | _ => .stuck
  | .or a b, ρ, o => (evE a ρ o).bind fun x o1 => match x with
    | .bl true => .ok (.bl true) o1
    | .bl false => evE b ρ o1
    | _ => .stuck
  | .cmp op a b, ρ, o => (evE a ρ o).bind fun x o1 => (evE b ρ o1).bind fun y o2 => .ofO (cmpD op x y) o2
  | .chain op op' a b c, ρ, o => (evE a ρ o).bind fun x o1 => (evE b ρ o1).bind fun y o2 => match cmpD op x y with
    | some (.bl true) => (evE c ρ o2).bind fun z o3 => .ofO (cmpD op' y z) o3
    | some (.bl false) => .ok (.bl false) o2
    | _ => .stuck
  | .ite t a b, ρ, o => (evE t ρ o).bind fun x o1 => match x with
    | .bl true => evE a ρ o1
    | .bl false => evE b ρ o1
    | _ => .stuck
  | .idx a i, ρ, o => (evE a ρ o).bind fun x o1 => (evE i ρ o1).bind fun y o2 => match x with
    | .obj k => match o2[k]? with
      | some (.lst ds) => .ofO (idxD (.lst ds) y) o2
      | _ => .stuck
    | x => .ofO (idxD x y) o2
  | .slc a lo hi, ρ, o => (evE a ρ o).bind fun x o1 => (evEo lo ρ o1).bind fun l o2 => (evEo hi ρ o2).bind fun h o3 => .ofO (slcD x l h) o3
  | .call f args, ρ, o => (evAs args ρ o).bind fun ds o1 => F f ds o1
  | .callv i args, ρ, o => match ρ[i]? with
    | some (.clo np nl body cap) => (evEs args ρ o).bind fun ds o1 => C np nl body cap ds o1
    | _ => .stuck
  | .bif f args, ρ, o => (evEs args ρ o).bind fun ds o1 => .ofO (bifD f ds) o1
  | .isi a ty, ρ, o => (evE a ρ o).bind fun x o1 => .ofO ((isiD x ty).map .bl) o1
  | .isx i c, ρ, o => match ρ[i]? with
    | some (.exc c' _) => .ok (.bl (isa c' c)) o
    | _ => .stuck
  | .comp elt tg src cond own, ρ, o => (evSrc src ρ o).bind fun ds o1 =>
      ((compL (fun d => bindT tg d (wipeF ρ own)) (fun ρ' o' => evC cond ρ' o') (fun ρ' o' => evE elt ρ' o') ds o1).calm).bind fun xs o2 => if sz xs.length then .ok (.lst xs) o2 else .stuck
def evEs : IEs → Frm → Objs → Res (List D)
  | .nil, _, o => .ok [] o
  | .cons e r, ρ, o => (evE e ρ o).bind fun d o1 => (evEs r ρ o1).bind fun ds o2 => .ok (d :: ds) o2
def evEo : IEo → Frm → Objs → Res (Option Int)
  | .none, _, o => .ok none o
  | .some e, ρ, o => (evE e ρ o).bind fun d o1 => match d with
    | .int i => .ok (some i) o1
    | _ => .stuck
def evC : IEo → Frm → Objs → Res Bool
  | .none, _, o => .ok true o
  | .some e, ρ, o => (evE e ρ o).bind fun d o1 => match d with
    | .bl b => .ok b o1
    | _ => .stuck
def evAs : IAs → Frm → Objs → Res (List Slot)
  | .nil, _, o => .ok [] o
  | .val e r, ρ, o => (evE e ρ o).bind fun d o1 => (evAs r ρ o1).bind fun ds o2 => .ok (.val d :: ds) o2
  | .lam np nl body cap r, ρ, o => match cap.mapM (getV ρ) with
    | some cs => (evAs r ρ o).bind fun ds o2 => .ok (.clo np nl body cs :: ds) o2
    | none => .stuck
def evSrc : ISrc → Frm → Objs → Res (List D)
  | .seq e, ρ, o => (evE e ρ o).bind fun d o1 => match d with
    | .tup ds => .ok ds o1
    | .lst ds => .ok ds o1
    | _ => .stuck
  | .range1 a, ρ, o => (evE a ρ o).bind fun d o1 => match d with
    | .int j => if rngOk j then .ok (rangeD 0 j) o1 else .stuck
    | _ => .stuck
  | .range2 a b, ρ, o => (evE a ρ o).bind fun d o1 => (evE b ρ o1).bind fun e o2 => match d, e with
    | .int i, .int j => if rngOk i && rngOk j then .ok (rangeD i j) o2 else .stuck
    | _, _ => .stuck
  | .zip a b, ρ, o => (evE a ρ o).bind fun d o1 => (evE b ρ o1).bind fun e o2 => match d, e with
    | .lst xs, .lst ys => .ok ((xs.zip ys).map fun p => .tup [p.1, p.2]) o2
    | .tup xs, .tup ys => .ok ((xs.zip ys).map fun p => .tup [p.1, p.2]) o2
    | _, _ => .stuck
  | .enum a, ρ, o => (evE a ρ o).bind fun d o1 => match d with
    | .lst xs => .ok ((List.range xs.length).zipWith (fun (i : Nat) x => .tup [.int i, x]) xs) o1
    | _ => .stuck
end
end
/-! ### statements -/
/-- behind an except suite -/
def noX : Slot → Slot
  | .exc _ _ => .none
  | s => s
def clrX (ρ : Frm) (i : Nat) : Frm := (ρ.map noX).set i .none
/-- a list of the frame's own, or a value -/
def ownS : D → Slot
  | .lst ds => .own (.lst ds)
  | d => .val d
/-- a while, at most n turns -/
def loopW (t : Frm → Objs → Res Bool) (b : Frm → Objs → SRes) : Nat → Frm → Objs → SRes
  | 0, _, _ => .stuck
  | n + 1, ρ, o => (t ρ o).st ρ fun c o1 => if c then match b ρ o1 with
      | .nx ρ' o' => loopW t b n ρ' o'
      | .cnt ρ' o' => loopW t b n ρ' o'
      | .brk ρ' o' => .nx ρ' o'
      | r => r
    else .nx ρ o1
def loopF (bd : D → Frm → Option Frm) (b : Frm → Objs → SRes) : List D → Frm → Objs → SRes
  | [], ρ, o => .nx ρ o
  | d :: ds, ρ, o => match bd d ρ with
    | none => .stuck
    | some ρ1 => match b ρ1 o with
      | .nx ρ' o' => loopF bd b ds ρ' o'
      | .cnt ρ' o' => loopF bd b ds ρ' o'
      | .brk ρ' o' => .nx ρ' o'
      | r => r
def frzF (ρ : Frm) : List Nat → Frm
  | [] => ρ
  | i :: is => match ρ[i]? with
    | some (.own d) => frzF (ρ.set i (.val d)) is
    | _ => frzF ρ is
def setsF (ρ : Frm) : List Nat → List D → Option Frm
  | [], [] => some ρ
  | i :: is, d :: ds => setsF (ρ.set i (.val d)) is ds
  | _, _ => none
/-- o[k] = v -/
def putD (ds : List D) (k : Int) (v : D) : Option (List D) := (L2.ixN ds.length k).map fun j => ds.set j v
def augD : Operator → D → D → Option D
  | .Add, .int i, .int j => some (.int (i + j))
  | .Sub, .int i, .int j => some (.int (i - j))
  | _, _, _ => none
section
variable (F : Str → List Slot → Objs → Res D) (C : Nat → Nat → IE → List D → List D → Objs → Res D) (G : Str → Option D) (isa : Str → Str → Bool) (L : Nat)
def evT (e : IE) (ρ : Frm) (o : Objs) : Res Bool := (evE F C G isa e ρ o).bind fun d o1 => match d with
  | .bl b => .ok b o1
  | _ => .stuck
mutual
def exS : IS → Frm → Objs → SRes
  | .set t e, ρ, o => (evE F C G isa e ρ o).st ρ fun d o1 => match bindT t d ρ with
    | some ρ' => .nx ρ' o1
    | none => .stuck
  | .setOwn i e, ρ, o => (evE F C G isa e ρ o).st ρ fun d o1 => .nx (ρ.set i (ownS d)) o1
  | .par is es, ρ, o => (evEs F C G isa es ρ o).st ρ fun ds o1 => match setsF ρ is ds with
    | some ρ' => .nx ρ' o1
    | none => .stuck
  | .expr e, ρ, o => (evE F C G isa e ρ o).st ρ fun _ o1 => .nx ρ o1
  | .append i e, ρ, o => match ρ[i]? with
    | some (.own (.lst ds)) => (evE F C G isa e ρ o).st ρ fun d o1 => if decide (ds.length < sizeLine) then .nx (ρ.set i (.own (.lst (ds ++ [d])))) o1 else .stuck
    | _ => .stuck
  | .setIdx a k e, ρ, o => match a with
    | .bor i => match ρ[i]? with
      | some (.own (.lst ds)) => (evE F C G isa e ρ o).st ρ fun d o1 => (evE F C G isa k ρ o1).st ρ fun kd o2 => match kd with
        | .int j => match putD ds j d with
          | some ds' => .nx (ρ.set i (.own (.lst ds'))) o2
          | none => .stuck
        | _ => .stuck
      | some (.val (.obj n)) => (evE F C G isa e ρ o).st ρ fun d o1 => (evE F C G isa k ρ o1).st ρ fun kd o2 => match kd with
        | .int j => match o2[n]? with
          | some (.lst ds) => match putD ds j d with
            | some ds' => .nx ρ (o2.set n (.lst ds'))
            | none => .stuck
          | none => .stuck
        | _ => .stuck
      | _ => .stuck
    | _ => .stuck
  | .aug i op e, ρ, o => match getV ρ i with
    | some x => (evE F C G isa e ρ o).st ρ fun y o1 => match augD op x y with
      | some d => .nx (ρ.set i (.val d)) o1
      | none => .stuck
    | none => .stuck
  | .ife t a b, ρ, o => (evT F C G isa t ρ o).st ρ fun c o1 => if c then exSs a ρ o1 else exSs b ρ o1
  | .whl t b, ρ, o => loopW (fun ρ o => evT F C G isa t ρ o) (fun ρ o => exSs b ρ o) L ρ o
  | .for t src b, ρ, o => (evSrc F C G isa src ρ o).st ρ fun ds o1 => loopF (fun d ρ => bindT t d ρ) (fun ρ o => exSs b ρ o) ds ρ o1
  | .ret e, ρ, o => (evE F C G isa e ρ o).st ρ fun d o1 => .ret d o1
  | .retN, _, o => .ret .non o
  | .retObj es, ρ, o => (evEs F C G isa es ρ o).st ρ fun ds o1 => if sz ds.length then .ret (.obj o1.length) (o1 ++ [.lst ds]) else .stuck
  | .raise c .none, ρ, o => .err c [] ρ o
  | .raise c (.some e), ρ, o => (evE F C G isa e ρ o).st ρ fun d o1 => .err c [d] ρ o1
  | .pass, ρ, o => .nx ρ o
  | .frz is, ρ, o => .nx (frzF ρ is) o
  | .tryAs b c i h, ρ, o => match exSs b ρ o with
    | .err c' xs ρ' o' => if isa c' c then match xs with
        | [] => match exSs h (ρ'.set i (.exc c' [])) o' with
          | .nx ρ2 o2 => .nx (clrX ρ2 i) o2
          | .brk ρ2 o2 => .brk (clrX ρ2 i) o2
          | .cnt ρ2 o2 => .cnt (clrX ρ2 i) o2
          | .ret d o2 => .ret d o2
          | _ => .stuck
        | _ => .stuck
      else .err c' xs ρ' o'
    | r => r
def exSs : ISs → Frm → Objs → SRes
  | .nil, ρ, o => .nx ρ o
  | .cons s r, ρ, o => (exS s ρ o).seq fun ρ' o' => exSs r ρ' o'
end
end

/-! ### defs -/
structure FnIR where
  np : Nat
  nl : Nat
  body : ISs
structure Tab where
  fn : Str → Option FnIR
  con : Str → Option D
  isa : Str → Str → Bool
def frame (vs : List Slot) (n : Nat) : Frm := vs ++ List.replicate (n - vs.length) .none
def SRes.out (r : SRes) : Res D := match r with
  | .nx _ o => .ok .non o
  | .ret d o => .ok d o
  | .err c xs _ o => .err c xs o
  | _ => .stuck
abbrev FnT : Type := Str → List Slot → Objs → Res D
abbrev CloT : Type := Nat → Nat → IE → List D → List D → Objs → Res D
/-- the calls at a depth -/
def calls (T : Tab) (L : Nat) : Nat → FnT × CloT
  | 0 => (fun _ _ _ => .stuck, fun _ _ _ _ _ _ => .stuck)
  | k + 1 =>
    (fun f ds o => match T.fn f with
      | some ir => if ds.length = ir.np then (exSs (calls T L k).1 (calls T L k).2 T.con T.isa L ir.body (frame ds ir.nl) o).out else .stuck
      | none => .stuck,
     fun np nl body cap ds o => if ds.length = np then evE (calls T L k).1 (calls T L k).2 T.con T.isa body (frame (ds.map .val ++ cap.map .val) nl) o else .stuck)
abbrev callF (T : Tab) (L k : Nat) : FnT := (calls T L k).1
abbrev callC (T : Tab) (L k : Nat) : CloT := (calls T L k).2
example (F C G isa ρ o) : evE F C G isa (.and (.bl true) (.bl false)) ρ o = .ok (.bl false) o := rfl
end Ev

/-! EvB: from the program's tree to the code tree. -/
namespace Ev
open PySem

/-! ### names -/
structure Scp where
  N : List Str
  sc : Scope
  muts : List Nat
  /-- lambdas may be made; the caught exception may be asked -/
  lam : Bool
  isx : Bool
  objs : Bool
  /-- within an except suite -/
  hot : Bool
  /-- the defs, the classes of exceptions -/
  defs : List Str
  clss : List Str
def ixOf (N : List Str) (x : Str) : Option Nat := N.findIdx? fun y => decide (y = x)
def isVis (sc : Scope) (x : Str) : Bool := match sc.names.lookup x with
  | some .local => true
  | some .cell => true
  | some .free => true
  | _ => false
def isLoc (sc : Scope) (x : Str) : Bool := match sc.names.lookup x with
  | some .local => true
  | some .cell => true
  | _ => false
def isGl (sc : Scope) (x : Str) : Bool := decide (sc.names.lookup x = some .globalImplicit)
def okName (x : Str) : Bool := !(x == ("__debug__" : Str)) && !(x == ("__classdict__" : Str)) && !(x == ("__name__" : Str))
def cSlot (Γ : Scp) (x : Str) : Option Nat := if isVis Γ.sc x && okName x then ixOf Γ.N x else none
def cStore (Γ : Scp) (x : Str) : Option Nat := if isLoc Γ.sc x && okName x then ixOf Γ.N x else none
def builtins : List Str := ["len", "all", "any", "sum", "tuple", "list", "abs", "max", "min", "int", "bool", "sorted", "isinstance", "range", "zip", "enumerate", "str", "repr", "dict", "set", "divmod", "ord", "ValueError"]
def bifOf (x : Str) (n : Nat) : Option Bif :=
  if x = "len" ∧ n = 1 then some .len else
  if x = "all" ∧ n = 1 then some .all else
  if x = "any" ∧ n = 1 then some .any else
  if x = "sum" ∧ n = 1 then some .sum else
  if x = "tuple" ∧ n = 1 then some .tuple else
  if x = "list" ∧ n = 1 then some .list else
  if x = "abs" ∧ n = 1 then some .abs else
  if x = "max" ∧ n = 2 then some .max2 else
  if x = "min" ∧ n = 2 then some .min2 else
  if x = "max" ∧ n = 1 then some .max1 else
  if x = "min" ∧ n = 1 then some .min1 else
  if x = "int" ∧ n = 1 then some .int else
  if x = "bool" ∧ n = 1 then some .bool else
  if x = "sorted" ∧ n = 1 then some .sorted else none
/-- it may run within an except suite -/
def bifHot : Bif → Bool
  | .len | .abs | .int | .bool | .list | .tuple => true
  | _ => false
mutual
def tgS : Tg → List Nat
  | .name i => [i]
  | .tup ts => tgSs ts
def tgSs : List Tg → List Nat
  | [] => []
  | t :: r => tgS t ++ tgSs r
end
def tyOf (x : Str) : Option String :=
  if x = "int" then some "int" else if x = "bool" then some "bool" else if x = "str" then some "str" else if x = "tuple" then some "tuple" else if x = "list" then some "list" else if x = "dict" then some "dict" else none

/-! ### the block of a comprehension -/
def relNames (scope sc : Scope) : Scope := L2.relS scope sc
/-- its own names with their places -/
def ownOf (N : List Str) (scope : Scope) : List (Str × Nat) := scope.names.filterMap fun p => match p.2 with
  | .local => (ixOf N p.1).map fun i => (p.1, i)
  | .cell => (ixOf N p.1).map fun i => (p.1, i)
  | _ => none

/-- a lambda is within -/
def kidsOpt : Option Expr → List Expr
  | none => []
  | some e => [e]
/-! ### expressions -/
def cOpts {α β : Type} (f : α → Option β) : List α → Option (List β)
  | [] => some []
  | a :: r => match f a, cOpts f r with
    | some b, some bs => some (b :: bs)
    | _, _ => none
def cEs (f : Expr → Option IE) : List Expr → Option IEs
  | [] => some .nil
  | e :: r => match f e, cEs f r with
    | some a, some as => some (.cons a as)
    | _, _ => none
def cBool (k : IE → IE → IE) (f : Expr → Option IE) : List Expr → Option IE
  | [] => none
  | [e] => f e
  | e :: r => match f e, cBool k f r with
    | some a, some b => some (k a b)
    | _, _ => none
/-- an operand that is only read -/
def cB (Γ : Scp) (f : Expr → Option IE) : Expr → Option IE
  | .Name x pos => match cSlot Γ x with
    | some i => some (.bor i)
    | none => f (.Name x pos)
  | e => f e
def cBb (br : Bool) (Γ : Scp) (f : Expr → Option IE) (e : Expr) : Option IE := if br then cB Γ f e else f e
mutual
def cTg (Γ : Scp) : Nat → Expr → Option Tg
  | 0, _ => none
  | n + 1, .Name x _ => (cStore Γ x).map .name
  | n + 1, .Tuple es _ _ => (cTgs Γ n es).map .tup
  | _, _ => none
def cTgs (Γ : Scp) : Nat → List Expr → Option (List Tg)
  | 0, _ => none
  | n + 1, [] => some []
  | n + 1, e :: r => match cTg Γ n e, cTgs Γ n r with
    | some a, some as => some (a :: as)
    | _, _ => none
end
def cOpt (f : Expr → Option IE) : Option Expr → Option IEo
  | none => some .none
  | some e => (f e).map .some
def cSrc (Γ : Scp) (br : Bool) (f : Expr → Option IE) (tup : Bool) : Expr → Option ISrc
  | .Call (.Name g p) args [] pos =>
    if isGl Γ.sc g && okName g then
      if g = "range" then match args with
        | [a] => (f a).map .range1
        | [a, b] => match f a, f b with
          | some x, some y => some (.range2 x y)
          | _, _ => none
        | _ => none
      else if g = "zip" then match args, tup with
        | [a, b], true => match cBb br Γ f a, cBb br Γ f b with
          | some x, some y => some (.zip x y)
          | _, _ => none
        | _, _ => none
      else if g = "enumerate" then match args, tup with
        | [a], true => (cBb br Γ f a).map .enum
        | _, _ => none
      else (f (.Call (.Name g p) args [] pos)).map .seq
    else (f (.Call (.Name g p) args [] pos)).map .seq
  | e => (cBb br Γ f e).map .seq
def isNameE : Expr → Bool
  | .Name _ _ => true
  | _ => false
def isTupE : Expr → Bool
  | .Tuple _ _ _ => true
  | _ => false
def lamParams (a : Arguments) : Option (List Str) := match a with
  | ⟨[], args, none, [], [], none, []⟩ => some (args.map (·.arg))
  | _ => none
def freeOf (scope : Scope) : List Str := scope.names.filterMap fun p => match p.2 with
  | .free => some p.1
  | _ => none
def ownNames (scope : Scope) : List Str := scope.names.filterMap fun p => match p.2 with
  | .local => if p.1 = ".0" then none else some p.1
  | .cell => some p.1
  | _ => none
/-- the comprehensions' own names within -/
def kids : Expr → List Expr
  | .BoolOp _ vs _ => vs
  | .BinOp a _ b _ => [a, b]
  | .UnaryOp _ a _ => [a]
  | .IfExp a b c _ => [a, b, c]
  | .Compare a _ bs _ => a :: bs
  | .Call f as _ _ => f :: as
  | .Attribute a _ _ => [a]
  | .Subscript a b _ => [a, b]
  | .Slice a b c _ => kidsOpt a ++ (kidsOpt b ++ kidsOpt c)
  | .List es _ => es
  | .Tuple es _ _ => es
  | .Dict ks vs _ => (ks.flatMap kidsOpt) ++ vs
  | .ListComp e gs _ _ => e :: gs.flatMap fun g => g.target :: g.iter :: g.ifs
  | .DictComp k v gs _ _ => k :: v :: gs.flatMap fun g => g.target :: g.iter :: g.ifs
  | _ => []
def compNames : Nat → Expr → List Str
  | 0, _ => []
  | n + 1, e => (match e with
    | .ListComp _ _ sc _ => ownNames sc
    | .DictComp _ _ _ sc _ => ownNames sc
    | _ => []) ++ (kids e).flatMap (compNames n)
def skids : Stmt → List Expr × List Stmt
  | .Return v _ => (kidsOpt v, [])
  | .Assign ts v _ => (ts ++ [v], [])
  | .AugAssign t _ v _ => ([t, v], [])
  | .For t i b o _ => ([t, i], b ++ o)
  | .While t b o _ => ([t], b ++ o)
  | .If t b o _ => ([t], b ++ o)
  | .Raise e _ _ => (kidsOpt e, [])
  | .Try b hs _ _ _ => ([], b ++ hs.flatMap fun h => match h with | .ExceptHandler _ _ s _ => s)
  | .Expr v _ => ([v], [])
  | _ => ([], [])
def stmtComps : Nat → Stmt → List Str
  | 0, _ => []
  | n + 1, s => ((skids s).1.flatMap (compNames 30)) ++ (skids s).2.flatMap (stmtComps n)

def lamE : Nat → Expr → Bool
  | 0, _ => false
  | n + 1, e => (match e with | .Lambda .. => true | _ => false) || (kids e).any (lamE n)
def lamS : Nat → Stmt → Bool
  | 0, _ => false
  | n + 1, s => (skids s).1.any (lamE 30) || (skids s).2.any (lamS n)
def cIfs (f : Expr → Option IE) : List Expr → Option IEo
  | [] => some .none
  | [c] => (f c).map .some
  | _ => none
def cE : Nat → Scp → Expr → Option IE
  | 0, _, _ => none
  | n + 1, Γ, e => match e with
    | .Constant .none _ _ => some .non
    | .Constant (.bool b) _ _ => some (.bl b)
    | .Constant (.int i) _ _ => some (.int i)
    | .Constant (.str x) _ _ => some (.str x)
    | .Name x _ => match cSlot Γ x with
      | some i => some (.var i)
      | none => if isGl Γ.sc x && okName x then some (.glob x) else none
    | .BoolOp .And vs _ => cBool .and (cE n Γ) vs
    | .BoolOp .Or vs _ => cBool .or (cE n Γ) vs
    | .BinOp a op b _ => match cB Γ (cE n Γ) a, cB Γ (cE n Γ) b with
      | some x, some y => some (.bin op x y)
      | _, _ => none
    | .UnaryOp .Not a _ => (cE n Γ a).map .not
    | .UnaryOp .USub a _ => (cE n Γ a).map .neg
    | .IfExp t a b _ => match cE n Γ t, cE n Γ a, cE n Γ b with
      | some x, some y, some z => some (.ite x y z)
      | _, _, _ => none
    | .Compare a [op] [b] _ => match cB Γ (cE n Γ) a, cB Γ (cE n Γ) b with
      | some x, some y => some (.cmp op x y)
      | _, _ => none
    | .Compare a [op, op'] [b, c] _ => match cE n Γ a, cE n Γ b, cE n Γ c with
      | some x, some y, some z => some (.chain op op' x y z)
      | _, _, _ => none
    | .Tuple es _ _ => (cEs (cE n Γ) es).map .tup
    | .List es _ => (cEs (cE n Γ) es).map .lst
    | .Dict [] [] _ => some .dnew
    | .Subscript a (.Slice lo hi none _) _ => match cB Γ (cE n Γ) a, cOpt (cE n Γ) lo, cOpt (cE n Γ) hi with
      | some x, some l, some h => some (.slc x l h)
      | _, _, _ => none
    | .Subscript _ (.Slice _ _ _ _) _ => none
    | .Subscript a i _ => match cB Γ (cE n Γ) a, cE n Γ i with
      | some x, some y => some (.idx x y)
      | _, _ => none
    | .Call (.Name f _) args [] _ =>
      match cSlot Γ f with
      | some i => if Γ.hot then none else (cEs (cE n Γ) args).map (.callv i)
      | none => if !(isGl Γ.sc f && okName f) then none else
        if f = "isinstance" then match args with
          | [.Name x _, .Name c _] => match cSlot Γ x, isGl Γ.sc c && okName c with
            | some i, true => match tyOf c with
              | some ty => some (.isi (.bor i) ty)
              | none => if Γ.isx && (Γ.clss.contains c || decide (c = "ValueError")) then some (.isx i c) else none
            | _, _ => none
          | [a, .Name c _] => match cE n Γ a, isGl Γ.sc c && okName c, tyOf c with
            | some x, true, some ty => some (.isi x ty)
            | _, _, _ => none
          | _ => none
        else match bifOf f args.length with
          | some b => if Γ.hot && !bifHot b then none else (cEs (cB Γ (cE n Γ)) args).map (.bif b)
          | none => if Γ.hot || !Γ.defs.contains f then none else (cAs Γ (cE n Γ) (cE n) args).map (.call f)
    | .ListComp elt [⟨tg, iter, ifs, 0⟩] scope _ =>
      let Γ' : Scp := { Γ with sc := L2.relS scope Γ.sc, lam := false, isx := false, muts := [] }
      if (!Γ.hot || isNameE iter) && L2.blkC Γ.N Γ.sc scope (ownOf Γ.N scope) then
        match cE n Γ' elt, cTg Γ' 10 tg, cSrc Γ true (cE n Γ) (isTupE tg) iter, cIfs (cE n Γ') ifs with
        | some x, some t, some s, some c => if (tgS t).all ((ownOf Γ.N scope).map (·.2)).contains then some (.comp x t s c ((ownOf Γ.N scope).map (·.2))) else none
        | _, _, _, _ => none
      else none
    | _ => none
where
  /-- the arguments of a call: lambdas among them -/
  cAs (Γ : Scp) (f : Expr → Option IE) (g : Scp → Expr → Option IE) : List Expr → Option IAs
    | [] => some .nil
    | .Lambda a body scope _ :: r => match Γ.lam, lamParams a, cAs Γ f g r with
      | true, some ps, some r' =>
        let fr := freeOf scope
        let N' := (ps ++ (fr ++ compNames 30 body)).eraseDups
        if !(NdefX.nscB N' ps fr scope && NdefX.ndefB Γ.sc scope fr) then none else
        match g { N := N', sc := scope, muts := [], lam := false, isx := false, objs := false, hot := false, defs := Γ.defs, clss := Γ.clss } body, cOpts (fun x => cSlot Γ x) fr with
        | some b, some cap => some (.lam ps.length N'.length b cap r')
        | _, _ => none
      | _, _, _ => none
    | e :: r => match f e, cAs Γ f g r with
      | some a, some as => some (.val a as)
      | _, _ => none
end Ev

/-! EvC: statements, defs, the program. -/
namespace Ev
open PySem

/-! ### the slots that are read as values -/
mutual
def vE : IE → List Nat
  | .var i => [i]
  | .tup es | .lst es => vEs es
  | .bin _ a b | .cmp _ a b | .and a b | .or a b | .idx a b => vE a ++ vE b
  | .neg a | .not a | .isi a _ => vE a
  | .chain _ _ a b c | .ite a b c => vE a ++ (vE b ++ vE c)
  | .slc a lo hi => vE a ++ (vEo lo ++ vEo hi)
  | .call _ as => vAs as
  | .callv i es => i :: vEs es
  | .bif _ es => vEs es
  | .comp e _ s c _ => vE e ++ (vSrc s ++ vEo c)
  | _ => []
def vEs : IEs → List Nat
  | .nil => []
  | .cons e r => vE e ++ vEs r
def vEo : IEo → List Nat
  | .none => []
  | .some e => vE e
def vAs : IAs → List Nat
  | .nil => []
  | .val e r => vE e ++ vAs r
  | .lam _ _ _ cap r => cap ++ vAs r
def vSrc : ISrc → List Nat
  | .seq e => vE e
  | .range1 a => vE a
  | .range2 a b => vE a ++ vE b
  | .zip a b => vE a ++ vE b
  | .enum a => vE a
end
/-- an expression that makes a new list -/
def isNew : IE → Bool
  | .lst _ => true
  | .comp _ _ _ _ _ => true
  | .bif .list _ => true
  | .bif .sorted _ => true
  | .bin .Add _ _ => true
  | .bin .Mult _ _ => true
  | .slc _ _ _ => true
  | _ => false
def frzOf (Γ : Scp) (vs : List Nat) : List IS :=
  let fs := (vs.filter fun i => Γ.muts.contains i).eraseDups
  if fs.isEmpty then [] else [.frz fs]
def folded : Nat → Expr → Bool := PySem.foldedForSure
/-- a, b = x, y: the plain names that are stored from the right -/
def parN (Γ : Scp) (ts vs : List Expr) : Option (Option (List Str)) :=
  if !(ts.length == 2 || ts.length == 3) || vs.length != ts.length then some none else
  if (vs.any fun | .Starred .. => true | _ => false) = true then none else
  let names := ts.filterMap fun
    | .Name id pos => if Γ.sc.names.lookup id == some .local && pos.line == (ts.head?.map (·.pos.line)).getD 0 then some id else none
    | _ => none
  if (names.length != ts.length || names.eraseDups.length != names.length) = true then some none else
  if vs.all (foldedForSure 8) = true then some none else
  if vs.all (constantsAlone 8) = true then none else
  some (some names)
def parIs (Γ : Scp) : List Expr → Option (List Nat)
  | [.Name x _, .Name y _] => match cStore Γ x, cStore Γ y with
    | some i, some j => if i == j then none else some [i, j]
    | _, _ => none
  | [.Name x _, .Name y _, .Name z _] => match cStore Γ x, cStore Γ y, cStore Γ z with
    | some i, some j, some l => if i == j || (i == l || j == l) then none else some [i, j, l]
    | _, _, _ => none
  | _ => none
def isComp : Expr → Bool
  | .ListComp .. => true
  | .SetComp .. => true
  | .DictComp .. => true
  | _ => false
/-- name = [..]: its store is exchanged with the block's end -/
def exch (Γ : Scp) (scope : Scope) (x : Str) (py pos : Pos) : Bool :=
  decide (Γ.sc.names.lookup x = some .local) && ((py.line == pos.line) && !(scope.names.any fun p => p.1 == x && (p.2 == .local || p.2 == .cell)))

def seqS : List IS → ISs
  | [] => .nil
  | s :: r => .cons s (seqS r)
def cSs (f : Stmt → Option (List IS)) : List Stmt → Option (List IS)
  | [] => some []
  | s :: r => match f s, cSs f r with
    | some a, some b => some (a ++ b)
    | _, _ => none
def cS : Nat → Scp → Stmt → Option (List IS)
  | 0, _, _ => none
  | n + 1, Γ, s => match s with
    | .Pass _ => some [.pass]
    | .Expr (.Constant (.str _) _ _) _ => some [.pass]
    | .Expr (.Call (.Attribute (.Name x _) m apos) [a] [] cpos) _ =>
      if m = "append" && (apos.endLine == cpos.line) then match cSlot Γ x, cE 40 Γ a with
        | some i, some e => some (frzOf Γ (vE e) ++ [.append i e])
        | _, _ => none
      else none
    | .Expr e _ => if isComp e then none else (cE 40 Γ e).map fun a => frzOf Γ (vE a) ++ [.expr a]
    | .Return none _ => some [.retN]
    | .Return (some e) _ =>
      match Γ.objs, e with
      | true, .List es _ => (cEs (cE 40 Γ) es).map fun a => [.retObj a]
      | _, e => (cE 40 Γ e).map fun a => frzOf Γ (vE a) ++ [.ret a]
    | .Assign [.Name x py] v pos => match cStore Γ x, cE 40 Γ v with
      | some i, some e => some (frzOf Γ (vE e) ++ [if Γ.muts.contains i && isNew e then .setOwn i e else .set (.name i) e])
      | _, _ => none
    | .Assign [.Tuple ts k tp] v pos => match v with
      | .Tuple vs _ _ => match parN Γ ts vs with
        | none => none
        | some (some ns) => match parIs Γ ts, cEs (cE 40 Γ) vs with
          | some is, some es => if Γ.hot then none else some (frzOf Γ (vEs es) ++ [.par is es])
          | _, _ => none
        | some none => if Γ.hot then none else match cTg Γ 10 (.Tuple ts k tp), cE 40 Γ v with
          | some t, some e => some (frzOf Γ (vE e) ++ [.set t e])
          | _, _ => none
      | v => if isComp v || Γ.hot then none else match cTg Γ 10 (.Tuple ts k tp), cE 40 Γ v with
        | some t, some e => some (frzOf Γ (vE e) ++ [.set t e])
        | _, _ => none
    | .Assign [.Subscript (.Name x _) i _] v _ => if isComp v then none else match i with
      | .Slice .. => none
      | i => match cSlot Γ x, cE 40 Γ i, cE 40 Γ v with
        | some j, some k, some e => some (frzOf Γ (vE k ++ vE e) ++ [.setIdx (.bor j) k e])
        | _, _, _ => none
    | .AugAssign (.Name x _) op v _ => if !(decide (op = .Add) || decide (op = .Sub)) then none else match cStore Γ x, cE 40 Γ v with
      | some i, some e => some (frzOf Γ (vE e) ++ [.aug i op e])
      | _, _ => none
    | .If t a b _ => match cE 40 Γ t, cSs (cS n Γ) a, cSs (cS n Γ) b with
      | some x, some y, some z => some (frzOf Γ (vE x) ++ [.ife x (seqS y) (seqS z)])
      | _, _, _ => none
    | .While t b [] _ => if Γ.hot then none else match cE 40 Γ t, cSs (cS n Γ) b with
      | some x, some y => if (frzOf Γ (vE x)).isEmpty then some [.whl x (seqS y)] else none
      | _, _ => none
    | .For t i b [] _ => if Γ.hot then none else match cTg Γ 10 t, cSrc Γ false (cE 40 Γ) (isTupE t) i, cSs (cS n Γ) b with
      | some x, some s, some y => some (frzOf Γ (vSrc s) ++ [.for x s (seqS y)])
      | _, _, _ => none
    | .Raise (some (.Call (.Name c _) [] [] _)) none _ => if isGl Γ.sc c && (okName c && (!Γ.hot && Γ.clss.contains c)) then some [.raise c .none] else none
    | .Try b [.ExceptHandler (some (.Name c _)) (some x) h _] [] [] _ => match cSs (cS n Γ) b, cStore Γ x, isGl Γ.sc c && (okName c && (!Γ.hot && Γ.clss.contains c)), cSs (cS n { Γ with hot := true }) h with
      | some y, some i, true, some z => if !h.isEmpty && decide (Γ.sc.names.lookup x = some .local) then some [.tryAs (seqS y) c i (seqS z)] else none
      | _, _, _, _ => none
    | _ => none

/-! ### defs -/
def mutWords : List Str := ["append", "extend", "pop", "insert", "sort", "update", "clear", "remove"]
def mutE : Nat → Expr → List Str
  | 0, _ => []
  | n + 1, e => (match e with
    | .Call (.Attribute (.Name x _) m _) _ _ _ => if mutWords.contains m then [x] else []
    | _ => []) ++ (kids e).flatMap (mutE n)
def mutS : Nat → Stmt → List Str
  | 0, _ => []
  | n + 1, s => (match s with
    | .Assign [.Subscript (.Name x _) _ _] _ _ => [x]
    | .AugAssign (.Subscript (.Name x _) _ _) _ _ _ => [x]
    | _ => []) ++ ((skids s).1.flatMap (mutE 30) ++ (skids s).2.flatMap (mutS n))
def localNames (sc : Scope) : List Str := sc.names.filterMap fun p => match p.2 with
  | .local => some p.1
  | .cell => some p.1
  | _ => none
/-- the names of a def by slot -/
def slotsOf (ps : List Str) (sc : Scope) (body : List Stmt) : List Str := (ps ++ (localNames sc ++ body.flatMap (stmtComps 30))).eraseDups
def fnScopeB (N ps : List Str) (sc : Scope) : Bool :=
  decide (sc.kind = .function) && (!sc.isCoroutine && (!sc.isGenerator && (decide N.Nodup && (decide (N.take ps.length = ps) && (ps.all (fun x => isLoc sc x) && sc.names.all fun y => decide (y.2 ≠ .free))))))
def scpOf (defs clss : List Str) (obj : Bool) (ps : List Str) (sc : Scope) (body : List Stmt) : Scp :=
  let N := slotsOf ps sc body
  let ms := (body.flatMap (mutS 30)).filter fun x => !ps.contains x
  { N := N, sc := sc, muts := (ms.filterMap (ixOf N)).eraseDups, lam := body.any (lamS 30), isx := true, objs := obj, hot := false, defs := defs, clss := clss }
def cFn (defs clss : List Str) (obj : Bool) (ps : List Str) (sc : Scope) (body : List Stmt) : Option FnIR :=
  let Γ := scpOf defs clss obj ps sc body
  if fnScopeB Γ.N ps sc then (cSs (cS 30 Γ) body).map fun b => { np := ps.length, nl := Γ.N.length, body := seqS b } else none
/-- a def of the top -/
def cDef (defs clss objs : List Str) (st : Stmt) : Option (Str × FnIR) := match st with
  | .FunctionDef name a body [] none [] sc none bind _ => match lamParams a with
    | some ps => (cFn defs clss (objs.contains name) ps sc body).map fun ir => (name, ir)
    | none => none
  | _ => none
end Ev

set_option maxHeartbeats 1000000
/-! EvD: how values lie in the abstract heap. -/
namespace Ev
open PySem PySem.Spec PyProof.Rows L2

/-- a list that never changes -/
def SqF (K : PySem.W.Frag) (H : Hp) (a : Addr) (xs : List V) : Prop := ∃ ob, H a = some (.frz ob (.lst xs))
theorem SqF.toL {K : PySem.W.Frag} {H : Hp} {a : Addr} {xs : List V} (h : SqF K H a xs) : SqL K H a xs := .inl (.inr h)

mutual
def Rep (K : PySem.W.Frag) (os : List Addr) (H : Hp) : D → V → Prop
  | .non, v => v = .non
  | .bl b, v => v = .bl b
  | .int i, v => v = .int i
  | .str x, v => v = .str x
  | .tup ds, v => ∃ a xs, v = .ref a ∧ SqT K H a xs ∧ Reps K os H ds xs
  | .lst ds, v => ∃ a xs, v = .ref a ∧ SqF K H a xs ∧ Reps K os H ds xs
  | .dct ks vs, v => ks = [] ∧ vs = [] ∧ ∃ a ob, v = .ref a ∧ H a = some (.frz ob (.dK []))
  | .obj i, v => ∃ a, os[i]? = some a ∧ v = .ref a
def Reps (K : PySem.W.Frag) (os : List Addr) (H : Hp) : List D → List V → Prop
  | [], xs => xs = []
  | d :: ds, xs => ∃ x r, xs = x :: r ∧ Rep K os H d x ∧ Reps K os H ds r
end
section
variable {K : PySem.W.Frag} {os : List Addr} {H : Hp}
theorem Reps.nil : Reps K os H [] [] := by unfold Reps; rfl
theorem Reps.cons {d : D} {ds : List D} {x : V} {r : List V} (h1 : Rep K os H d x) (h2 : Reps K os H ds r) : Reps K os H (d :: ds) (x :: r) := by
  unfold Reps; exact ⟨x, r, rfl, h1, h2⟩
theorem Reps.inv {d : D} {ds : List D} {xs : List V} (h : Reps K os H (d :: ds) xs) : ∃ x r, xs = x :: r ∧ Rep K os H d x ∧ Reps K os H ds r := by
  unfold Reps at h; exact h
theorem Reps.inv0 {xs : List V} (h : Reps K os H [] xs) : xs = [] := by unfold Reps at h; exact h
theorem Reps.length : ∀ {ds : List D} {xs : List V}, Reps K os H ds xs → xs.length = ds.length
  | [], xs, h => by rw [h.inv0]; rfl
  | d :: ds, xs, h => by
    obtain ⟨x, r, rfl, _, h2⟩ := h.inv
    rw [List.length_cons, List.length_cons, Reps.length h2]
theorem Reps.get : ∀ {ds : List D} {xs : List V} {i : Nat} {d : D}, Reps K os H ds xs → ds[i]? = some d → ∃ x, xs[i]? = some x ∧ Rep K os H d x
  | [], _, _, _, _, e => by simp at e
  | d :: ds, xs, 0, d', h, e => by
    obtain ⟨x, r, rfl, h1, _⟩ := h.inv
    have e' : d = d' := Option.some.inj e
    exact ⟨x, rfl, e' ▸ h1⟩
  | d :: ds, xs, i + 1, d', h, e => by
    obtain ⟨x, r, rfl, _, h2⟩ := h.inv
    obtain ⟨y, e1, e2⟩ := Reps.get (i := i) h2 (by simpa using e)
    exact ⟨y, by simpa using e1, e2⟩
theorem Reps.getV : ∀ {ds : List D} {xs : List V} {i : Nat} {x : V}, Reps K os H ds xs → xs[i]? = some x → ∃ d, ds[i]? = some d ∧ Rep K os H d x
  | [], xs, i, x, h, e => by rw [h.inv0] at e; simp at e
  | d :: ds, xs, 0, x', h, e => by
    obtain ⟨x, r, rfl, h1, _⟩ := h.inv
    have e' : x = x' := Option.some.inj e
    exact ⟨d, rfl, e' ▸ h1⟩
  | d :: ds, xs, i + 1, x', h, e => by
    obtain ⟨x, r, rfl, _, h2⟩ := h.inv
    obtain ⟨y, e1, e2⟩ := Reps.getV (i := i) h2 (by simpa using e)
    exact ⟨y, by simpa using e1, e2⟩
theorem Reps.append : ∀ {ds es : List D} {xs ys : List V}, Reps K os H ds xs → Reps K os H es ys → Reps K os H (ds ++ es) (xs ++ ys)
  | [], es, xs, ys, h, g => by rw [h.inv0]; exact g
  | d :: ds, es, xs, ys, h, g => by
    obtain ⟨x, r, rfl, h1, h2⟩ := h.inv
    exact .cons h1 (Reps.append h2 g)
theorem Reps.take : ∀ {ds : List D} {xs : List V} (n : Nat), Reps K os H ds xs → Reps K os H (ds.take n) (xs.take n)
  | ds, xs, 0, _ => by simpa using Reps.nil
  | [], xs, n + 1, h => by rw [h.inv0]; exact Reps.nil
  | d :: ds, xs, n + 1, h => by
    obtain ⟨x, r, rfl, h1, h2⟩ := h.inv
    exact .cons h1 (Reps.take n h2)
theorem Reps.drop : ∀ {ds : List D} {xs : List V} (n : Nat), Reps K os H ds xs → Reps K os H (ds.drop n) (xs.drop n)
  | ds, xs, 0, h => h
  | [], xs, n + 1, h => by rw [h.inv0]; exact Reps.nil
  | d :: ds, xs, n + 1, h => by
    obtain ⟨x, r, rfl, h1, h2⟩ := h.inv
    exact Reps.drop n h2
theorem Reps.set : ∀ {ds : List D} {xs : List V} {d : D} {x : V} (n : Nat), Reps K os H ds xs → Rep K os H d x → Reps K os H (ds.set n d) (xs.set n x)
  | [], xs, d, x, n, h, g => by rw [h.inv0]; exact Reps.nil
  | e :: ds, xs, d, x, 0, h, g => by
    obtain ⟨y, r, rfl, h1, h2⟩ := h.inv
    exact .cons g h2
  | e :: ds, xs, d, x, n + 1, h, g => by
    obtain ⟨y, r, rfl, h1, h2⟩ := h.inv
    exact .cons h1 (Reps.set n h2 g)
theorem Reps.rep {ds : List D} {xs : List V} (h : Reps K os H ds xs) : ∀ k : Nat, Reps K os H (List.replicate k ds).flatten (List.replicate k xs).flatten
  | 0 => by simpa using Reps.nil
  | k + 1 => by
    rw [List.replicate_succ, List.replicate_succ, List.flatten_cons, List.flatten_cons]
    exact h.append (Reps.rep h k)
theorem Reps.cut {ds : List D} {xs : List V} (h : Reps K os H ds xs) (lo hi : Option Int) : Reps K os H (cutD ds lo hi) (cutV xs lo hi) := by
  unfold cutD cutV
  rw [h.length]
  exact (h.drop _).take _
theorem Reps.at {ds : List D} {xs : List V} {i : Int} {d : D} (h : Reps K os H ds xs) (e : atI ds i = some d) : ∃ x, atI xs i = some x ∧ Rep K os H d x := by
  unfold atI at e ⊢
  rw [h.length]
  cases q : ixN ds.length i with
  | none => rw [q] at e; cases e
  | some j =>
    rw [q] at e
    exact h.get e
/-- the ints, the bools -/
theorem Reps.ints : ∀ {ds : List D} {ns : List Int} {xs : List V}, intsD ds = some ns → Reps K os H ds xs → xs = ns.map V.int
  | [], ns, xs, e, h => by
    have e' : ns = [] := (Option.some.inj e).symm
    rw [e', h.inv0]; rfl
  | d :: ds, ns, xs, e, h => by
    obtain ⟨x, r, rfl, h1, h2⟩ := h.inv
    cases d with
    | int i =>
      have e1 : (intsD ds).map (i :: ·) = some ns := e
      cases q : intsD ds with
      | none => rw [q] at e1; cases e1
      | some ms =>
        rw [q] at e1
        have e2 : i :: ms = ns := Option.some.inj e1
        have hx : x = .int i := by unfold Rep at h1; exact h1
        rw [← e2, hx, Reps.ints q h2]; rfl
    | _ => cases e
theorem Reps.bls : ∀ {ds : List D} {ns : List Bool} {xs : List V}, blsD ds = some ns → Reps K os H ds xs → xs = ns.map V.bl
  | [], ns, xs, e, h => by
    have e' : ns = [] := (Option.some.inj e).symm
    rw [e', h.inv0]; rfl
  | d :: ds, ns, xs, e, h => by
    obtain ⟨x, r, rfl, h1, h2⟩ := h.inv
    cases d with
    | bl i =>
      have e1 : (blsD ds).map (i :: ·) = some ns := e
      cases q : blsD ds with
      | none => rw [q] at e1; cases e1
      | some ms =>
        rw [q] at e1
        have e2 : i :: ms = ns := Option.some.inj e1
        have hx : x = .bl i := by unfold Rep at h1; exact h1
        rw [← e2, hx, Reps.bls q h2]; rfl
    | _ => cases e
/-- flat values -/
theorem Rep.flat {d : D} {v : V} (h : Rep K os H d v) (f : flatD d = true) : flatV v = true := by
  cases d <;> first
    | (cases f; done)
    | (unfold Rep at h; subst h; rfl)
theorem Rep.eqF {d e : D} {v u : V} (h : Rep K os H d v) (g : Rep K os H e u) (f : flatD d = true) (f' : flatD e = true) : eqV v u = Ev.eqF d e := by
  cases d <;> cases e <;> first
    | (cases f; done)
    | (cases f'; done)
    | (unfold Rep at h g; subst h; subst g; rfl)
theorem Reps.flats : ∀ {ds : List D} {xs : List V}, Reps K os H ds xs → ds.all flatD = true → xs.all flatV = true
  | [], xs, h, _ => by rw [h.inv0]; rfl
  | d :: ds, xs, h, f => by
    obtain ⟨x, r, rfl, h1, h2⟩ := h.inv
    rw [List.all_cons, Bool.and_eq_true] at f ⊢
    exact ⟨h1.flat f.1, Reps.flats h2 f.2⟩
theorem Reps.anyF {d : D} {v : V} (g : Rep K os H d v) (f : flatD d = true) : ∀ {ds : List D} {xs : List V}, Reps K os H ds xs → ds.all flatD = true → inV v xs = ds.any fun y => Ev.eqF y d
  | [], xs, h, _ => by rw [h.inv0]; rfl
  | e :: ds, xs, h, fs => by
    obtain ⟨x, r, rfl, h1, h2⟩ := h.inv
    rw [List.all_cons, Bool.and_eq_true] at fs
    have ih := Reps.anyF g f h2 fs.2
    unfold inV at ih ⊢
    rw [List.any_cons, List.any_cons, ih, h1.eqF g fs.1 f]

/-- .. perhaps a list of the frame's own, that is changed in place -/
def RepB (K : PySem.W.Frag) (os : List Addr) (H : Hp) (d : D) (v : V) : Prop :=
  Rep K os H d v ∨ ∃ ds a xs, d = .lst ds ∧ v = .ref a ∧ a ∉ os ∧ H a = some (.lst xs) ∧ Reps K os H ds xs
theorem RepB.lst {ds : List D} {v : V} (h : RepB K os H (.lst ds) v) : ∃ a xs, v = .ref a ∧ SqL K H a xs ∧ Reps K os H ds xs := by
  rcases h with h | ⟨ds', a, xs, e, rfl, _, h1, h2⟩
  · unfold Rep at h
    obtain ⟨a, xs, rfl, h1, h2⟩ := h
    exact ⟨a, xs, rfl, h1.toL, h2⟩
  · cases e
    exact ⟨a, xs, rfl, .of h1, h2⟩
/-- .. where it lies -/
theorem RepB.lstR {ds : List D} {v : V} (h : RepB K os H (.lst ds) v) : ∃ a xs, v = .ref a ∧ Rd H a (.lst xs) ∧ Reps K os H ds xs := by
  rcases h with h | ⟨ds', a, xs, e, rfl, _, h1, h2⟩
  · unfold Rep at h
    obtain ⟨a, xs, rfl, h1, h2⟩ := h
    exact ⟨a, xs, rfl, .inr h1, h2⟩
  · cases e
    exact ⟨a, xs, rfl, .inl h1, h2⟩
theorem RepB.of_ne {d : D} {v : V} (h : RepB K os H d v) (n : ∀ ds, d ≠ .lst ds) : Rep K os H d v := by
  rcases h with h | ⟨ds', a, xs, e, _⟩
  · exact h
  · exact absurd e (n ds')
theorem RepB.tup {ds : List D} {v : V} (h : RepB K os H (.tup ds) v) : ∃ a xs, v = .ref a ∧ SqT K H a xs ∧ Reps K os H ds xs := by
  have q := h.of_ne (fun _ e => nomatch e)
  unfold Rep at q; exact q
theorem RepB.int {i : Int} {v : V} (h : RepB K os H (.int i) v) : v = .int i := by
  have q := h.of_ne (fun _ e => nomatch e)
  unfold Rep at q; exact q
theorem RepB.bl {i : Bool} {v : V} (h : RepB K os H (.bl i) v) : v = .bl i := by
  have q := h.of_ne (fun _ e => nomatch e)
  unfold Rep at q; exact q
theorem RepB.str {i : Str} {v : V} (h : RepB K os H (.str i) v) : v = .str i := by
  have q := h.of_ne (fun _ e => nomatch e)
  unfold Rep at q; exact q
theorem RepB.non {v : V} (h : RepB K os H .non v) : v = .non := by
  have q := h.of_ne (fun _ e => nomatch e)
  unfold Rep at q; exact q

/-! ### as the library's data -/
mutual
theorem Rep.dp : ∀ (d : D) {v : V} {p : PyData}, d.py = some p → Rep K os H d v → Dp K H v p
  | .non, v, p, e, h => by
    unfold D.py at e; unfold Rep at h; cases e; subst h; exact .non
  | .bl b, v, p, e, h => by
    unfold D.py at e; unfold Rep at h; cases e; subst h; exact .bl b
  | .int b, v, p, e, h => by
    unfold D.py at e; unfold Rep at h; cases e; subst h; exact .int b
  | .str b, v, p, e, h => by
    unfold D.py at e; unfold Rep at h; cases e; subst h; exact .str b
  | .tup ds, v, p, e, h => by
    unfold D.py at e; unfold Rep at h
    obtain ⟨a, xs, rfl, h1, h2⟩ := h
    cases q : D.pys ds with
    | none => rw [q] at e; cases e
    | some ps =>
      rw [q] at e
      cases e
      exact .tup h1 (Reps.dp ds q h2)
  | .lst ds, v, p, e, h => by
    unfold D.py at e; unfold Rep at h
    obtain ⟨a, xs, rfl, h1, h2⟩ := h
    cases q : D.pys ds with
    | none => rw [q] at e; cases e
    | some ps =>
      rw [q] at e
      cases e
      exact .lst h1.toL (Reps.dp ds q h2)
  | .dct _ _, v, p, e, h => by unfold D.py at e; cases e
  | .obj _, v, p, e, h => by unfold D.py at e; cases e
theorem Reps.dp : ∀ (ds : List D) {xs : List V} {ps : List PyData}, D.pys ds = some ps → Reps K os H ds xs → DpAll K H xs ps
  | [], xs, ps, e, h => by
    unfold D.pys at e
    cases e
    rw [h.inv0]; exact .nil
  | d :: ds, xs, ps, e, h => by
    obtain ⟨x, r, rfl, h1, h2⟩ := h.inv
    unfold D.pys at e
    cases q1 : D.py d with
    | none => rw [q1] at e; cases e
    | some p =>
      cases q2 : D.pys ds with
      | none => rw [q1, q2] at e; cases e
      | some qs =>
        rw [q1, q2] at e
        cases e
        exact .cons (Rep.dp d q1 h1) (Reps.dp ds q2 h2)
end
theorem RepB.dp {d : D} {v : V} {p : PyData} (e : d.py = some p) (h : RepB K os H d v) : Dp K H v p := by
  rcases h with h | ⟨ds, a, xs, rfl, rfl, _, h1, h2⟩
  · exact h.dp d e
  · unfold D.py at e
    cases q : D.pys ds with
    | none => rw [q] at e; cases e
    | some ps =>
      rw [q] at e
      cases e
      exact .lst (.of h1) (Reps.dp ds q h2)
end

/-! ### what changes -/
abbrev Tbs : Type := List (Addr × Str)
/-- nothing but a table is there -/
def NoO (H : Hp) (b : Addr) : Prop := ∀ u, H b = some u → ∃ ps, u = .tbl ps
theorem NoO.of {H : Hp} {b : Addr} (h : H b = none) : NoO H b := fun u e => by rw [h] at e; cases e
structure Post (T : Tbs) (os : List Addr) (H : Hp) (os' : List Addr) (H' : Hp) : Prop where
  pre : ∃ new, os' = os ++ new ∧ ∀ b ∈ new, NoO H b
  keep : ∀ b u, H b = some u → b ∉ os → (∀ ps, u ≠ .tbl ps) → H' b = some u
  dom : ∀ b, NoO H' b → NoO H b
  tab : LamX.Tabs T H → LamX.Tabs T H'
theorem Post.refl {T : Tbs} {os : List Addr} {H : Hp} : Post T os H os H := ⟨⟨[], by simp, by simp⟩, fun _ _ h _ _ => h, fun _ h => h, fun h => h⟩
theorem Post.trans {T : Tbs} {os os1 os2 : List Addr} {H H1 H2 : Hp} (a : Post T os H os1 H1) (b : Post T os1 H1 os2 H2) : Post T os H os2 H2 where
  pre := by
    obtain ⟨n1, rfl, h1⟩ := a.pre
    obtain ⟨n2, rfl, h2⟩ := b.pre
    refine ⟨n1 ++ n2, by rw [List.append_assoc], fun c hc => ?_⟩
    rcases List.mem_append.mp hc with hc | hc
    · exact h1 c hc
    · exact a.dom c (h2 c hc)
  keep := fun c u e n nt => by
    refine b.keep c u (a.keep c u e n nt) ?_ nt
    obtain ⟨n1, rfl, h1⟩ := a.pre
    intro hc
    rcases List.mem_append.mp hc with hc | hc
    · exact n hc
    · obtain ⟨ps, z⟩ := h1 c hc u e
      exact nt ps z
  dom := fun c h => a.dom c (b.dom c h)
  tab := fun h => b.tab (a.tab h)
/-- all that was tracked is as it was -/
theorem Post.same {T : Tbs} {os : List Addr} {H H' : Hp} (h : Same H H') : Post T os H os H' where
  pre := ⟨[], by simp, by simp⟩
  keep := fun b u e _ _ => h b u e
  dom := fun b e u q => e u (h b u q)
  tab := fun t => LamX.Tabs.ext t h
theorem same_upd {H : Hp} {p : Addr} {o : HO} (h : H p = none) : Same H (upd H p o) := fun b x e => by
  rw [upd_ne (ne_of_none e h)]; exact e
/-- a mutable thing is changed -/
theorem tabs_upd {T : Tbs} {H : Hp} {a : Addr} {xs : List V} {o : HO} (h : H a = some (.lst xs)) (t : LamX.Tabs T H) : LamX.Tabs T (upd H a o) := fun p hp => by
  obtain ⟨ps, h1, h2, h3⟩ := t p hp
  have n1 : p.1 ≠ a := fun e => by rw [e, h] at h1; cases h1
  refine ⟨ps, by rw [upd_ne n1]; exact h1, h2, fun pos cv hc => ?_⟩
  obtain ⟨c, e1, e2⟩ := h3 pos cv hc
  have n2 : c ≠ a := fun e => by
    rw [e, h] at e2
    unfold LamX.CodeO at e2
    cases e2
  exact ⟨c, e1, by rw [upd_ne n2]; exact e2⟩

/-! ### the shared objects -/
def ObjAt (K : PySem.W.Frag) (os : List Addr) (H : Hp) (a : Addr) : SObj → Prop
  | .lst ds => ∃ xs, H a = some (.lst xs) ∧ Reps K os H ds xs
structure OOk (K : PySem.W.Frag) (os : List Addr) (H : Hp) (o : Objs) : Prop where
  len : os.length = o.length
  at_ : ∀ (i : Nat) (so : SObj), o[i]? = some so → ∃ a, os[i]? = some a ∧ ObjAt K os H a so
  nd : os.Nodup
theorem OOk.mem {K : PySem.W.Frag} {os : List Addr} {H : Hp} {o : Objs} (O : OOk K os H o) {a : Addr} (h : a ∈ os) : ∃ xs, H a = some (.lst xs) := by
  obtain ⟨i, hi, e⟩ := List.mem_iff_getElem.mp h
  have hi' : i < o.length := by rw [← O.len]; exact hi
  obtain ⟨b, e1, e2⟩ := O.at_ i o[i] (List.getElem?_eq_getElem hi')
  have e3 : os[i]? = some a := by rw [List.getElem?_eq_getElem hi, e]
  rw [e1] at e3
  cases e3
  cases q : o[i] with
  | lst ds =>
    rw [q] at e2
    obtain ⟨xs, h1, _⟩ := e2
    exact ⟨xs, h1⟩

section
variable {K : PySem.W.Frag} {T : Tbs} {os os' : List Addr} {H H' : Hp} {o o' : Objs}
theorem SqT.post (P : Post T os H os' H') (O : OOk K os H o) {a : Addr} {xs : List V} (h : SqT K H a xs) : SqT K H' a xs := by
  have nos : ∀ u, H a = some u → (∀ xs, u ≠ .lst xs) → a ∉ os := fun u e n hm => by
    obtain ⟨ys, e'⟩ := O.mem hm
    rw [e] at e'; exact n ys (Option.some.inj e')
  rcases h with (h | ⟨ob, h⟩) | h
  · exact .inl (.inl (P.keep _ _ h (nos _ h fun _ e => nomatch e) fun _ e => nomatch e))
  · exact .inl (.inr ⟨ob, P.keep _ _ h (nos _ h fun _ e => nomatch e) fun _ e => nomatch e⟩)
  · exact .inr h
theorem SqF.post (P : Post T os H os' H') (O : OOk K os H o) {a : Addr} {xs : List V} (h : SqF K H a xs) : SqF K H' a xs := by
  obtain ⟨ob, h⟩ := h
  refine ⟨ob, P.keep _ _ h (fun hm => ?_) fun _ e => nomatch e⟩
  obtain ⟨ys, e'⟩ := O.mem hm
  rw [h] at e'; cases e'
mutual
theorem Rep.post (P : Post T os H os' H') (O : OOk K os H o) : ∀ (d : D) {v : V}, Rep K os H d v → Rep K os' H' d v
  | .non, v, h => by unfold Rep at h ⊢; exact h
  | .bl _, v, h => by unfold Rep at h ⊢; exact h
  | .int _, v, h => by unfold Rep at h ⊢; exact h
  | .str _, v, h => by unfold Rep at h ⊢; exact h
  | .tup ds, v, h => by
    unfold Rep at h ⊢
    obtain ⟨a, xs, e, h1, h2⟩ := h
    exact ⟨a, xs, e, SqT.post P O h1, Reps.post P O ds h2⟩
  | .lst ds, v, h => by
    unfold Rep at h ⊢
    obtain ⟨a, xs, e, h1, h2⟩ := h
    exact ⟨a, xs, e, SqF.post P O h1, Reps.post P O ds h2⟩
  | .dct ks vs, v, h => by
    unfold Rep at h ⊢
    obtain ⟨e1, e2, a, ob, e3, h1⟩ := h
    refine ⟨e1, e2, a, ob, e3, P.keep _ _ h1 (fun hm => ?_) fun _ e => nomatch e⟩
    obtain ⟨ys, e'⟩ := O.mem hm
    rw [h1] at e'; cases e'
  | .obj i, v, h => by
    unfold Rep at h ⊢
    obtain ⟨a, e, e2⟩ := h
    obtain ⟨new, rfl, _⟩ := P.pre
    exact ⟨a, by rw [List.getElem?_append_left (List.getElem?_eq_some_iff.mp e).1]; exact e, e2⟩
theorem Reps.post (P : Post T os H os' H') (O : OOk K os H o) : ∀ (ds : List D) {xs : List V}, Reps K os H ds xs → Reps K os' H' ds xs
  | [], xs, h => by unfold Reps at h ⊢; exact h
  | d :: ds, xs, h => by
    obtain ⟨x, r, rfl, h1, h2⟩ := h.inv
    exact .cons (Rep.post P O d h1) (Reps.post P O ds h2)
end
theorem RepB.post (P : Post T os H os' H') (O : OOk K os H o) {d : D} {v : V} (h : RepB K os H d v) : RepB K os' H' d v := by
  rcases h with h | ⟨ds, a, xs, rfl, rfl, n, h1, h2⟩
  · exact .inl (Rep.post P O d h)
  · refine .inr ⟨ds, a, xs, rfl, rfl, fun hm => ?_, P.keep _ _ h1 n (fun _ e => nomatch e), Reps.post P O ds h2⟩
    obtain ⟨new, rfl, hn⟩ := P.pre
    rcases List.mem_append.mp hm with hm | hm
    · exact n hm
    · obtain ⟨ps, z⟩ := hn a hm _ h1
      cases z
theorem OOk.same (O : OOk K os H o) (h : Same H H') : OOk K os H' o where
  len := O.len
  at_ := fun i so e => by
    obtain ⟨a, e1, e2⟩ := O.at_ i so e
    refine ⟨a, e1, ?_⟩
    cases so with
    | lst ds =>
      obtain ⟨xs, h1, h2⟩ := e2
      exact ⟨xs, h _ _ h1, Reps.post (T := []) (Post.same h) O ds h2⟩
  nd := O.nd
end

/-! ### frames -/
/-- what lambdas that came in are, what the caught exception is: fixed through the def -/
structure SpV where
  clo : Addr → Nat → Nat → IE → List V → Addr → Str → Prop
  exc : Addr → Str → Prop
structure EnvOk (K : PySem.W.Frag) (Sp : SpV) (os : List Addr) (H : Hp) (σ : L2.St) (ρ : Frm) : Prop where
  len : σ.length = ρ.length
  val : ∀ (i : Nat) (d : D), ρ[i]? = some (.val d) → ∃ v, σ[i]? = some (some v) ∧ Rep K os H d v
  own : ∀ (i : Nat) (d : D), ρ[i]? = some (.own d) → ∃ ds a xs, d = .lst ds ∧ σ[i]? = some (some (.ref a)) ∧ a ∉ os ∧ H a = some (.lst xs) ∧ Reps K os H ds xs
  dis : ∀ (i j : Nat) (d e : D) (a : Addr), i ≠ j → ρ[i]? = some (.own d) → ρ[j]? = some (.own e) → σ[i]? = some (some (.ref a)) → σ[j]? ≠ some (some (.ref a))
  clo : ∀ (i np nl : Nat) (b : IE) (cap : List D), ρ[i]? = some (.clo np nl b cap) → ∃ f vs c' q, σ[i]? = some (some (.ref f)) ∧ Sp.clo f np nl b vs c' q ∧ Reps K os H cap vs ∧ H c' = some (LamX.CodeO c' q)
  exc : ∀ (i : Nat) (c : Str) (xs : List D), ρ[i]? = some (.exc c xs) → ∃ a, σ[i]? = some (some (.ref a)) ∧ Sp.exc a c
section
variable {K : PySem.W.Frag} {Sp : SpV} {T : Tbs} {os os' : List Addr} {H H' : Hp} {o o' : Objs} {σ : L2.St} {ρ : Frm}
theorem codeO_post (P : Post T os H os' H') (O : OOk K os H o) {c' : Addr} {q : Str} (h : H c' = some (LamX.CodeO c' q)) : H' c' = some (LamX.CodeO c' q) := by
  refine P.keep _ _ h (fun hm => ?_) fun ps => LamX.codeO_ne ps
  obtain ⟨ys, e'⟩ := O.mem hm
  rw [h] at e'
  unfold LamX.CodeO at e'
  cases e'
theorem EnvOk.post (E : EnvOk K Sp os H σ ρ) (P : Post T os H os' H') (O : OOk K os H o) : EnvOk K Sp os' H' σ ρ where
  len := E.len
  val := fun i d e => by
    obtain ⟨v, e1, e2⟩ := E.val i d e
    exact ⟨v, e1, Rep.post P O d e2⟩
  own := fun i d e => by
    obtain ⟨ds, a, xs, e1, e2, n, e3, e4⟩ := E.own i d e
    refine ⟨ds, a, xs, e1, e2, fun hm => ?_, P.keep _ _ e3 n (fun _ e => nomatch e), Reps.post P O ds e4⟩
    obtain ⟨new, rfl, hn⟩ := P.pre
    rcases List.mem_append.mp hm with hm | hm
    · exact n hm
    · obtain ⟨ps, z⟩ := hn a hm _ e3
      cases z
  dis := E.dis
  clo := fun i np nl b cap e => by
    obtain ⟨f, vs, c', q, e1, e2, e3, e4⟩ := E.clo i np nl b cap e
    exact ⟨f, vs, c', q, e1, e2, Reps.post P O cap e3, codeO_post P O e4⟩
  exc := E.exc
theorem wipe_ne {σ : L2.St} {i : Nat} : ∀ {vs : List Nat}, i ∉ vs → (wipe σ vs)[i]? = σ[i]? := L2.wipe_out
theorem wipeF_ne {ρ : Frm} {i : Nat} : ∀ {vs : List Nat}, i ∉ vs → (wipeF ρ vs)[i]? = ρ[i]?
  | [], _ => rfl
  | v :: vs, h => by
    simp only [List.mem_cons, not_or] at h
    show ((wipeF ρ vs).set v .none)[i]? = _
    rw [List.getElem?_set_ne (Ne.symm h.1)]
    exact wipeF_ne h.2
theorem wipeF_length {ρ : Frm} : ∀ vs : List Nat, (wipeF ρ vs).length = ρ.length
  | [] => rfl
  | v :: vs => by
    show ((wipeF ρ vs).set v .none).length = _
    rw [List.length_set, wipeF_length vs]
theorem wipeF_in {ρ : Frm} {i : Nat} {s : Slot} : ∀ {vs : List Nat}, i ∈ vs → (wipeF ρ vs)[i]? = some s → s = .none
  | v :: vs, h, e => by
    have e' : ((wipeF ρ vs).set v .none)[i]? = some s := e
    by_cases hv : v = i
    · subst hv
      by_cases hl : v < (wipeF ρ vs).length
      · rw [List.getElem?_set_self hl] at e'
        exact (Option.some.inj e').symm
      · rw [List.getElem?_eq_none (by simpa using hl)] at e'
        cases e'
    · rw [List.getElem?_set_ne hv] at e'
      rcases List.mem_cons.mp h with q | q
      · exact absurd q.symm hv
      · exact wipeF_in q e'
theorem EnvOk.wiped (E : EnvOk K Sp os H σ ρ) (vs : List Nat) : EnvOk K Sp os H (wipe σ vs) (wipeF ρ vs) where
  len := by rw [wipe_length, wipeF_length]; exact E.len
  val := fun i d e => by
    by_cases hi : i ∈ vs
    · cases wipeF_in hi e
    · rw [wipeF_ne hi] at e
      rw [wipe_ne hi]
      exact E.val i d e
  own := fun i d e => by
    by_cases hi : i ∈ vs
    · cases wipeF_in hi e
    · rw [wipeF_ne hi] at e
      rw [wipe_ne hi]
      exact E.own i d e
  dis := fun i j d e a hij e1 e2 e3 => by
    by_cases hi : i ∈ vs
    · cases wipeF_in hi e1
    · by_cases hj : j ∈ vs
      · cases wipeF_in hj e2
      · rw [wipeF_ne hi] at e1
        rw [wipeF_ne hj] at e2
        rw [wipe_ne hi] at e3
        rw [wipe_ne hj]
        exact E.dis i j d e a hij e1 e2 e3
  clo := fun i np nl b cap e => by
    by_cases hi : i ∈ vs
    · cases wipeF_in hi e
    · rw [wipeF_ne hi] at e
      rw [wipe_ne hi]
      exact E.clo i np nl b cap e
  exc := fun i c xs e => by
    by_cases hi : i ∈ vs
    · cases wipeF_in hi e
    · rw [wipeF_ne hi] at e
      rw [wipe_ne hi]
      exact E.exc i c xs e
/-- what is not there is not another -/
theorem set_ne {ρ : Frm} {i j : Nat} {s u : Slot} (q : (ρ.set i s)[j]? = some u) (n : s ≠ u) : i ≠ j := fun z => by
  subst z
  have hl : i < ρ.length := by simpa using (List.getElem?_eq_some_iff.mp q).1
  rw [List.getElem?_set_self hl] at q
  exact n (Option.some.inj q)
/-- a slot is set -/
theorem EnvOk.set (E : EnvOk K Sp os H σ ρ) {i : Nat} {d : D} {v : V} (h : Rep K os H d v) : EnvOk K Sp os H (σ.set i (some v)) (ρ.set i (.val d)) where
  len := by rw [List.length_set, List.length_set]; exact E.len
  val := fun j e q => by
    by_cases hj : i = j
    · subst hj
      have hl : i < ρ.length := by simpa using (List.getElem?_eq_some_iff.mp q).1
      rw [List.getElem?_set_self hl] at q
      cases q
      exact ⟨v, by rw [List.getElem?_set_self (by rw [E.len]; exact hl)], h⟩
    · rw [List.getElem?_set_ne hj] at q ⊢
      exact E.val j e q
  own := fun j e q => by
    by_cases hj : i = j
    · subst hj
      have hl : i < ρ.length := by simpa using (List.getElem?_eq_some_iff.mp q).1
      rw [List.getElem?_set_self hl] at q
      cases q
    · rw [List.getElem?_set_ne hj] at q ⊢
      exact E.own j e q
  dis := fun j k e f a hjk q1 q2 q3 => by
    have nj : i ≠ j := fun z => by
      subst z
      have hl : i < ρ.length := by simpa using (List.getElem?_eq_some_iff.mp q1).1
      rw [List.getElem?_set_self hl] at q1
      cases q1
    have nk : i ≠ k := fun z => by
      subst z
      have hl : i < ρ.length := by simpa using (List.getElem?_eq_some_iff.mp q2).1
      rw [List.getElem?_set_self hl] at q2
      cases q2
    rw [List.getElem?_set_ne nj] at q1 q3
    rw [List.getElem?_set_ne nk] at q2 ⊢
    exact E.dis j k e f a hjk q1 q2 q3
  clo := fun j np nl b cap q => by
    have nj := set_ne q (fun z => nomatch z)
    rw [List.getElem?_set_ne nj] at q ⊢
    exact E.clo j np nl b cap q
  exc := fun j c xs q => by
    have nj := set_ne q (fun z => nomatch z)
    rw [List.getElem?_set_ne nj] at q ⊢
    exact E.exc j c xs q
/-- a slot is forgotten -/
theorem EnvOk.gone (E : EnvOk K Sp os H σ ρ) (i : Nat) (v : Option V) : EnvOk K Sp os H (σ.set i v) (ρ.set i .none) where
  len := by rw [List.length_set, List.length_set]; exact E.len
  val := fun j e q => by
    have nj : i ≠ j := fun z => by
      subst z
      have hl : i < ρ.length := by simpa using (List.getElem?_eq_some_iff.mp q).1
      rw [List.getElem?_set_self hl] at q
      cases q
    rw [List.getElem?_set_ne nj] at q ⊢
    exact E.val j e q
  own := fun j e q => by
    have nj : i ≠ j := fun z => by
      subst z
      have hl : i < ρ.length := by simpa using (List.getElem?_eq_some_iff.mp q).1
      rw [List.getElem?_set_self hl] at q
      cases q
    rw [List.getElem?_set_ne nj] at q ⊢
    exact E.own j e q
  dis := fun j k e f a hjk q1 q2 q3 => by
    have nj : i ≠ j := fun z => by
      subst z
      have hl : i < ρ.length := by simpa using (List.getElem?_eq_some_iff.mp q1).1
      rw [List.getElem?_set_self hl] at q1
      cases q1
    have nk : i ≠ k := fun z => by
      subst z
      have hl : i < ρ.length := by simpa using (List.getElem?_eq_some_iff.mp q2).1
      rw [List.getElem?_set_self hl] at q2
      cases q2
    rw [List.getElem?_set_ne nj] at q1 q3
    rw [List.getElem?_set_ne nk] at q2 ⊢
    exact E.dis j k e f a hjk q1 q2 q3
  clo := fun j np nl b cap q => by
    have nj := set_ne q (fun z => nomatch z)
    rw [List.getElem?_set_ne nj] at q ⊢
    exact E.clo j np nl b cap q
  exc := fun j c xs q => by
    have nj := set_ne q (fun z => nomatch z)
    rw [List.getElem?_set_ne nj] at q ⊢
    exact E.exc j c xs q
end
end Ev

set_option maxHeartbeats 1000000
/-! EvE: the readings; operators. -/
namespace Ev
open PySem PySem.Spec PyProof.Rows L2

structure Pm where
  F : FnT
  C : CloT
  G : Str → Option D
  isa : Str → Str → Bool
  L : Nat
  T : Tbs
  Sp : SpV
  ad : Str → Addr
  fld : Str → Str
  xok : Str → Prop
abbrev Pm.evE (p : Pm) (e : IE) (ρ : Frm) (o : Objs) : Res D := Ev.evE p.F p.C p.G p.isa e ρ o
abbrev Pm.evEs (p : Pm) (e : IEs) (ρ : Frm) (o : Objs) : Res (List D) := Ev.evEs p.F p.C p.G p.isa e ρ o
abbrev Pm.evEo (p : Pm) (e : IEo) (ρ : Frm) (o : Objs) : Res (Option Int) := Ev.evEo p.F p.C p.G p.isa e ρ o
abbrev Pm.evC (p : Pm) (e : IEo) (ρ : Frm) (o : Objs) : Res Bool := Ev.evC p.F p.C p.G p.isa e ρ o
abbrev Pm.evAs (p : Pm) (e : IAs) (ρ : Frm) (o : Objs) : Res (List Slot) := Ev.evAs p.F p.C p.G p.isa e ρ o
abbrev Pm.evSrc (p : Pm) (e : ISrc) (ρ : Frm) (o : Objs) : Res (List D) := Ev.evSrc p.F p.C p.G p.isa e ρ o
abbrev Pm.evT (p : Pm) (e : IE) (ρ : Frm) (o : Objs) : Res Bool := Ev.evT p.F p.C p.G p.isa e ρ o

/-- an exception of the class c with these fields -/
def ExR (p : Pm) (K : PySem.W.Frag) (os : List Addr) (H : Hp) (c : Str) (xs : List D) (cls : Value) (d : Option Addr) : Prop :=
  cls = .ref (p.ad c) ∧ p.xok c ∧ ((xs = [] ∧ d = none) ∨ ∃ x dd v, xs = [x] ∧ d = some dd ∧ H dd = some (.xd [(p.fld c, v)]) ∧ Rep K os H x v)
section
variable {p : Pm} {K : PySem.W.Frag} {W : WX} {os os1 : List Addr} {H H1 : Hp} {o o1 : Objs} {σ : L2.St} {ρ : Frm} {α β : Type}
/-- what is wanted of an answer -/
def Out (p : Pm) (K : PySem.W.Frag) (W : WX) (σ : L2.St) (os : List Addr) (H : Hp) (r : Res α) (Q : α → Objs → List Addr → Hp → Prop) : Prop := match r with
  | .ok a o' => ∀ os' H', Post p.T os H os' H' → OOk K os' H' o' → Q a o' os' H'
  | .err c xs o' => ∀ os' H' cls d, Post p.T os H os' H' → OOk K os' H' o' → ExR p K os' H' c xs cls d → W cls d σ H'
  | .stuck => False
theorem Out.step {r : Res α} {Q : α → Objs → List Addr → Hp → Prop} (h : Out p K W σ os H r Q) (P : Post p.T os H os1 H1) : Out p K W σ os1 H1 r Q := by
  cases r with
  | ok a o' => exact fun os' H' P' => h os' H' (P.trans P')
  | err c xs o' => exact fun os' H' cls d P' => h os' H' cls d (P.trans P')
  | stuck => exact h
theorem Out.mono {r : Res α} {Q Q' : α → Objs → List Addr → Hp → Prop} (h : Out p K W σ os H r Q) (m : ∀ a o' os' H', r = .ok a o' → Post p.T os H os' H' → OOk K os' H' o' → Q a o' os' H' → Q' a o' os' H') : Out p K W σ os H r Q' := by
  cases r with
  | ok a o' => exact fun os' H' P' O' => m a o' os' H' rfl P' O' (h os' H' P' O')
  | err c xs o' => exact h
  | stuck => exact h
/-- .. where all that comes later is told -/
theorem Out.more {r : Res α} {Q Q' : α → Objs → List Addr → Hp → Prop} (h : Out p K W σ os H r Q) (m : ∀ a o' os' H', r = .ok a o' → Post p.T os H os' H' → OOk K os' H' o' → (∀ os2 H2, Post p.T os' H' os2 H2 → OOk K os2 H2 o' → Q a o' os2 H2) → Q' a o' os' H') : Out p K W σ os H r Q' := by
  cases r with
  | ok a o' => exact fun os' H' P' O' => m a o' os' H' rfl P' O' fun os2 H2 P2 O2 => h os2 H2 (P'.trans P2) O2
  | err c xs o' => exact h
  | stuck => exact h
theorem Out.bind {r : Res α} {f : α → Objs → Res β} {Q : β → Objs → List Addr → Hp → Prop} (h : Out p K W σ os H (r.bind f) Q) : Out p K W σ os H r fun a o' os' H' => Out p K W σ os' H' (f a o') Q := by
  cases r with
  | ok a o' => exact fun os' H' P' O' => Out.step (r := f a o') h P'
  | err c xs o' => exact h
  | stuck => exact h
theorem Out.ok {a : α} {Q : α → Objs → List Addr → Hp → Prop} (h : Out p K W σ os H (.ok a o) Q) (O : OOk K os H o) : Q a o os H := h os H .refl O
/-- .. of an answer that may lack -/
theorem Out.ofO {a : Option α} {Q : α → Objs → List Addr → Hp → Prop} (h : Out p K W σ os H (.ofO a o) Q) : ∃ b, a = some b ∧ Out p K W σ os H (.ok b o) Q := by
  cases a with
  | none => exact h.elim
  | some b => exact ⟨b, rfl, h⟩
end

/-- the state at a place: the frame, the shared objects, the tables -/
structure At (p : Pm) (K : PySem.W.Frag) (os : List Addr) (H : Hp) (σ : L2.St) (ρ : Frm) (o : Objs) : Prop where
  env : EnvOk K p.Sp os H σ ρ
  obs : OOk K os H o
  tab : LamX.Tabs p.T H
theorem At.next {p : Pm} {K : PySem.W.Frag} {os os' : List Addr} {H H' : Hp} {σ : L2.St} {ρ : Frm} {o o' : Objs} (a : At p K os H σ ρ o) (P : Post p.T os H os' H') (O : OOk K os' H' o') : At p K os' H' σ ρ o' :=
  ⟨a.env.post P a.obs, O, P.tab a.tab⟩
theorem At.same {p : Pm} {K : PySem.W.Frag} {os : List Addr} {H H' : Hp} {σ : L2.St} {ρ : Frm} {o : Objs} (a : At p K os H σ ρ o) (h : Same H H') : At p K os H' σ ρ o := a.next (.same h) (a.obs.same h)

/-! ### the readings -/
section
variable (p : Pm) (K : PySem.W.Frag) (W : WX)
/-- an expression's value -/
def tE (ie : IE) : TE := fun σ H Q => ∃ ρ os o, At p K os H σ ρ o ∧ Out p K W σ os H (p.evE ie ρ o) fun d _ os' H' => ∀ v, Rep K os' H' d v → Q v H'
/-- .. one that is only read -/
def tB (ie : IE) : TE := fun σ H Q => ∃ ρ os o, At p K os H σ ρ o ∧ Out p K W σ os H (p.evE ie ρ o) fun d _ os' H' => ∀ v, RepB K os' H' d v → Q v H'
/-- .. a new list -/
def tN (ie : IE) : TE := fun σ H Q => ∃ ρ os o, At p K os H σ ρ o ∧ Out p K W σ os H (p.evE ie ρ o) fun d _ os' H' => ∀ v ds a xs, d = .lst ds → v = .ref a → H a = none → a ∉ os' → H' a = some (.lst xs) → Reps K os' H' ds xs → Q v H'
/-- a test -/
def tT (ie : IE) : TT := fun σ H Q => ∃ ρ os o, At p K os H σ ρ o ∧ Out p K W σ os H (p.evE ie ρ o) fun d _ os' H' => ∃ k, d = .bl k ∧ Q k H'
def tVs (es : IEs) : TA := fun σ H Q => ∃ ρ os o, At p K os H σ ρ o ∧ Out p K W σ os H (p.evEs es ρ o) fun ds _ os' H' => ∀ vs, Reps K os' H' ds vs → Q vs H'
/-- values that are only read -/
def RepBs (os : List Addr) (H : Hp) : List D → List V → Prop
  | [], xs => xs = []
  | d :: ds, xs => ∃ x r, xs = x :: r ∧ RepB K os H d x ∧ RepBs os H ds r
def tBs (es : IEs) : TA := fun σ H Q => ∃ ρ os o, At p K os H σ ρ o ∧ Out p K W σ os H (p.evEs es ρ o) fun ds _ os' H' => ∀ vs, RepBs K os' H' ds vs → Q vs H'
end
section
variable {X : Cx} {p : Pm} {K : PySem.W.Frag} {W : WX}
/-- a reading that asks more -/
theorem pe_imp {e : Expr} {t t' : TE} (h : PE X e t) (m : ∀ σ H Q, t' σ H Q → t σ H Q) : PE X e t' := ⟨fun pins s σ H Q I q => h.run pins s σ H Q I (m σ H Q q)⟩
theorem pt_imp {e : Expr} {t t' : TT} (h : PT X e t) (m : ∀ σ H Q, t' σ H Q → t σ H Q) : PT X e t' := ⟨fun pins s σ H Q I q => h.run pins s σ H Q I (m σ H Q q)⟩
theorem pw_imp {e : Expr} {t t' : TT} (h : PW X e t) (m : ∀ σ H Q, t' σ H Q → t σ H Q) : PW X e t' := ⟨fun wh pins s σ H Q I q => h.run wh pins s σ H Q I (m σ H Q q)⟩
theorem pa_imp {e : List Expr} {t t' : TA} (h : PA X e t) (m : ∀ σ H Q, t' σ H Q → t σ H Q) : PA X e t' := ⟨fun pos pins s σ H Q I q => h.run pos pins s σ H Q I (m σ H Q q)⟩
theorem ps_imp {e : Stmt} {t t' : TS} (h : PS X e t) (m : ∀ D σ H, t' D σ H → t D σ H) : PS X e t' := ⟨fun pins s σ H D I q => h.run pins s σ H D I (m D σ H q)⟩
theorem pss_imp {e : List Stmt} {t t' : TS} (h : PSs X e t) (m : ∀ D σ H, t' D σ H → t D σ H) : PSs X e t' := ⟨fun pins s σ H D I q => h.run pins s σ H D I (m D σ H q)⟩
theorem tB_tE {ie : IE} {σ : L2.St} {H : Hp} {Q : VK} (h : tB p K W ie σ H Q) : tE p K W ie σ H Q := by
  obtain ⟨ρ, os, o, a, h⟩ := h
  exact ⟨ρ, os, o, a, h.mono fun d o' os' H' _ _ _ q v r => q v (.inl r)⟩
theorem pe_B {e : Expr} {ie : IE} (h : PE X e (tE p K W ie)) : PE X e (tB p K W ie) := pe_imp h fun _ _ _ => tB_tE

/-! ### names and constants -/
theorem ge_non {j pos} : PE X (.Constant .none j pos) (tE p K W .non) := pe_imp pe_non fun σ H Q ⟨ρ, os, o, a, h⟩ => h.ok a.obs _ (by unfold Rep; rfl)
theorem ge_bl {b j pos} : PE X (.Constant (.bool b) j pos) (tE p K W (.bl b)) := pe_imp pe_bl fun σ H Q ⟨ρ, os, o, a, h⟩ => h.ok a.obs _ (by unfold Rep; rfl)
theorem ge_int {i j pos} : PE X (.Constant (.int i) j pos) (tE p K W (.int i)) := pe_imp pe_int fun σ H Q ⟨ρ, os, o, a, h⟩ => h.ok a.obs _ (by unfold Rep; rfl)
theorem ge_str {x j pos} : PE X (.Constant (.str x) j pos) (tE p K W (.str x)) := pe_imp pe_str fun σ H Q ⟨ρ, os, o, a, h⟩ => h.ok a.obs _ (by unfold Rep; rfl)
theorem getV_some {ρ : Frm} {i : Nat} {d : D} (h : getV ρ i = some d) : ρ[i]? = some (.val d) := by
  unfold getV at h
  split at h
  · rename_i q; rw [q, Option.some.inj h]
  · cases h
theorem ge_var {i : Nat} {x : Str} {pos : Pos} (hN : X.N[i]? = some x) (hv : Vis X.env.scope x) (hd : (x == ("__debug__" : Str)) = false) (hcd : (x == ("__classdict__" : Str)) = false) : PE X (.Name x pos) (tE p K W (.var i)) := pe_imp (pe_var hN hv hd hcd) fun σ H Q ⟨ρ, os, o, a, h⟩ => by
  obtain ⟨d, e, h⟩ := Out.ofO (show Out p K W σ os H (.ofO (getV ρ i) o) _ from h)
  obtain ⟨v, e1, r⟩ := a.env.val i d (getV_some e)
  exact ⟨v, e1, h.ok a.obs v r⟩
theorem ge_bor {i : Nat} {x : Str} {pos : Pos} (hN : X.N[i]? = some x) (hv : Vis X.env.scope x) (hd : (x == ("__debug__" : Str)) = false) (hcd : (x == ("__classdict__" : Str)) = false) : PE X (.Name x pos) (tB p K W (.bor i)) := pe_imp (pe_var hN hv hd hcd) fun σ H Q ⟨ρ, os, o, a, h⟩ => by
  obtain ⟨d, e, h⟩ := Out.ofO (show Out p K W σ os H (.ofO (getB ρ i) o) _ from h)
  unfold getB at e
  split at e
  · rename_i d' q
    cases e
    obtain ⟨v, e1, r⟩ := a.env.val i d q
    exact ⟨v, e1, h.ok a.obs v (.inl r)⟩
  · rename_i d' q
    cases e
    obtain ⟨ds, b, xs, rfl, e2, n, e3, e4⟩ := a.env.own i d q
    exact ⟨.ref b, e2, h.ok a.obs _ (.inr ⟨ds, b, xs, rfl, rfl, n, e3, e4⟩)⟩
  · cases e
end
end Ev

set_option maxHeartbeats 1000000
/-! EvF: new values; operators by values. -/
namespace Ev
open PySem PySem.Spec PyProof.Rows L2

/-- a value just made: a list of its own, or a value -/
structure MkV (K : PySem.W.Frag) (os : List Addr) (H : Hp) (d : D) (v : V) (H' : Hp) : Prop where
  same : Same H H'
  rep : ((∀ ds, d ≠ .lst ds) ∧ Rep K os H' d v) ∨ ∃ ds a xs, d = .lst ds ∧ v = .ref a ∧ H a = none ∧ H' = upd H a (.lst xs) ∧ Reps K os H ds xs
section
variable {X : Cx} {p : Pm} {K : PySem.W.Frag} {W : WX} {os os1 : List Addr} {H H1 : Hp} {o o1 : Objs} {σ : L2.St} {ρ : Frm} {d : D} {v : V}
theorem Same.rfl' : Same H H := fun _ _ h => h
theorem MkV.old (n : ∀ ds, d ≠ .lst ds) (r : Rep K os H d v) : MkV K os H d v H := ⟨Same.rfl', .inl ⟨n, r⟩⟩
theorem MkV.lst {ds : List D} {a : Addr} {xs : List V} (h : H a = none) (r : Reps K os H ds xs) : MkV K os H (.lst ds) (.ref a) (upd H a (.lst xs)) := ⟨same_upd h, .inr ⟨ds, a, xs, rfl, rfl, h, rfl, r⟩⟩
theorem Reps.same (O : OOk K os H o) (s : Same H H1) {ds : List D} {xs : List V} (r : Reps K os H ds xs) : Reps K os H1 ds xs := Reps.post (T := []) (Post.same s) O ds r
theorem Rep.same (O : OOk K os H o) (s : Same H H1) (r : Rep K os H d v) : Rep K os H1 d v := Rep.post (T := []) (Post.same s) O d r
theorem MkV.tup (O : OOk K os H o) {ds : List D} {a : Addr} {xs : List V} (h : H a = none) (r : Reps K os H ds xs) : MkV K os H (.tup ds) (.ref a) (upd H a (.tup xs)) := by
  refine ⟨same_upd h, .inl ⟨fun _ e => (by cases e), ?_⟩⟩
  unfold Rep
  exact ⟨a, xs, rfl, .inl (.inl upd_same), r.same O (same_upd h)⟩
theorem MkV.cur {ds : List D} {a : Addr} {xs : List V} (h : SqT K H a xs) (r : Reps K os H ds xs) : MkV K os H (.tup ds) (.ref a) H := .old (fun _ e => nomatch e) (by unfold Rep; exact ⟨a, xs, rfl, h, r⟩)
theorem Rep.mkInt (i : Int) : Rep K os H (.int i) (.int i) := by unfold Rep; rfl
theorem Rep.mkBl (i : Bool) : Rep K os H (.bl i) (.bl i) := by unfold Rep; rfl
theorem Rep.mkStr (i : Str) : Rep K os H (.str i) (.str i) := by unfold Rep; rfl
theorem Rep.mkNon : Rep K os H .non .non := by unfold Rep; rfl
theorem MkV.int (i : Int) : MkV K os H (.int i) (.int i) H := .old (fun _ e => nomatch e) (.mkInt i)
theorem MkV.bl (i : Bool) : MkV K os H (.bl i) (.bl i) H := .old (fun _ e => nomatch e) (.mkBl i)
theorem MkV.str (i : Str) : MkV K os H (.str i) (.str i) H := .old (fun _ e => nomatch e) (.mkStr i)
theorem MkV.post {T : Tbs} {H' : Hp} (m : MkV K os H d v H') : Post T os H os H' := .same m.same
/-- locked -/
theorem MkV.fin (O : OOk K os H o) {H' : Hp} (m : MkV K os H d v H') : (Rep K os H' d v) ∨ ∃ a xs, v = .ref a ∧ H' a = some (.lst xs) ∧ ∀ od, Same H (upd H' a (.frz od (.lst xs))) ∧ Rep K os (upd H' a (.frz od (.lst xs))) d v := by
  rcases m.rep with ⟨_, r⟩ | ⟨ds, a, xs, rfl, rfl, hn, rfl, r⟩
  · exact .inl r
  · refine .inr ⟨a, xs, rfl, upd_same, fun od => ?_⟩
    rw [upd_upd]
    refine ⟨same_upd hn, ?_⟩
    unfold Rep
    exact ⟨a, xs, rfl, ⟨od, upd_same⟩, r.same O (same_upd hn)⟩
end
section
variable (p : Pm) (K : PySem.W.Frag) (W : WX)
/-- an expression that makes its value -/
def tM (ie : IE) : TE := fun σ H Q => ∃ ρ os o, At p K os H σ ρ o ∧ Out p K W σ os H (p.evE ie ρ o) fun d _ os' H' => ∀ v H2, MkV K os' H' d v H2 → Q v H2
end
section
variable {X : Cx} {p : Pm} {K : PySem.W.Frag} {W : WX}
theorem pe_lk {e : Expr} {t : TE} (h : PE X e t) : PE X e (fun σ H Q => t σ H fun v H' => Q v H' ∨ ∃ a u, H' a = some u ∧ Mut (some u) ∧ ∀ od, Q v (upd H' a (.frz od u))) := by
  refine ⟨fun pins s σ H Q I hw => thn (h.run pins s σ H _ I hw) fun v s1 ⟨x, H1, I1, r, q⟩ => ?_⟩
  rcases q with q | ⟨a, u, e1, m, q⟩
  · exact ⟨x, H1, I1, r, q⟩
  · obtain ⟨od, I2⟩ := I1.lock e1 m
    exact ⟨x, _, I2, r, q od⟩
/-- what is made is locked -/
theorem pe_M {e : Expr} {ie : IE} (h : PE X e (tM p K W ie)) : PE X e (tE p K W ie) := pe_imp (pe_lk h) fun σ H Q ⟨ρ, os, o, a, h⟩ => by
  refine ⟨ρ, os, o, a, h.more fun d o' os' H' _ P O q v H2 m => ?_⟩
  rcases m.fin O with r | ⟨b, xs, rfl, e1, h2⟩
  · exact .inl (q os' H2 m.post (O.same m.same) v r)
  · refine .inr ⟨b, _, e1, True.intro, fun od => ?_⟩
    obtain ⟨s2, r2⟩ := h2 od
    exact q os' _ (.same s2) (O.same s2) _ r2
/-- a value that needs no making -/
theorem pe_Mv {e : Expr} {ie : IE} (h : PE X e (tE p K W ie)) (n : ∀ ρ o d o', p.evE ie ρ o = .ok d o' → ∀ ds, d ≠ .lst ds) : PE X e (tM p K W ie) := pe_imp h fun σ H Q ⟨ρ, os, o, a, h⟩ =>
  ⟨ρ, os, o, a, h.mono fun d o' os' H' e P O q v r => q v H' (.old (n ρ o d o' e) r)⟩

/-! ### one operand, two operands -/
variable {os : List Addr} {H : Hp} {o : Objs} {σ : L2.St} {ρ : Frm} {α : Type}
theorem tB_of {a : IE} {R : VK} (A : At p K os H σ ρ o) {f : D → Objs → Res α} {Q : α → Objs → List Addr → Hp → Prop} (h : Out p K W σ os H ((p.evE a ρ o).bind f) Q)
    (hR : ∀ d o' os' H' v, Post p.T os H os' H' → At p K os' H' σ ρ o' → RepB K os' H' d v → Out p K W σ os' H' (f d o') Q → R v H') : tB p K W a σ H R :=
  ⟨ρ, os, o, A, h.bind.mono fun d o' os' H' _ P O q v r => hR d o' os' H' v P (A.next P O) r q⟩
theorem tE_of {a : IE} {R : VK} (A : At p K os H σ ρ o) {f : D → Objs → Res α} {Q : α → Objs → List Addr → Hp → Prop} (h : Out p K W σ os H ((p.evE a ρ o).bind f) Q)
    (hR : ∀ d o' os' H' v, Post p.T os H os' H' → At p K os' H' σ ρ o' → Rep K os' H' d v → Out p K W σ os' H' (f d o') Q → R v H') : tE p K W a σ H R :=
  ⟨ρ, os, o, A, h.bind.mono fun d o' os' H' _ P O q v r => hR d o' os' H' v P (A.next P O) r q⟩
end

/-! ### two-place operators -/
section
variable {X : Cx} {p : Pm} {W : WX}
/-- list + list -/
theorem op_catR : OpR X (binaryOp .Add) (fun x y H Q => ∃ l b xs zs, x = .ref l ∧ y = .ref b ∧ Rd H l (.lst xs) ∧ Rd H b (.lst zs) ∧ xs.length + zs.length ≤ sizeLine ∧ ∀ p, H p = none → Q (.ref p) (upd H p (.lst (xs ++ zs)))) := by
  intro pins s σ H x y v u Q I rx ry h
  obtain ⟨l, b, xs, zs, rfl, rfl, hH, hB, hz, q⟩ := h
  cases rx
  cases ry
  obtain ⟨z, its, n, r, e⟩ := hH.ok I.hok
  obtain ⟨z2, its2, n2, r2, e2⟩ := hB.ok I.hok
  have hl := r.length
  have hl2 := r2.length
  refine PySem.P.add_list e e2 ?_ (by rw [List.size_toArray, List.size_toArray]; omega)
  have ea : its.toArray ++ its2.toArray = (its ++ its2).toArray := by simp
  rw [ea]
  exact ⟨.ref _, _, I.lnew (t' := s.toks) (r.append r2) (by rw [List.length_append]; omega), rfl, q _ I.fresh⟩
/-- list * int -/
theorem op_repR : OpR X (binaryOp .Mult) (fun x y H Q => ∃ l k xs, x = .ref l ∧ y = .int k ∧ Rd H l (.lst xs) ∧ -(2 ^ 63) ≤ k ∧ k < 2 ^ 63 ∧ xs.length * k.toNat ≤ sizeLine ∧
  ∀ p, H p = none → Q (.ref p) (upd H p (.lst (List.replicate k.toNat xs).flatten))) := by
  intro pins s σ H x y v u Q I rx ry h
  obtain ⟨l, k, xs, rfl, rfl, hH, h1, h2, hz, q⟩ := h
  cases rx
  obtain ⟨t, rfl⟩ := ry
  obtain ⟨z, its, n, r, e⟩ := hH.ok I.hok
  have hl := r.length
  have hlen : its.toArray.size * k.toNat ≤ sizeLine := by rw [List.size_toArray, ← hl]; exact hz
  have hcap : ¬ its.toArray.size * k.toNat > (2 ^ 63 - 1) / 8 := by
    have : (sizeLine : Nat) ≤ (2 ^ 63 - 1) / 8 := by decide
    omega
  have hfit : ¬ (!Builtin.List.listFitsIndex k) = true := by
    rw [fitsIndex_both h1 h2]
    exact Bool.false_ne_true
  have hlong : ¬ Builtin.List.listTooLong (its.toArray.size * k.toNat) = true := by
    rw [notLongL hlen]
    exact Bool.false_ne_true
  have hnew : List.foldl (fun x1 x2 => x1 ++ x2) #[] (List.replicate (if its.toArray.isEmpty = true then 0 else k.toNat) its.toArray) = (List.replicate k.toNat its).flatten.toArray := by
    rw [show ∀ m : Nat, List.foldl (fun x1 x2 => x1 ++ x2) #[] (List.replicate m its.toArray) = (List.replicate m its).flatten.toArray from fun m => by have := foldl_rep its m []; rw [List.nil_append] at this; exact this]
    cases its with
    | nil => simp
    | cons a r' => rw [if_neg (by simp)]
  refine wpAny_binaryOp_repeat_ref (T := "list") (U := "int") (by decide) ⟨_, e, rfl⟩ (fun s' => typeIs_int s' k t) noFill_list_mul F.fills_int_mul F.slot_int_rmul repeat_list F.slot_int_index.lookup
    (call_meets F.slot_int_rmul (typeIs_int s k t) F.entry_int_rmul (F.args_int_rmul_2 _ _) (int___rmul___int_list k t l its.toArray n)
      ⟨e, rfl, ⟨_, e, rfl⟩, call_meets F.slot_list_mul ⟨_, e, rfl⟩ F.entry_list_mul (F.args_list_mul_2 _ _) (AutoListH.list___mul___list_int_3 l its.toArray n k t hfit hcap hlong) ⟨e, ?_⟩⟩)
  rw [hnew]
  exact ⟨.ref _, _, I.lnew (t' := s.toks) (r.rep k.toNat) (by rw [PyProof.Rows.lm_len_rep_flat, Nat.mul_comm]; exact hz), rfl, q _ I.fresh⟩
/-- a tuple times one -/
theorem tuple_mul1 (l : Addr) (items : Array Value) (n : Nat) (dd : Option Addr) (sl : Array (Option Value)) (x : Int) (u : Tok) (c0 : (decide (x < -(2 ^ 63)) || decide (x ≥ 2 ^ 63)) = false) (c1 : (items.isEmpty || x == 1) = true) :
    Meets (Builtin.«tuple.__mul__» ⟨[.ref l, .int x u], []⟩) (fun _ R s => s.heap.get? l = some { cls := .type "tuple", dict := dd, data := .seq items n, slots := sl } ∧ R (.ok (.ret (Value.ref l))) s) :=
  .of_wp fun prog w A R s h => by
    obtain ⟨hp, g, d, tk, os⟩ := s
    obtain ⟨hl, h⟩ := h
    have f1 := AutoSeq1.idx_int
    wp_walk using wpAny_loadPart' hl
    repeat (first
      | (refine wpAny_ite_false (decide_eq_false (by rw [c0]; exact Bool.false_ne_true)) ?_; wp_walk using wpAny_loadPart' hl)
      | (refine wpAny_ite_true (decide_eq_true c1) ?_; wp_walk using wpAny_loadPart' hl))
    exact ⟨_, rfl, h⟩
theorem op_repT1 : OpR X (binaryOp .Mult) (fun x y H Q => ∃ l xs, x = .ref l ∧ y = .int 1 ∧ SqT X.K H l xs ∧ Q (.ref l) H) := by
  intro pins s σ H x y v u Q I rx ry h
  obtain ⟨l, xs, rfl, rfl, hT, q⟩ := h
  cases rx
  obtain ⟨t, rfl⟩ := ry
  obtain ⟨its, r, ⟨⟨cls, dd, data, sl⟩, ho, hc, n, hd⟩, hs⟩ := I.tuple hT
  simp only at hc hd
  subst hc hd
  refine wpAny_binaryOp_repeat_ref (T := "tuple") (U := "int") (by decide) ⟨_, ho, rfl⟩ (fun s' => typeIs_int s' 1 t) noFill_tuple_mul F.fills_int_mul F.slot_int_rmul repeat_tuple F.slot_int_index.lookup
    (call_meets F.slot_int_rmul (typeIs_int s 1 t) F.entry_int_rmul (F.args_int_rmul_2 _ _) (int_rmul_tuple 1 t l its.toArray n dd sl)
      ⟨ho, rfl, ⟨_, ho, rfl⟩, call_meets F.slot_tuple_mul ⟨_, ho, rfl⟩ F.entry_tuple_mul (F.args_tuple_mul_2 _ _) (tuple_mul1 l its.toArray n dd sl 1 t (by decide) (by simp)) ⟨ho, ?_⟩⟩)
  exact ⟨.ref l, H, I, rfl, q⟩

theorem szP {n : Nat} (h : sz n = true) : n ≤ sizeLine := of_decide_eq_true h
/-- what an operator makes -/
def rBin (K : PySem.W.Frag) (op : Operator) : R2 := fun vx vy H Q => ∃ os o x y d, OOk K os H o ∧ RepB K os H x vx ∧ RepB K os H y vy ∧ binD op x y = some d ∧ ∀ v H', MkV K os H d v H' → Q v H'
theorem op_bin {op : Operator} : OpR X (binaryOp op) (rBin X.K op) := by
  intro pins s σ H vx vy v u Q I rx ry ⟨os, o, x, y, d, O, hx, hy, e, q⟩
  unfold binD at e
  split at e
  · cases e
    rw [hx.int] at rx
    rw [hy.int] at ry
    exact op_add pins s σ H _ _ v u Q I rx ry ⟨_, _, rfl, rfl, q _ _ (.int _)⟩
  · split at e <;> cases e
    rename_i h
    rw [hx.str] at rx
    rw [hy.str] at ry
    exact op_add_str pins s σ H _ _ v u Q I rx ry ⟨_, _, rfl, rfl, szP h, q _ _ (.str _)⟩
  · split at e <;> cases e
    rename_i h
    obtain ⟨a, xs, rfl, h1, h2⟩ := hx.tup
    obtain ⟨b, ys, rfl, g1, g2⟩ := hy.tup
    have z := szP h
    rw [← h2.length, ← g2.length] at z
    refine op_catA pins s σ H _ _ v u Q I rx ry ⟨a, b, xs, ys, rfl, rfl, h1, g1, z, fun e => ?_, fun _ e => ?_, fun _ _ c hc => ?_⟩
    · have h2' := h2.append g2
      rw [e, List.nil_append] at h2'
      exact q _ _ (.cur g1 h2')
    · have h2' := h2.append g2
      rw [e, List.append_nil] at h2'
      exact q _ _ (.cur h1 h2')
    · exact q _ _ (.tup O hc (h2.append g2))
  · split at e <;> cases e
    rename_i h
    obtain ⟨a, xs, rfl, h1, h2⟩ := hx.lstR
    obtain ⟨b, ys, rfl, g1, g2⟩ := hy.lstR
    have z := szP h
    rw [← h2.length, ← g2.length] at z
    exact op_catR pins s σ H _ _ v u Q I rx ry ⟨a, b, xs, ys, rfl, rfl, h1, g1, z, fun c hc => q _ _ (.lst hc (h2.append g2))⟩
  · cases e
    rw [hx.int] at rx
    rw [hy.int] at ry
    exact op_sub pins s σ H _ _ v u Q I rx ry ⟨_, _, rfl, rfl, q _ _ (.int _)⟩
  · split at e <;> cases e
    rename_i h
    rw [hx.int] at rx
    rw [hy.int] at ry
    exact op_mulW pins s σ H _ _ v u Q I rx ry ⟨_, _, rfl, rfl, (by unfold mulOk at h; have h2 := of_decide_eq_true h; exact h2), q _ _ (.int _)⟩
  · split at e <;> cases e
    rename_i k h
    obtain ⟨a, xs, rfl, h1, h2⟩ := hx.tup
    rw [hy.int] at ry
    unfold tupOk at h
    simp only [Bool.and_eq_true, decide_eq_true_eq] at h
    have hl := h2.length
    by_cases hk : k = 1
    · subst hk
      refine op_repT1 pins s σ H _ _ v u Q I rx ry ⟨a, xs, rfl, rfl, h1, ?_⟩
      refine q _ _ (.cur h1 ?_)
      have := h2.rep 1
      simpa using this
    · refine op_repT pins s σ H _ _ v u Q I rx ry ⟨a, _, xs, rfl, rfl, h1, fun e => ?_, by omega, by omega, by omega, fun c hc => q _ _ (.tup O hc (h2.rep _))⟩
      rw [e] at hl
      simp at hl
      omega
  · split at e <;> cases e
    rename_i k h
    obtain ⟨a, xs, rfl, h1, h2⟩ := hx.lstR
    rw [hy.int] at ry
    unfold repOk at h
    simp only [Bool.and_eq_true, decide_eq_true_eq] at h
    rw [← h2.length] at h
    exact op_repR pins s σ H _ _ v u Q I rx ry ⟨a, _, xs, rfl, rfl, h1, h.1, h.2.1, h.2.2, fun c hc => q _ _ (.lst hc (h2.rep _))⟩
  · split at e <;> cases e
    rename_i h
    rw [hx.int] at rx
    rw [hy.int] at ry
    unfold divOk at h
    simp only [Bool.and_eq_true, decide_eq_true_eq] at h
    exact op_fdivW pins s σ H _ _ v u Q I rx ry ⟨_, _, rfl, rfl, ⟨h.1, h.2⟩, q _ _ (.int _)⟩
  · split at e <;> cases e
    rename_i h
    rw [hx.int] at rx
    rw [hy.int] at ry
    exact op_mod pins s σ H _ _ v u Q I rx ry ⟨_, _, rfl, rfl, of_decide_eq_true h, q _ _ (.int _)⟩
  · split at e <;> cases e
    rename_i h
    rw [hx.int] at rx
    rw [hy.int] at ry
    unfold powOk at h
    simp only [Bool.and_eq_true, decide_eq_true_eq] at h
    exact op_pow pins s σ H _ _ v u Q I rx ry ⟨_, _, rfl, rfl, ⟨h.1, h.2.1, h.2.2⟩, q _ _ (.int _)⟩
  · cases e

/-! ### comparisons -/
def rCmp (K : PySem.W.Frag) (op : CmpOp) : R2 := fun vx vy H Q => ∃ os x y d, RepB K os H x vx ∧ RepB K os H y vy ∧ cmpD op x y = some d ∧ ∀ b, d = .bl b → Q (.bl b) H
theorem cmpD_bl {op : CmpOp} {x y d : D} (h : cmpD op x y = some d) : ∃ b, d = .bl b := by
  unfold cmpD at h
  split at h <;> (obtain ⟨b, _, e⟩ := Option.map_eq_some_iff.mp h; exact ⟨_, e.symm⟩)
theorem eqD_some {x y : D} {b : Bool} (h : eqD x y = some b) : ∃ e f, x.py = some e ∧ y.py = some f ∧ SeqAt.shaped e = true ∧ SeqAt.shaped f = true ∧ b = PyData.eqv e f := by
  unfold eqD at h
  split at h
  · rename_i e f h1 h2
    split at h <;> cases h
    rename_i hs
    rw [Bool.and_eq_true] at hs
    exact ⟨e, f, h1, h2, hs.1, hs.2, rfl⟩
  · cases h
theorem ltD_some {x y : D} {b : Bool} (h : ltD x y = some b) : ∃ i j, x = .int i ∧ y = .int j ∧ b = decide (i < j) := by
  unfold ltD at h
  split at h <;> cases h
  exact ⟨_, _, rfl, rfl, rfl⟩
theorem leD_some {x y : D} {b : Bool} (h : leD x y = some b) : ∃ i j, x = .int i ∧ y = .int j ∧ b = decide (i ≤ j) := by
  unfold leD at h
  split at h <;> cases h
  exact ⟨_, _, rfl, rfl, rfl⟩
theorem inD_some {K : PySem.W.Frag} {os : List Addr} {H : Hp} {x y : D} {b : Bool} {vx vy : V} (h : inD x y = some b) (hx : RepB K os H x vx) (hy : RepB K os H y vy) :
    ∃ q xs, vy = .ref q ∧ (SqL K H q xs ∨ SqT K H q xs) ∧ flatV vx = true ∧ xs.all flatV = true ∧ b = inV vx xs := by
  have go : ∀ (ds : List D) (xs : List V), (if flatD x && ds.all flatD then some (ds.any fun y => Ev.eqF y x) else none) = some b → Reps K os H ds xs → flatV vx = true ∧ xs.all flatV = true ∧ b = inV vx xs := fun ds xs e r => by
    split at e <;> cases e
    rename_i hf
    rw [Bool.and_eq_true] at hf
    have hx' : Rep K os H x vx := hx.of_ne fun ds e => by rw [e] at hf; cases hf.1
    exact ⟨hx'.flat hf.1, r.flats hf.2, (Reps.anyF hx' hf.1 r hf.2).symm⟩
  unfold inD at h
  split at h
  · obtain ⟨a, xs, rfl, h1, h2⟩ := hy.tup
    obtain ⟨e1, e2, e3⟩ := go _ xs h h2
    exact ⟨a, xs, rfl, .inr h1, e1, e2, e3⟩
  · obtain ⟨a, xs, rfl, h1, h2⟩ := hy.lst
    obtain ⟨e1, e2, e3⟩ := go _ xs h h2
    exact ⟨a, xs, rfl, .inl h1, e1, e2, e3⟩
  · cases h
theorem op_cmp {op : CmpOp} (hu : X.A.units + 64 < cLine) : OpR X (compareOp op) (rCmp X.K op) := by
  intro pins s σ H vx vy v u Q I rx ry ⟨os, x, y, d, hx, hy, e, q⟩
  have nonB : ∀ {z : D} {w : V}, RepB X.K os H z w → isNonD z = decide (w = .non) := fun {z w} h => by
    cases z with
    | non => rw [h.non]; rfl
    | lst ds => obtain ⟨a, xs, e, _⟩ := h.lst; rw [e]; rfl
    | tup ds => obtain ⟨a, xs, e, _⟩ := h.tup; rw [e]; rfl
    | int i => rw [h.int]; rfl
    | bl i => rw [h.bl]; rfl
    | str i => rw [h.str]; rfl
    | dct ks vs =>
      have h' := h.of_ne fun _ e => nomatch e
      unfold Rep at h'
      obtain ⟨_, _, a, _, e, _⟩ := h'
      rw [e]; rfl
    | obj i =>
      have h' := h.of_ne fun _ e => nomatch e
      unfold Rep at h'
      obtain ⟨a, _, e⟩ := h'
      rw [e]; rfl
  unfold cmpD at e
  split at e
  · obtain ⟨b, e1, rfl⟩ := Option.map_eq_some_iff.mp e
    obtain ⟨c, f, h1, h2, s1, s2, rfl⟩ := eqD_some e1
    exact op_eqD hu pins s σ H _ _ v u Q I rx ry ⟨c, f, hx.dp h1, hy.dp h2, s1, s2, q _ rfl⟩
  · obtain ⟨b, e1, rfl⟩ := Option.map_eq_some_iff.mp e
    obtain ⟨c, f, h1, h2, s1, s2, rfl⟩ := eqD_some e1
    exact op_neD hu pins s σ H _ _ v u Q I rx ry ⟨c, f, hx.dp h1, hy.dp h2, s1, s2, q _ rfl⟩
  · obtain ⟨b, e1, rfl⟩ := Option.map_eq_some_iff.mp e
    obtain ⟨i, j, rfl, rfl, rfl⟩ := ltD_some e1
    rw [hx.int] at rx
    rw [hy.int] at ry
    exact op_lt pins s σ H _ _ v u Q I rx ry ⟨i, j, rfl, rfl, q _ rfl⟩
  · obtain ⟨b, e1, rfl⟩ := Option.map_eq_some_iff.mp e
    obtain ⟨i, j, rfl, rfl, rfl⟩ := leD_some e1
    rw [hx.int] at rx
    rw [hy.int] at ry
    exact op_le pins s σ H _ _ v u Q I rx ry ⟨i, j, rfl, rfl, q _ rfl⟩
  · obtain ⟨b, e1, rfl⟩ := Option.map_eq_some_iff.mp e
    obtain ⟨i, j, rfl, rfl, rfl⟩ := ltD_some e1
    rw [hx.int] at rx
    rw [hy.int] at ry
    exact op_gt pins s σ H _ _ v u Q I rx ry ⟨_, _, rfl, rfl, q _ rfl⟩
  · obtain ⟨b, e1, rfl⟩ := Option.map_eq_some_iff.mp e
    obtain ⟨i, j, rfl, rfl, rfl⟩ := leD_some e1
    rw [hx.int] at rx
    rw [hy.int] at ry
    exact op_ge pins s σ H _ _ v u Q I rx ry ⟨_, _, rfl, rfl, q _ rfl⟩
  · obtain ⟨b, e1, rfl⟩ := Option.map_eq_some_iff.mp e
    unfold isD at e1
    split at e1
    · cases e1
      rw [hy.non] at ry
      have := q _ rfl
      rw [nonB hx] at this
      exact op_isN pins s σ H _ _ v u Q I rx ry ⟨rfl, this⟩
    · cases e1
      rw [hx.bl] at rx
      rw [hy.bl] at ry
      exact L2.op_is_bl pins s σ H _ _ v u Q I rx ry ⟨_, _, rfl, rfl, q _ rfl⟩
    · cases e1
  · obtain ⟨b, e1, rfl⟩ := Option.map_eq_some_iff.mp e
    unfold isD at e1
    split at e1
    · cases e1
      rw [hy.non] at ry
      have := q _ rfl
      rw [nonB hx] at this
      exact op_notN pins s σ H _ _ v u Q I rx ry ⟨rfl, this⟩
    · cases e1
      rw [hx.bl] at rx
      rw [hy.bl] at ry
      exact L2.op_isnot_bl pins s σ H _ _ v u Q I rx ry ⟨_, _, rfl, rfl, q _ rfl⟩
    · cases e1
  · obtain ⟨b, e1, rfl⟩ := Option.map_eq_some_iff.mp e
    obtain ⟨a, xs, rfl, h1, h2, h3, rfl⟩ := inD_some e1 hx hy
    exact op_in_seq pins s σ H _ _ v u Q I rx ry ⟨a, xs, rfl, h1, h2, h3, q _ rfl⟩
  · obtain ⟨b, e1, rfl⟩ := Option.map_eq_some_iff.mp e
    obtain ⟨a, xs, rfl, h1, h2, h3, rfl⟩ := inD_some e1 hx hy
    exact op_notIn_seq pins s σ H _ _ v u Q I rx ry ⟨a, xs, rfl, h1, h2, h3, q _ rfl⟩
end
end Ev

set_option maxHeartbeats 1000000
/-! EvG: the rules of expressions. -/
namespace Ev
open PySem PySem.Spec PyProof.Rows L2

theorem Res.bind_assoc {α β γ : Type} (r : Res α) (f : α → Objs → Res β) (g : β → Objs → Res γ) : (r.bind f).bind g = r.bind fun a o => (f a o).bind g := by
  cases r <;> rfl
section
variable {X : Cx} {p : Pm} {K : PySem.W.Frag} {W : WX} {os : List Addr} {H : Hp} {o : Objs} {σ : L2.St} {ρ : Frm} {α : Type} {ea eb ec : Expr} {a b c : IE} {pos : Pos}
theorem Rep.int {i : Int} {v : V} (h : Rep K os H (.int i) v) : v = .int i := by unfold Rep at h; exact h
theorem Rep.bl {i : Bool} {v : V} (h : Rep K os H (.bl i) v) : v = .bl i := by unfold Rep at h; exact h
theorem Rep.tup {ds : List D} {v : V} (h : Rep K os H (.tup ds) v) : ∃ a xs, v = .ref a ∧ SqT K H a xs ∧ Reps K os H ds xs := by unfold Rep at h; exact h
theorem Rep.lst {ds : List D} {v : V} (h : Rep K os H (.lst ds) v) : ∃ a xs, v = .ref a ∧ SqF K H a xs ∧ Reps K os H ds xs := by unfold Rep at h; exact h
/-- a test, by its value -/
def tst (Q : Bool → Hp → Prop) : VK := fun v H => ∃ k, v = .bl k ∧ Q k H
theorem tT_tE {ie : IE} {Q : Bool → Hp → Prop} (h : tT p K W ie σ H Q) : tE p K W ie σ H (tst Q) := by
  obtain ⟨ρ, os, o, A, h⟩ := h
  refine ⟨ρ, os, o, A, h.mono fun d o' os' H' _ P O q v r => ?_⟩
  obtain ⟨k, rfl, q⟩ := q
  exact ⟨k, r.bl, q⟩
theorem pt_of {e : Expr} {ie : IE} {t : TE} (h : PT X e (tTest t)) (m : ∀ σ H Q, tE p K W ie σ H Q → t σ H Q) : PT X e (tT p K W ie) := pt_imp h fun σ H Q q => m _ _ _ (tT_tE q)
theorem pt_plain {e : Expr} {ie : IE} (h : PE X e (tE p K W ie)) (he : ∀ whole, isTrue e X.env whole = (do let v ← whole; standAt e.pos; holding [v] (truthy v))) : PT X e (tT p K W ie) :=
  pt_imp (pt_val h he) fun σ H Q q => tT_tE q
/-! #### two-place -/
theorem ge_bin {op : Operator} (ha : PE X ea (tB p X.K W a)) (hb : PE X eb (tB p X.K W b)) : PE X (.BinOp ea op eb pos) (tM p X.K W (.bin op a b)) :=
  pe_imp (pe_op op_bin ha hb) fun σ H Q ⟨ρ, os, o, A, h⟩ => tB_of A h fun x o1 os1 H1 vx P1 A1 r1 h1 => tB_of A1 h1 fun y o2 os2 H2 vy P2 A2 r2 h2 => by
    obtain ⟨d, e, h3⟩ := h2.ofO
    exact ⟨os2, o2, x, y, d, A2.obs, r1.post P2 A1.obs, r2, e, h3.ok A2.obs⟩
theorem im_cmp {op : CmpOp} {Q : VK} (h : tE p K W (.cmp op a b) σ H Q) : tOp (rCmp K op) (tB p K W a) (tB p K W b) σ H Q := by
  obtain ⟨ρ, os, o, A, h⟩ := h
  refine tB_of A h fun x o1 os1 H1 vx P1 A1 r1 h1 => tB_of A1 h1 fun y o2 os2 H2 vy P2 A2 r2 h2 => ?_
  obtain ⟨d, e, h3⟩ := h2.ofO
  refine ⟨os2, x, y, d, r1.post P2 A1.obs, r2, e, fun k ek => ?_⟩
  subst ek
  exact h3.ok A2.obs _ (.mkBl k)
theorem ge_cmp {op : CmpOp} (hu : X.A.units + 64 < cLine) (ha : PE X ea (tB p X.K W a)) (hb : PE X eb (tB p X.K W b)) (hm : behindInMarks op eb = false) : PE X (.Compare ea [op] [eb] pos) (tE p X.K W (.cmp op a b)) :=
  pe_imp (pe_cmpR (op_cmp hu) ha hb hm) fun σ H Q => im_cmp
theorem gt_cmp {op : CmpOp} (hu : X.A.units + 64 < cLine) (ha : PE X ea (tB p X.K W a)) (hb : PE X eb (tB p X.K W b)) (hm : behindInMarks op eb = false) : PT X (.Compare ea [op] [eb] pos) (tT p X.K W (.cmp op a b)) :=
  pt_of (pt_cmpR (op_cmp hu) ha hb hm) fun σ H Q => im_cmp
theorem im_chain {op op' : CmpOp} {Q : VK} (h : tE p K W (.chain op op' a b c) σ H Q) : tChain (rCmp K op) (rCmp K op') (tE p K W a) (tE p K W b) (tE p K W c) σ H Q := by
  obtain ⟨ρ, os, o, A, h⟩ := h
  refine tE_of A h fun x o1 os1 H1 vx P1 A1 r1 h1 => tE_of A1 h1 fun y o2 os2 H2 vy P2 A2 r2 h2 => ?_
  cases e : cmpD op x y with
  | none => rw [e] at h2; exact h2.elim
  | some d =>
    obtain ⟨k, rfl⟩ := cmpD_bl e
    rw [e] at h2
    refine ⟨os2, x, y, _, .inl (Rep.post P2 A1.obs x r1), .inl r2, e, fun k' ek => ?_⟩
    cases ek
    refine ⟨k, rfl, ?_⟩
    cases k with
    | false => exact h2.ok A2.obs _ (.mkBl false)
    | true =>
      refine tE_of A2 h2 fun z o3 os3 H3 vz P3 A3 r3 h3 => ?_
      obtain ⟨d, e', h4⟩ := h3.ofO
      refine ⟨os3, y, z, d, .inl (Rep.post P3 A2.obs y r2), .inl r3, e', fun k ek => ?_⟩
      subst ek
      exact h4.ok A3.obs _ (.mkBl k)
theorem ge_chain {op op' : CmpOp} (hu : X.A.units + 64 < cLine) (ha : PE X ea (tE p X.K W a)) (hb : PE X eb (tE p X.K W b)) (hc : PE X ec (tE p X.K W c)) (hm : lastMarks [op, op'] [eb, ec] = false) :
    PE X (.Compare ea [op, op'] [eb, ec] pos) (tE p X.K W (.chain op op' a b c)) := pe_imp (pe_chain (op_cmp hu) (op_cmp hu) ha hb hc hm) fun σ H Q => im_chain
theorem gt_chain {op op' : CmpOp} (hu : X.A.units + 64 < cLine) (ha : PE X ea (tE p X.K W a)) (hb : PE X eb (tE p X.K W b)) (hc : PE X ec (tE p X.K W c)) (hm : lastMarks [op, op'] [eb, ec] = false) :
    PT X (.Compare ea [op, op'] [eb, ec] pos) (tT p X.K W (.chain op op' a b c)) := pt_of (pt_chain (op_cmp hu) (op_cmp hu) ha hb hc hm) fun σ H Q => im_chain
/-! #### and, or, not, if -/
theorem ge_neg (ha : PE X ea (tE p X.K W a)) : PE X (.UnaryOp .USub ea pos) (tE p X.K W (.neg a)) := pe_imp (pe_un un_neg ha) fun σ H Q ⟨ρ, os, o, A, h⟩ => tE_of A h fun x o1 os1 H1 vx P1 A1 r1 h1 => by
  obtain ⟨d, e, h2⟩ := h1.ofO
  unfold negD at e
  split at e <;> cases e
  exact ⟨_, r1.int, h2.ok A1.obs _ (.mkInt _)⟩
theorem ge_not (ha : PE X ea (tE p X.K W a)) : PE X (.UnaryOp .Not ea pos) (tE p X.K W (.not a)) := pe_imp (pe_not ha) fun σ H Q ⟨ρ, os, o, A, h⟩ => tE_of A h fun x o1 os1 H1 vx P1 A1 r1 h1 => by
  cases x with
  | bl k => exact ⟨k, r1.bl, h1.ok A1.obs _ (.mkBl _)⟩
  | _ => exact h1.elim
theorem tT_of {a : IE} {R : Bool → Hp → Prop} (A : At p K os H σ ρ o) {f : D → Objs → Res α} {Q : α → Objs → List Addr → Hp → Prop} (h : Out p K W σ os H ((p.evE a ρ o).bind f) Q) (hf : ∀ d o, (∀ k, d ≠ .bl k) → f d o = .stuck)
    (hR : ∀ k o' os' H', Post p.T os H os' H' → At p K os' H' σ ρ o' → Out p K W σ os' H' (f (.bl k) o') Q → R k H') : tT p K W a σ H R :=
  ⟨ρ, os, o, A, h.bind.mono fun d o' os' H' _ P O q => by
    cases d with
    | bl k => exact ⟨k, rfl, hR k o' os' H' P (A.next P O) q⟩
    | _ =>
      rw [hf _ _ (fun k e => by cases e)] at q
      exact q.elim⟩
theorem ge_and {vs : List Expr} (ha : PE X ea (tE p X.K W a)) (hb : PE X (.BoolOp .And (eb :: vs) pos) (tE p X.K W b)) : PE X (.BoolOp .And (ea :: eb :: vs) pos) (tE p X.K W (.and a b)) :=
  pe_imp (pe_and ha hb) fun σ H Q ⟨ρ, os, o, A, h⟩ => tE_of A h fun x o1 os1 H1 vx P1 A1 r1 h1 => by
    cases x with
    | bl k =>
      refine ⟨k, r1.bl, ?_⟩
      cases k with
      | false => exact h1.ok A1.obs _ (.mkBl _)
      | true => exact ⟨ρ, os1, o1, A1, h1⟩
    | _ => exact h1.elim
theorem ge_or {vs : List Expr} (ha : PE X ea (tE p X.K W a)) (hb : PE X (.BoolOp .Or (eb :: vs) pos) (tE p X.K W b)) : PE X (.BoolOp .Or (ea :: eb :: vs) pos) (tE p X.K W (.or a b)) :=
  pe_imp (pe_or ha hb) fun σ H Q ⟨ρ, os, o, A, h⟩ => tE_of A h fun x o1 os1 H1 vx P1 A1 r1 h1 => by
    cases x with
    | bl k =>
      refine ⟨k, r1.bl, ?_⟩
      cases k with
      | true => exact h1.ok A1.obs _ (.mkBl _)
      | false => exact ⟨ρ, os1, o1, A1, h1⟩
    | _ => exact h1.elim
theorem gt_not (ha : PT X ea (tT p X.K W a)) : PT X (.UnaryOp .Not ea pos) (tT p X.K W (.not a)) := pt_imp (pt_not ha) fun σ H Q ⟨ρ, os, o, A, h⟩ =>
  tT_of A h (fun d o n => by cases d <;> first | rfl | exact absurd rfl (n _)) fun k o1 os1 H1 P1 A1 h1 => by
    obtain ⟨k', e, q⟩ := h1.ok A1.obs
    cases e
    exact q
theorem gw_and {vs : List Expr} (ha : PT X ea (tT p X.K W a)) (hb : PW X (.BoolOp .And (eb :: vs) pos) (tT p X.K W b)) : PW X (.BoolOp .And (ea :: eb :: vs) pos) (tT p X.K W (.and a b)) :=
  pw_imp (pw_and ha hb) fun σ H Q ⟨ρ, os, o, A, h⟩ => tT_of A h (fun d o n => by cases d <;> first | rfl | exact absurd rfl (n _)) fun k o1 os1 H1 P1 A1 h1 => by
    cases k with
    | false =>
      obtain ⟨k', e, q⟩ := h1.ok A1.obs
      cases e
      exact q
    | true => exact ⟨ρ, os1, o1, A1, h1⟩
theorem gw_or {vs : List Expr} (ha : PT X ea (tT p X.K W a)) (hb : PW X (.BoolOp .Or (eb :: vs) pos) (tT p X.K W b)) : PW X (.BoolOp .Or (ea :: eb :: vs) pos) (tT p X.K W (.or a b)) :=
  pw_imp (pw_or ha hb) fun σ H Q ⟨ρ, os, o, A, h⟩ => tT_of A h (fun d o n => by cases d <;> first | rfl | exact absurd rfl (n _)) fun k o1 os1 H1 P1 A1 h1 => by
    cases k with
    | true =>
      obtain ⟨k', e, q⟩ := h1.ok A1.obs
      cases e
      exact q
    | false => exact ⟨ρ, os1, o1, A1, h1⟩
theorem ge_ite (ha : PT X ea (tT p X.K W a)) (hb : PE X eb (tE p X.K W b)) (hc : PE X ec (tE p X.K W c)) : PE X (.IfExp ea eb ec pos) (tE p X.K W (.ite a b c)) :=
  pe_imp (pe_ifExp ha hb hc) fun σ H Q ⟨ρ, os, o, A, h⟩ => tT_of A h (fun d o n => by cases d <;> first | rfl | exact absurd rfl (n _)) fun k o1 os1 H1 P1 A1 h1 => by
    cases k with
    | true => exact ⟨ρ, os1, o1, A1, h1⟩
    | false => exact ⟨ρ, os1, o1, A1, h1⟩
/-- .. as a test -/
theorem pt_ifExp {tA tB tC : TT} (hc : PT X ec tC) (ha : PT X ea tA) (hb : PT X eb tB) : PT X (.IfExp ec ea eb pos) (fun σ H Q => tC σ H fun c H1 => if c = true then tA σ H1 Q else tB σ H1 Q) := by
  refine ⟨fun pins s σ H Q I h => ?_⟩
  rw [PySem.arm_isTrue_IfExp]
  refine wpAny_bind (thn (hc.run pins s σ H _ I h) fun d s1 ⟨H1, I1, q1⟩ => ?_)
  cases d with
  | true => exact ha.run pins s1 σ H1 Q I1 q1
  | false => exact hb.run pins s1 σ H1 Q I1 q1
theorem gt_ite (ha : PT X ea (tT p X.K W a)) (hb : PT X eb (tT p X.K W b)) (hc : PT X ec (tT p X.K W c)) : PT X (.IfExp ea eb ec pos) (tT p X.K W (.ite a b c)) :=
  pt_imp (pt_ifExp ha hb hc) fun σ H Q ⟨ρ, os, o, A, h⟩ => tT_of A h (fun d o n => by cases d <;> first | rfl | exact absurd rfl (n _)) fun k o1 os1 H1 P1 A1 h1 => by
    cases k with
    | true => exact ⟨ρ, os1, o1, A1, h1⟩
    | false => exact ⟨ρ, os1, o1, A1, h1⟩
/-! #### lists of expressions -/
theorem starEach_ne {e : Expr} {es : List Expr} (env : Env) (h : ∀ x y, e ≠ .Starred x y) : starEach (e :: es) env = (false, eval e env) :: starEach es env := by
  cases e <;> first
    | exact absurd rfl (h _ _)
    | rfl
theorem backTo_ns {pos : Pos} {env : Env} : ∀ {es : List Expr}, (∀ e ∈ es, ∀ x y, e ≠ .Starred x y) → (backTo pos (starEach es env)).any (·.1) = false
  | [], _ => rfl
  | e :: es, h => by
    rw [starEach_ne env (h e List.mem_cons_self)]
    exact backTo_ns (es := es) fun e he => h e (List.mem_cons_of_mem _ he)
theorem ga_nil : PA X [] (tVs p X.K W .nil) := pa_imp pa_nil fun σ H Q ⟨ρ, os, o, A, h⟩ => h.ok A.obs _ .nil
theorem gb_nil : PA X [] (tBs p X.K W .nil) := pa_imp pa_nil fun σ H Q ⟨ρ, os, o, A, h⟩ => h.ok A.obs _ (by unfold RepBs; rfl)
theorem ga_cons {es : List Expr} {as : IEs} (ha : PE X ea (tE p X.K W a)) (hr : PA X es (tVs p X.K W as)) (hs : ∀ x y, ea ≠ .Starred x y) : PA X (ea :: es) (tVs p X.K W (.cons a as)) :=
  pa_imp (pa_cons ha hr (starEach_ne _ hs)) fun σ H Q ⟨ρ, os, o, A, h⟩ => tE_of A h fun x o1 os1 H1 vx P1 A1 r1 h1 => ⟨ρ, os1, o1, A1, h1.bind.mono fun ds o2 os2 H2 _ P2 O2 q vs r => q.ok O2 _ (.cons (Rep.post P2 A1.obs x r1) r)⟩
theorem gb_cons {es : List Expr} {as : IEs} (ha : PE X ea (tB p X.K W a)) (hr : PA X es (tBs p X.K W as)) (hs : ∀ x y, ea ≠ .Starred x y) : PA X (ea :: es) (tBs p X.K W (.cons a as)) :=
  pa_imp (pa_cons ha hr (starEach_ne _ hs)) fun σ H Q ⟨ρ, os, o, A, h⟩ => tB_of A h fun x o1 os1 H1 vx P1 A1 r1 h1 => ⟨ρ, os1, o1, A1, h1.bind.mono fun ds o2 os2 H2 _ P2 O2 q vs r => q.ok O2 _ (by unfold RepBs; exact ⟨vx, vs, rfl, r1.post P2 A1.obs, r⟩)⟩
theorem tVs_of {as : IEs} {R : List V → Hp → Prop} (A : At p K os H σ ρ o) {f : List D → Objs → Res α} {Q : α → Objs → List Addr → Hp → Prop} (h : Out p K W σ os H ((p.evEs as ρ o).bind f) Q)
    (hR : ∀ ds o' os' H' vs, Post p.T os H os' H' → At p K os' H' σ ρ o' → Reps K os' H' ds vs → Out p K W σ os' H' (f ds o') Q → R vs H') : tVs p K W as σ H R :=
  ⟨ρ, os, o, A, h.bind.mono fun ds o' os' H' _ P O q vs r => hR ds o' os' H' vs P (A.next P O) r q⟩
theorem tBs_of {as : IEs} {R : List V → Hp → Prop} (A : At p K os H σ ρ o) {f : List D → Objs → Res α} {Q : α → Objs → List Addr → Hp → Prop} (h : Out p K W σ os H ((p.evEs as ρ o).bind f) Q)
    (hR : ∀ ds o' os' H' vs, Post p.T os H os' H' → At p K os' H' σ ρ o' → RepBs K os' H' ds vs → Out p K W σ os' H' (f ds o') Q → R vs H') : tBs p K W as σ H R :=
  ⟨ρ, os, o, A, h.bind.mono fun ds o' os' H' _ P O q vs r => hR ds o' os' H' vs P (A.next P O) r q⟩
theorem gm_tup {es : List Expr} {as : IEs} {k} (h : PA X es (tVs p X.K W as)) : PE X (.Tuple es k pos) (tM p X.K W (.tup as)) := pe_imp (pe_tup h) fun σ H Q ⟨ρ, os, o, A, h⟩ => tVs_of A h fun ds o1 os1 H1 vs P1 A1 r h1 => by
  split at h1
  · rename_i hz
    have z := szP hz
    rw [← r.length] at z
    exact ⟨z, fun q hq => h1.ok A1.obs _ _ (.tup A1.obs hq r)⟩
  · exact h1.elim
theorem gm_lst {es : List Expr} {as : IEs} (h : PA X es (tVs p X.K W as)) : PE X (.List es pos) (tM p X.K W (.lst as)) := pe_imp (pe_lst h) fun σ H Q ⟨ρ, os, o, A, h⟩ => tVs_of A h fun ds o1 os1 H1 vs P1 A1 r h1 => by
  split at h1
  · rename_i hz
    have z := szP hz
    rw [← r.length] at z
    exact ⟨z, fun q hq => h1.ok A1.obs _ _ (.lst hq r)⟩
  · exact h1.elim
theorem ge_dnew : PE X (.Dict [] [] pos) (tE p X.K W .dnew) := pe_imp (pe_lk pe_dnewK) fun σ H Q ⟨ρ, os, o, A, h⟩ => by
  intro d hd
  refine .inr ⟨d, _, upd_same, True.intro, fun od => ?_⟩
  rw [upd_upd]
  refine h os _ (.same (same_upd hd)) (A.obs.same (same_upd hd)) _ ?_
  unfold Rep
  exact ⟨rfl, rfl, d, od, rfl, upd_same⟩
end
end Ev

set_option maxHeartbeats 1000000
/-! EvH: subscripts, slices, built-in functions, isinstance, globals. -/
namespace Ev
open PySem PySem.Spec PyProof.Rows L2
section
variable {X : Cx} {p : Pm} {K : PySem.W.Frag} {W : WX} {os : List Addr} {H : Hp} {o : Objs} {σ : L2.St} {ρ : Frm} {α : Type} {ea eb ec : Expr} {a b c : IE} {pos : Pos}
/-! #### a[i] -/
/-- what a subscript is -/
def rIdx (K : PySem.W.Frag) : R2 := fun vx vy H Q => ∃ q xs i v, vx = .ref q ∧ vy = .int i ∧ (SqL K H q xs ∨ SqT K H q xs) ∧ atI xs i = some v ∧ Q v H
theorem ix_both : IxR X (rIdx X.K) := by
  intro value slice pins s σ H x y v u Q I rx ry h hs
  obtain ⟨q, xs, i, w, e1, e2, h1 | h1, h2, h3⟩ := h
  · exact ix_list value slice pins s σ H x y v u Q I rx ry ⟨q, xs, i, w, e1, e2, h1, h2, h3⟩ hs
  · exact ix_tup value slice pins s σ H x y v u Q I rx ry ⟨q, xs, i, w, e1, e2, h1, h2, h3⟩ hs
theorem plainIx {e : Expr} (h : ∀ a b c d, e ≠ .Slice a b c d) : PlainIx e := by
  intro o i
  cases e <;> first
    | exact absurd rfl (h _ _ _ _)
    | rfl
theorem idxD_some {x y d : D} (h : idxD x y = some d) : ∃ i ds, y = .int i ∧ atI ds i = some d ∧ (x = .tup ds ∨ x = .lst ds) := by
  unfold idxD at h
  split at h
  · exact ⟨_, _, rfl, h, .inl rfl⟩
  · exact ⟨_, _, rfl, h, .inr rfl⟩
  · cases h
theorem ge_idx (ha : PE X ea (tB p X.K W a)) (hb : PE X eb (tE p X.K W b)) (hs : ∀ a b c d, eb ≠ .Slice a b c d) : PE X (.Subscript ea eb pos) (tE p X.K W (.idx a b)) :=
  pe_imp (pe_ix ix_both ha hb (plainIx hs)) fun σ H Q ⟨ρ, os, o, A, h⟩ => tB_of A h fun x o1 os1 H1 vx P1 A1 r1 h1 => tE_of A1 h1 fun y o2 os2 H2 vy P2 A2 r2 h2 => by
    have key : ∀ {z : D} {q : Addr} {xs : List V} {ds : List D} {Q' : D → Objs → List Addr → Hp → Prop}, vx = .ref q → (SqL X.K H2 q xs ∨ SqT X.K H2 q xs) → Reps X.K os2 H2 ds xs → Out p X.K W σ os2 H2 (.ofO (idxD z y) o2) Q' → (∀ es, z = .tup es ∨ z = .lst es → es = ds) → (∀ d v, Rep X.K os2 H2 d v → Q' d o2 os2 H2 → Q v H2) → rIdx X.K vx vy H2 Q := fun {z q xs ds Q'} e1 e2 e3 e4 e5 e6 => by
      obtain ⟨d, e, h3⟩ := e4.ofO
      obtain ⟨i, es, rfl, e7, e8⟩ := idxD_some e
      have e9 := e5 es e8
      subst e9
      obtain ⟨v, e10, r3⟩ := e3.at e7
      exact ⟨q, xs, i, v, e1, r2.int, e2, e10, e6 d v r3 (h3.ok A2.obs)⟩
    have r1' := r1.post P2 A1.obs
    split at h2
    · rename_i k
      split at h2
      · rename_i ds ek
        obtain ⟨q, e1, xs, e2, e3⟩ := A2.obs.at_ _ _ ek
        have rr := r1'.of_ne (fun _ e => nomatch e)
        unfold Rep at rr
        obtain ⟨q', e4, rfl⟩ := rr
        rw [e1] at e4
        cases e4
        exact key rfl (.inl (.of e2)) e3 h2 (fun es e => by rcases e with e | e <;> cases e; rfl) fun d v r q => q v r
      · exact h2.elim
    · cases x with
      | tup ds =>
        obtain ⟨q, xs, e1, e2, e3⟩ := r1'.tup
        exact key e1 (.inr e2) e3 h2 (fun es e => by rcases e with e | e <;> cases e; rfl) fun d v r q => q v r
      | lst ds =>
        obtain ⟨q, xs, e1, e2, e3⟩ := r1'.lst
        exact key e1 (.inl e2) e3 h2 (fun es e => by rcases e with e | e <;> cases e; rfl) fun d v r q => q v r
      | _ => exact h2.elim
/-! #### a[lo:hi] -/
def tO (p : Pm) (K : PySem.W.Frag) (W : WX) (ie : IEo) : TO := fun σ H Q => ∃ ρ os o, At p K os H σ ρ o ∧ Out p K W σ os H (p.evEo ie ρ o) fun l _ os' H' => Q l H'
theorem po_imp {e : Option Expr} {t t' : TO} (h : PO X e t) (m : ∀ σ H Q, t' σ H Q → t σ H Q) : PO X e t' := ⟨fun pins s σ H Q I q => h.run pins s σ H Q I (m σ H Q q)⟩
theorem go_none : PO X none (tO p X.K W .none) := po_imp po_none fun σ H Q ⟨ρ, os, o, A, h⟩ => h.ok A.obs
theorem go_some (h : PE X ea (tE p X.K W a)) : PO X (some ea) (tO p X.K W (.some a)) := po_imp (po_some h) fun σ H Q ⟨ρ, os, o, A, h⟩ => tE_of A h fun x o1 os1 H1 vx P1 A1 r1 h1 => by
  cases x with
  | int i => exact ⟨i, r1.int, h1.ok A1.obs⟩
  | _ => exact h1.elim
def rSlc (K : PySem.W.Frag) : V → Option Int → Option Int → Hp → VK → Prop := fun vx lo hi H Q => rSlL K vx lo hi H Q ∨ rSlA K vx lo hi H Q
theorem gm_slc {el eh : Option Expr} {l h : IEo} {p2 : Pos} (ha : PE X ea (tB p X.K W a)) (hl : PO X el (tO p X.K W l)) (hh : PO X eh (tO p X.K W h)) : PE X (.Subscript ea (.Slice el eh none p2) pos) (tM p X.K W (.slc a l h)) :=
  pe_imp (pe_slice (sl_list.or sl_tupA) ha hl hh) fun σ H Q ⟨ρ, os, o, A, h⟩ => tB_of A h fun x o1 os1 H1 vx P1 A1 r1 h1 =>
    ⟨ρ, os1, o1, A1, h1.bind.mono fun l o2 os2 H2 _ P2 O2 h2 => ⟨ρ, os2, o2, A1.next P2 O2, h2.bind.mono fun u o3 os3 H3 _ P3 O3 h3 => by
      obtain ⟨d, e, h4⟩ := h3.ofO
      have r3 := (r1.post P2 A1.obs).post P3 O2
      unfold slcD at e
      split at e
      · cases e
        obtain ⟨q, xs, e1, e2, e3⟩ := r3.tup
        refine .inr ⟨q, xs, e1, e2, fun hw => ?_, fun _ z hz => h4.ok O3 _ _ (.tup O3 hz (e3.cut _ _))⟩
        refine h4.ok O3 _ _ ?_
        refine .cur e2 ?_
        have e4 := e3.cut l u
        have e5 : cutV xs l u = xs := by
          unfold cutV
          rw [hw.1, hw.2]
          simp
        rw [e5] at e4
        exact e4
      · cases e
        obtain ⟨q, xs, e1, e2, e3⟩ := r3.lst
        exact .inl ⟨q, xs, e1, e2, fun z hz => h4.ok O3 _ _ (.lst hz (e3.cut _ _))⟩
      · cases e⟩⟩
/-! #### built-in functions -/
theorem RepBs.inv {d : D} {ds : List D} {xs : List V} (h : RepBs K os H (d :: ds) xs) : ∃ x r, xs = x :: r ∧ RepB K os H d x ∧ RepBs K os H ds r := by unfold RepBs at h; exact h
theorem RepBs.inv0 {xs : List V} (h : RepBs K os H [] xs) : xs = [] := by unfold RepBs at h; exact h
theorem RepBs.one {d : D} {xs : List V} (h : RepBs K os H [d] xs) : ∃ x, xs = [x] ∧ RepB K os H d x := by
  obtain ⟨x, r, rfl, h1, h2⟩ := h.inv
  exact ⟨x, by rw [h2.inv0], h1⟩
theorem RepBs.two {d e : D} {xs : List V} (h : RepBs K os H [d, e] xs) : ∃ x y, xs = [x, y] ∧ RepB K os H d x ∧ RepB K os H e y := by
  obtain ⟨x, r, rfl, h1, h2⟩ := h.inv
  obtain ⟨y, rfl, h3⟩ := h2.one
  exact ⟨x, y, rfl, h1, h3⟩
def rBif (K : PySem.W.Frag) (f : Bif) : List V → Hp → VK → Prop := fun vs H Q => ∃ os o ds d, OOk K os H o ∧ RepBs K os H ds vs ∧ bifD f ds = some d ∧ ∀ v H', MkV K os H d v H' → Q v H'
/-- the function's value -/
def bifV : Bif → Value
  | .len => .builtin "len"
  | .all => .builtin "all"
  | .any => .builtin "any"
  | .sum => .builtin "sum"
  | .tuple => .type "tuple"
  | .list => .type "list"
  | .abs => .builtin "abs"
  | .max2 => .builtin "max"
  | .min2 => .builtin "min"
  | .int => .type "int"
  | .bool => .type "bool"
  | .max1 => .builtin "max"
  | .min1 => .builtin "min"
  | .sorted => .builtin "sorted"
theorem cr_sumT (hc : X.calm = true) : CallR X (.builtin "sum") (fun vs H Q => ∃ (a : Addr) (ns : List Int), vs = [V.ref a] ∧ SqT X.K H a (ns.map V.int) ∧ Q (.int ns.sum) H) := by
  intro pins s σ H vs us Q I r h
  obtain ⟨a, ns, rfl, hs, q⟩ := h
  obtain ⟨its, rv, hl, _⟩ := I.tuple hs
  rw [Vals.ref1 r]
  obtain ⟨xs, hx⟩ := rv.ints.allInts.items
  have hn : numsOf its.toArray.toList = ns := by rw [show its.toArray.toList = its from rfl, rv.ints.numsOf]
  have hl' : s.heap.IsTuple a its.toArray := hl
  rw [hx] at hl' hn
  rw [nums_intItems] at hn
  refine PySem.W.ktm_sumG (I.ok.hd hc) hl' fun h' tk t' hk => ?_
  rw [preSum_eq, List.take_of_length_le (by simp), hn]
  exact ⟨.int _, H, I.kept hk, ⟨_, rfl⟩, q⟩
theorem cr_bif {f : Bif} (hc : X.calm = true ∨ bifHot f = true) : CallR X (bifV f) (rBif X.K f) := by
  intro pins s σ H vs us Q I r ⟨os, o, ds, d, O, h, e, q⟩
  have cm : bifHot f = false → X.calm = true := fun z => by
    rcases hc with h | h
    · exact h
    · rw [z] at h; cases h
  unfold bifD at e
  split at e
  · cases e
    obtain ⟨x, rfl, h1⟩ := h.one
    obtain ⟨a, xs, rfl, h2, h3⟩ := h1.tup
    refine call_len_seq pins s σ H _ us Q I r ⟨a, xs, rfl, .inr h2, ?_⟩
    rw [h3.length]
    exact q _ _ (.int _)
  · cases e
    obtain ⟨x, rfl, h1⟩ := h.one
    obtain ⟨a, xs, rfl, h2, h3⟩ := h1.lst
    refine call_len_seq pins s σ H _ us Q I r ⟨a, xs, rfl, .inl h2, ?_⟩
    rw [h3.length]
    exact q _ _ (.int _)
  · split at e <;> cases e
    rename_i hz
    obtain ⟨x, rfl, h1⟩ := h.one
    rw [h1.str] at r
    exact call_len_str pins s σ H _ us Q I r ⟨_, rfl, szP hz, q _ _ (.int _)⟩
  · obtain ⟨bs, e1, rfl⟩ := Option.map_eq_some_iff.mp e
    obtain ⟨x, rfl, h1⟩ := h.one
    obtain ⟨a, xs, rfl, h2, h3⟩ := h1.lst
    rw [h3.bls e1] at h2
    exact cr_all (cm rfl) pins s σ H _ us Q I r ⟨a, bs, rfl, h2, q _ _ (.bl _)⟩
  · obtain ⟨bs, e1, rfl⟩ := Option.map_eq_some_iff.mp e
    obtain ⟨x, rfl, h1⟩ := h.one
    obtain ⟨a, xs, rfl, h2, h3⟩ := h1.lst
    rw [h3.bls e1] at h2
    exact cr_any (cm rfl) pins s σ H _ us Q I r ⟨a, bs, rfl, h2, q _ _ (.bl _)⟩
  · obtain ⟨ns, e1, rfl⟩ := Option.map_eq_some_iff.mp e
    obtain ⟨x, rfl, h1⟩ := h.one
    obtain ⟨a, xs, rfl, h2, h3⟩ := h1.lst
    rw [h3.ints e1] at h2
    exact cr_sum (cm rfl) pins s σ H _ us Q I r ⟨a, ns, rfl, h2, q _ _ (.int _)⟩
  · obtain ⟨ns, e1, rfl⟩ := Option.map_eq_some_iff.mp e
    obtain ⟨x, rfl, h1⟩ := h.one
    obtain ⟨a, xs, rfl, h2, h3⟩ := h1.tup
    rw [h3.ints e1] at h2
    exact cr_sumT (cm rfl) pins s σ H _ us Q I r ⟨a, ns, rfl, h2, q _ _ (.int _)⟩
  · cases e
    obtain ⟨x, rfl, h1⟩ := h.one
    obtain ⟨a, xs, rfl, h2, h3⟩ := h1.tup
    exact call_tuple_of pins s σ H _ us Q I r ⟨a, xs, rfl, .inr ⟨h2, q _ _ (.cur h2 h3)⟩⟩
  · cases e
    obtain ⟨x, rfl, h1⟩ := h.one
    obtain ⟨a, xs, rfl, h2, h3⟩ := h1.lst
    exact call_tuple_of pins s σ H _ us Q I r ⟨a, xs, rfl, .inl ⟨h2, fun l hl => q _ _ (.tup O hl h3)⟩⟩
  · cases e
    obtain ⟨x, rfl, h1⟩ := h.one
    obtain ⟨a, xs, rfl, h2, h3⟩ := h1.tup
    exact call_list_of pins s σ H _ us Q I r ⟨a, xs, rfl, .inr h2, fun l hl => q _ _ (.lst hl h3)⟩
  · cases e
    obtain ⟨x, rfl, h1⟩ := h.one
    obtain ⟨a, xs, rfl, h2, h3⟩ := h1.lst
    exact call_list_of pins s σ H _ us Q I r ⟨a, xs, rfl, .inl h2, fun l hl => q _ _ (.lst hl h3)⟩
  · cases e
    obtain ⟨x, rfl, h1⟩ := h.one
    rw [h1.int] at r
    exact call_abs pins s σ H _ us Q I r ⟨_, rfl, q _ _ (.int _)⟩
  · cases e
    obtain ⟨x, y, rfl, h1, h2⟩ := h.two
    rw [h1.int, h2.int] at r
    exact call_max2 (cm rfl) pins s σ H _ us Q I r ⟨_, _, rfl, q _ _ (.int _)⟩
  · cases e
    obtain ⟨x, y, rfl, h1, h2⟩ := h.two
    rw [h1.int, h2.int] at r
    exact call_min2 (cm rfl) pins s σ H _ us Q I r ⟨_, _, rfl, q _ _ (.int _)⟩
  · cases e
    obtain ⟨x, rfl, h1⟩ := h.one
    rw [h1.int] at r
    exact call_int1 pins s σ H _ us Q I r (.inl ⟨_, rfl, q _ _ (.int _)⟩)
  · cases e
    obtain ⟨x, rfl, h1⟩ := h.one
    rw [h1.bl] at r
    exact call_int1 pins s σ H _ us Q I r (.inr ⟨_, rfl, q _ _ (.int _)⟩)
  · cases e
    obtain ⟨x, rfl, h1⟩ := h.one
    rw [h1.int] at r
    exact call_bool1 pins s σ H _ us Q I r (.inl ⟨_, rfl, q _ _ (.bl _)⟩)
  · cases e
    obtain ⟨x, rfl, h1⟩ := h.one
    rw [h1.bl] at r
    exact call_bool1 pins s σ H _ us Q I r (.inr ⟨_, rfl, q _ _ (.bl _)⟩)
  · cases e
/-- the function's name -/
def bifN : Bif → Str
  | .len => "len"
  | .all => "all"
  | .any => "any"
  | .sum => "sum"
  | .tuple => "tuple"
  | .list => "list"
  | .abs => "abs"
  | .max2 => "max"
  | .min2 => "min"
  | .int => "int"
  | .bool => "bool"
  | .max1 => "max"
  | .min1 => "min"
  | .sorted => "sorted"
theorem bif_boot (f : Bif) : bootBuiltins (bifN f) = some (bifV f) := by cases f <;> rfl
theorem bif_n (f : Bif) : bifN f ≠ "__name__" := by cases f <;> decide
theorem bif_d (f : Bif) : (bifN f == ("__debug__" : Str)) = false := by cases f <;> decide
theorem bif_c (f : Bif) : (∃ id, bifV f = .builtin id) ∨ ∃ T, bifV f = .type T := by cases f <;> first | exact .inl ⟨_, rfl⟩ | exact .inr ⟨_, rfl⟩
theorem gm_bif {f : Bif} {es : List Expr} {as : IEs} {pn : Pos} (hc : X.calm = true ∨ bifHot f = true) (hg : Gl X (bifN f)) (hm : X.mg (bifN f) = none) (h : PA X (ea :: es) (tBs p X.K W as)) (hs : ∀ e ∈ ea :: es, ∀ x y, e ≠ .Starred x y) :
    PE X (.Call (.Name (bifN f) pn) (ea :: es) [] pos) (tM p X.K W (.bif f as)) := by
  have m : ∀ σ H Q, tM p X.K W (.bif f as) σ H Q → tCB (rBif X.K f) (tBs p X.K W as) σ H Q := fun σ H Q ⟨ρ, os, o, A, h⟩ => tBs_of A h fun ds o1 os1 H1 vs P1 A1 r h1 => by
    obtain ⟨d, e, h2⟩ := h1.ofO
    exact ⟨os1, o1, ds, d, A1.obs, r, e, h2.ok A1.obs⟩
  have he := starEach_ne (es := es) X.env (hs ea List.mem_cons_self)
  have hp : (backTo pos (starEach es X.env)).any (·.1) = false := backTo_ns fun e he => hs e (List.mem_cons_of_mem _ he)
  rcases bif_c f with ⟨id, e⟩ | ⟨T, e⟩
  · have q := pe_callB (X := X) (pos := pos) (p := pn) (id := id) (by rw [← e]; exact cr_bif hc) hg hm (by rw [← e]; exact bif_boot f) h (bif_n f) (bif_d f) he hp
    exact pe_imp q m
  · have q := pe_callTy (X := X) (pos := pos) (p := pn) (T := T) (by rw [← e]; exact cr_bif hc) hg hm (by rw [← e]; exact bif_boot f) h (bif_n f) (bif_d f) he hp
    exact pe_imp q m
end
end Ev

set_option maxHeartbeats 2000000
/-! EvI: what loops and comprehensions walk. -/
namespace Ev
open PySem PySem.Spec PyProof.Rows L2

section
variable {X : Cx} {p : Pm} {K : PySem.W.Frag} {W : WX} {os : List Addr} {H : Hp} {o : Objs} {σ : L2.St} {ρ : Frm} {α : Type} {ea eb ec tg : Expr} {a b c : IE} {pos : Pos}
/-! ### a list or a tuple -/
theorem pi_seq {l : Expr} {tl : TE} (hl : PE X l tl) : PI X tg l (fun σ H R => tl σ H fun x H1 => ∃ a xs, x = .ref a ∧ ((SqL X.K H1 a xs ∧ R (Itl X.K a) H1) ∨ (SqT X.K H1 a xs ∧ R (Itt X.K a) H1))) := by
  constructor
  intro pins s σ H R I h
  refine thn (hl.run pins s σ H _ I h) ?_
  rintro v s1 ⟨x, H1, I1, r1, b, xs, rfl, q⟩
  cases r1
  rcases q with ⟨hq, q⟩ | ⟨hq, q⟩
  · obtain ⟨ws, _, pl, _⟩ := I1.list hq
    exact wpAny_pyIter_list pl.isList (pi_one (tk := s1.toks) I1 _ (turn_list b _) ⟨_, Heap.get?_push_size _ rfl, rfl, rfl⟩ q)
  · obtain ⟨ws, _, pl, _⟩ := I1.tuple hq
    exact wpAny_pyIter_tuple (items := ws.toArray) pl (pi_one (tk := s1.toks) I1 _ (turn_tuple b _) ⟨_, Heap.get?_push_size _ rfl, rfl, rfl⟩ q)

/-! ### zip of two tuples -/
def Itp (K : PySem.W.Frag) (a b : Addr) : It where
  go i H := ∃ (xs ys : List V) (x y : V), SqT K H a xs ∧ SqT K H b ys ∧ xs[i]? = some x ∧ ys[i]? = some y
  yld i H v H' := ∃ T x y, v = .ref T ∧ H T = none ∧ H' = upd H T (.tup [x, y]) ∧ (∀ xs, SqT K H a xs → xs[i]? = some x) ∧ ∀ ys, SqT K H b ys → ys[i]? = some y
  stop i H := ∃ xs ys : List V, SqT K H a xs ∧ SqT K H b ys ∧ (xs.length ≤ i ∨ ys.length ≤ i)
theorem mem5 {c z1 z2 z3 z4 z5 : Addr} (h : c ∈ [z1, z2, z3, z4, z5]) : c = z1 ∨ c = z2 ∨ c = z3 ∨ c = z4 ∨ c = z5 := by simpa using h
theorem nmem5 {c z1 z2 z3 z4 z5 : Addr} (h : c ∉ [z1, z2, z3, z4, z5]) : c ≠ z1 ∧ c ≠ z2 ∧ c ≠ z3 ∧ c ≠ z4 ∧ c ≠ z5 := by simpa using h
/-- the zip's cells at turn i -/
structure ZpAt (z TI TO i1 i2 a b : Addr) (i : Nat) (h : Heap) : Prop where
  hz : IsZip h z TI TO .none
  hI : IsPair h TI (.ref i1) (.ref i2)
  hO : ∃ x y, IsPair h TO x y
  h1 : h.IsTupleIter i1 a i
  h2 : h.IsTupleIter i2 b i
theorem ZpAt.get {z TI TO i1 i2 a b : Addr} {i : Nat} {h : Heap} (st : ZpAt z TI TO i1 i2 a b i h) {c : Addr} (hc : c ∈ [z, TI, TO, i1, i2]) : ∃ o, h.get? c = some o ∧ ∀ v, o.data ≠ .cell v := by
  obtain ⟨x, y, hO⟩ := st.hO
  obtain ⟨o1, e1, _, d1⟩ := st.h1
  obtain ⟨o2, e2, _, d2⟩ := st.h2
  rcases mem5 hc with q | q | q | q | q <;> subst q
  · exact ⟨_, st.hz, fun v e => by cases e⟩
  · exact ⟨_, st.hI, fun v e => by cases e⟩
  · exact ⟨_, hO, fun v e => by cases e⟩
  · exact ⟨o1, e1, fun v e => by rw [d1] at e; cases e⟩
  · exact ⟨o2, e2, fun v e => by rw [d2] at e; cases e⟩
theorem turn_zipT {P : Program} {w : World} {K : PySem.W.Frag} {elts : List Expr} {kk : Nat} {tpos : Pos} {a b z TI TO i1 i2 : Addr} (D : ZipApart z TI TO i1 i2 a b) :
    Turn P w K (.Tuple elts kk tpos) (Itp K a b) [z, TI, TO, i1, i2] z (ZpAt z TI TO i1 i2 a b) where
  mem := List.mem_cons_self
  obj := fun i h st c hc => st.get hc
  keep := fun i h h' st k => by
    obtain ⟨x, y, hO⟩ := st.hO
    exact ⟨k z (by simp) _ st.hz, k TI (by simp) _ st.hI, ⟨x, y, k TO (by simp) _ hO⟩, st.h1.at fun o q => k i1 (by simp) o q, st.h2.at fun o q => k i2 (by simp) o q⟩
  item := by
    intro X eP eW eK hc i pins s σ H E I hf st hg
    subst eP eW eK
    obtain ⟨x0, y0, hO⟩ := st.hO
    obtain ⟨xs, ys, x, y, hqx, hqy, hx, hy⟩ := hg
    obtain ⟨ws, rv, pl, _⟩ := I.tuple hqx
    obtain ⟨ws2, rv2, pl2, _⟩ := I.tuple hqy
    obtain ⟨u, hu, ru⟩ := rv.get hx
    obtain ⟨u2, hu2, ru2⟩ := rv2.get hy
    have old : ∀ c ∈ [z, TI, TO, i1, i2], c < s.heap.objs.size := fun c hc => by
      obtain ⟨ob, e, _⟩ := st.get hc
      exact Heap.lt_size e
    have hzl := old z (by simp)
    refine RZ.pyNext_zipT_item D st.hz st.hI hO st.h1 st.h2 (xs := ws.toArray) (ys := ws2.toArray) pl pl2 (x := u) (y := u2) (by simpa using hu) (by simpa using hu2) fun h' z' TO' h1' h2' hT hsz hk => ?_
    refine ⟨_, rfl, ?_⟩
    refine wpAny_letOwnedTupleGo_zip (s := ⟨h', s.gens, s.drawn, s.toks, s.os⟩) z' fun h'' z'' sb => ?_
    have hT2 : IsPair h'' s.heap.objs.size u u2 := (sb.2 _ (Nat.ne_of_gt hzl)).trans hT
    have new : ObjOk X.prog X.w (upd H s.heap.objs.size (.tup [x, y])) h'' s.heap.objs.size (.tup [x, y]) := by
      refine ⟨?_, [u, u2], .cons ru (.cons ru2 .nil), ⟨_, hT2, rfl, _, rfl⟩⟩
      show 2 ≤ sizeLine
      decide
    have kp : ∀ c ob, c ∉ [z, TI, TO, i1, i2] → s.heap.get? c = some ob → h''.get? c = some ob := fun c ob hb q => by
      obtain ⟨n1, n2, n3, n4, n5⟩ := nmem5 hb
      exact (sb.2 c n1).trans (hk c ob n1 n3 n4 n5 q)
    have I1 := I.turnedNew (t' := s.toks) kp hf (Nat.le_refl _) new
    refine ⟨.ref s.heap.objs.size, _, I1, rfl, ⟨_, x, y, rfl, I.hok.fresh (Nat.le_refl _), rfl, fun l hl => ?_, fun l hl => ?_⟩, ⟨z'', ?_, ⟨u, u2, ?_⟩, ?_, ?_⟩, fun c hcm => ?_⟩
    · rw [I.tuple_inj hl hqx]; exact hx
    · rw [I.tuple_inj hl hqy]; exact hy
    · exact (sb.2 _ D.TIz).trans (hk _ _ D.TIz D.TITO D.TIi1 D.TIi2 st.hI)
    · exact (sb.2 _ D.TOz).trans TO'
    · exact h1'.at fun o q => (sb.2 _ D.i1z).trans q
    · exact h2'.at fun o q => (sb.2 _ D.i2z).trans q
    · rw [upd_ne (Nat.ne_of_lt (old c hcm))]
      exact (hf c hcm).1
  done := by
    intro X eP eW eK hc i pins s σ H E I hf st hg
    subst eP eW eK
    obtain ⟨x0, y0, hO⟩ := st.hO
    obtain ⟨xs, ys, hqx, hqy, hend⟩ := hg
    obtain ⟨ws, rv, pl, _⟩ := I.tuple hqx
    obtain ⟨ws2, rv2, pl2, _⟩ := I.tuple hqy
    have l1 := rv.length
    have l2 := rv2.length
    have he : ws.toArray[i]? = none ∨ ws2.toArray[i]? = none := hend.imp (fun q => by simp; omega) fun q => by simp; omega
    refine RZ.pyNext_zipT_end (I.ok.hd hc) D st.hz st.hI hO st.h1 st.h2 (xs := ws.toArray) (ys := ws2.toArray) pl pl2 he fun h' hk => ⟨rfl, ?_⟩
    refine I.turnedL (t' := s.toks) (ch := [z, TI, TO, i1, i2]) (fun c ob hb q => ?_) hf
    obtain ⟨n1, n2, n3, n4, n5⟩ := nmem5 hb
    exact hk c ob n1 n3 n4 n5 q
  self := fun A i s Q E st h => wpAny_pyIter_zip st.hz h
/-- zip(a, b): two lists, or two tuples -/
theorem pi_zips {e e2 : Expr} {ta : TA} {pn tpos : Pos} {elts : List Expr} {kk : Nat} (hg : Gl X "zip") (hm : X.mg "zip" = none) (ha : PA X [e, e2] ta)
    (hs : starEach [e, e2] X.env = (false, eval e X.env) :: starEach [e2] X.env) (hpl : (backTo pos (starEach [e2] X.env)).any (·.1) = false) :
    PI X (.Tuple elts kk tpos) (.Call (.Name "zip" pn) [e, e2] [] pos) (fun σ H R => ta σ H fun vs H1 => ∃ a b xs ys, vs = [.ref a, .ref b] ∧ ((SqL X.K H1 a xs ∧ SqL X.K H1 b ys ∧ R (Itz X.K a b) H1) ∨ (SqT X.K H1 a xs ∧ SqT X.K H1 b ys ∧ R (Itp X.K a b) H1))) := by
  constructor
  intro pins s σ H R I h
  refine Call_ (ld_blt I hg hm PyProof.Rows.boot_zip (PyProof.Rows.callWith_type1 (thn (ha.run pos pins s σ H _ I h) ?_) hs hpl))
  rintro us s1 ⟨vs, H1, I1, r1, b, d, xs, ys, rfl, q⟩
  cases r1 with
  | cons r rr =>
    cases rr with
    | cons r' rr =>
      cases rr
      cases r
      cases r'
      have new : ∀ c ∈ [s1.heap.objs.size + 4, s1.heap.objs.size + 2, s1.heap.objs.size + 3, s1.heap.objs.size, s1.heap.objs.size + 1], FpOk X pins H1 c := fun c hcm => by
        have hle : s1.heap.objs.size ≤ c := by
          rcases mem5 hcm with z | z | z | z | z <;> rw [z] <;> first | exact Nat.le_refl _ | exact Nat.le_add_right _ _
        exact I1.fpOk hle (I1.hok.fresh hle)
      rcases q with ⟨hqx, hqy, q⟩ | ⟨hqx, hqy, q⟩
      · obtain ⟨ws, _, p1, _⟩ := I1.list hqx
        obtain ⟨ws2, _, p2, _⟩ := I1.list hqy
        refine call_zip_2 p1.isList p2.isList fun h' hz hI hO h1 h2 hsz hk => wpAny_pyIter_zip hz ?_
        exact ⟨_, _, _, _, H1, rfl, I1.kept (t' := s1.toks) hk, turn_zip (PySem.W.ktu_apart s1.heap.objs.size b d p1.lt p2.lt), ⟨hz, hI, ⟨_, _, hO⟩, h1, h2⟩, new, q⟩
      · obtain ⟨ws, _, p1, _⟩ := I1.tuple hqx
        obtain ⟨ws2, _, p2, _⟩ := I1.tuple hqy
        refine RZ.call_zipT (xs := ws.toArray) (ys := ws2.toArray) p1 p2 fun h' hz hI hO h1 h2 hsz hk => wpAny_pyIter_zip hz ?_
        exact ⟨_, _, _, _, H1, rfl, I1.kept (t' := s1.toks) hk, turn_zipT (PySem.W.ktu_apart s1.heap.objs.size b d p1.lt p2.lt), ⟨hz, hI, ⟨_, _, hO⟩, h1, h2⟩, new, q⟩

/-! ### what is yielded -/
/-- J yields ds, in all states to come -/
def Yl (K : PySem.W.Frag) (J : It) (ds : List D) (Rl : List Addr → Hp → Prop) : Prop := ∀ os2 H2 o2, Rl os2 H2 → OOk K os2 H2 o2 → ∀ i,
  (i < ds.length → J.go i H2 ∧ ∀ x H3, J.yld i H2 x H3 → Same H2 H3 ∧ ∃ d, ds[i]? = some d ∧ Rep K os2 H3 d x) ∧ (ds.length ≤ i → J.stop i H2)
/-- what a loop's body keeps -/
structure Kp (os : List Addr) (H : Hp) (os2 : List Addr) (H2 : Hp) : Prop where
  pre : ∃ new, os2 = os ++ new
  keep : ∀ b u, H b = some u → (∀ xs, u ≠ .lst xs) → (∀ ps, u ≠ .tbl ps) → H2 b = some u
theorem SqT.kp {os2 : List Addr} {H2 : Hp} (P : Kp os H os2 H2) {a : Addr} {xs : List V} (h : SqT K H a xs) : SqT K H2 a xs := by
  rcases h with (h | ⟨ob, h⟩) | h
  · exact .inl (.inl (P.keep _ _ h (fun _ e => nomatch e) fun _ e => nomatch e))
  · exact .inl (.inr ⟨ob, P.keep _ _ h (fun _ e => nomatch e) fun _ e => nomatch e⟩)
  · exact .inr h
theorem SqF.kp {os2 : List Addr} {H2 : Hp} (P : Kp os H os2 H2) {a : Addr} {xs : List V} (h : SqF K H a xs) : SqF K H2 a xs := by
  obtain ⟨ob, h⟩ := h
  exact ⟨ob, P.keep _ _ h (fun _ e => nomatch e) fun _ e => nomatch e⟩
mutual
theorem Rep.kp {os2 : List Addr} {H2 : Hp} (P : Kp os H os2 H2) : ∀ (d : D) {v : V}, Rep K os H d v → Rep K os2 H2 d v
  | .non, v, h => by unfold Rep at h ⊢; exact h
  | .bl _, v, h => by unfold Rep at h ⊢; exact h
  | .int _, v, h => by unfold Rep at h ⊢; exact h
  | .str _, v, h => by unfold Rep at h ⊢; exact h
  | .tup ds, v, h => by
    unfold Rep at h ⊢
    obtain ⟨a, xs, e, h1, h2⟩ := h
    exact ⟨a, xs, e, SqT.kp P h1, Reps.kp P ds h2⟩
  | .lst ds, v, h => by
    unfold Rep at h ⊢
    obtain ⟨a, xs, e, h1, h2⟩ := h
    exact ⟨a, xs, e, SqF.kp P h1, Reps.kp P ds h2⟩
  | .dct ks vs, v, h => by
    unfold Rep at h ⊢
    obtain ⟨e1, e2, a, ob, e3, h1⟩ := h
    exact ⟨e1, e2, a, ob, e3, P.keep _ _ h1 (fun _ e => nomatch e) fun _ e => nomatch e⟩
  | .obj i, v, h => by
    unfold Rep at h ⊢
    obtain ⟨a, e, e2⟩ := h
    obtain ⟨new, rfl⟩ := P.pre
    exact ⟨a, by rw [List.getElem?_append_left (List.getElem?_eq_some_iff.mp e).1]; exact e, e2⟩
theorem Reps.kp {os2 : List Addr} {H2 : Hp} (P : Kp os H os2 H2) : ∀ (ds : List D) {xs : List V}, Reps K os H ds xs → Reps K os2 H2 ds xs
  | [], xs, h => by unfold Reps at h ⊢; exact h
  | d :: ds, xs, h => by
    obtain ⟨x, r, rfl, h1, h2⟩ := h.inv
    exact .cons (Rep.kp P d h1) (Reps.kp P ds h2)
end
/-- a comprehension only reads (true); a loop's body may change what is the frame's own (false) -/
def RlM (m : Bool) (T : Tbs) (os : List Addr) (H : Hp) (os2 : List Addr) (H2 : Hp) : Prop := if m then Post T os H os2 H2 else Kp os H os2 H2
def RepM (m : Bool) (K : PySem.W.Frag) (os : List Addr) (H : Hp) (d : D) (v : V) : Prop := if m then RepB K os H d v else Rep K os H d v
def tX (m : Bool) (p : Pm) (K : PySem.W.Frag) (W : WX) (ie : IE) : TE := fun σ H Q => ∃ ρ os o, At p K os H σ ρ o ∧ Out p K W σ os H (p.evE ie ρ o) fun d _ os' H' => ∀ v, RepM m K os' H' d v → Q v H'
def tS (m : Bool) (p : Pm) (K : PySem.W.Frag) (W : WX) (src : ISrc) : TI := fun σ H R => ∃ ρ os o, At p K os H σ ρ o ∧ Out p K W σ os H (p.evSrc src ρ o) fun ds _ os' H' => ∀ J, Yl K J ds (RlM m p.T os' H') → R J H'
theorem tX_of {m : Bool} {a : IE} {R : VK} (A : At p K os H σ ρ o) {f : D → Objs → Res α} {Q : α → Objs → List Addr → Hp → Prop} (h : Out p K W σ os H ((p.evE a ρ o).bind f) Q)
    (hR : ∀ d o' os' H' v, Post p.T os H os' H' → At p K os' H' σ ρ o' → RepM m K os' H' d v → Out p K W σ os' H' (f d o') Q → R v H') : tX m p K W a σ H R :=
  ⟨ρ, os, o, A, h.bind.mono fun d o' os' H' _ P O q v r => hR d o' os' H' v P (A.next P O) r q⟩
theorem RepM.post {m : Bool} {T : Tbs} {os2 : List Addr} {H2 : Hp} {d : D} {v : V} (P : Post T os H os2 H2) (O : OOk K os H o) (h : RepM m K os H d v) : RepM m K os2 H2 d v := by
  cases m with
  | true => exact RepB.post P O h
  | false => exact Rep.post P O d h
theorem RepM.tup {m : Bool} {ds : List D} {v : V} (h : RepM m K os H (.tup ds) v) : ∃ a xs, v = .ref a ∧ SqT K H a xs ∧ Reps K os H ds xs := by
  cases m with
  | true => exact RepB.tup h
  | false => exact Rep.tup h
/-- what stays -/
theorem RlM.sqT {m : Bool} {T : Tbs} {os2 : List Addr} {H2 : Hp} (O : OOk K os H o) (P : RlM m T os H os2 H2) {a : Addr} {xs : List V} (h : SqT K H a xs) : SqT K H2 a xs := by
  cases m with
  | true => exact SqT.post P O h
  | false => exact SqT.kp P h
theorem RlM.reps {m : Bool} {T : Tbs} {os2 : List Addr} {H2 : Hp} (O : OOk K os H o) (P : RlM m T os H os2 H2) {ds : List D} {xs : List V} (h : Reps K os H ds xs) : Reps K os2 H2 ds xs := by
  cases m with
  | true => exact Reps.post P O ds h
  | false => exact Reps.kp P ds h
theorem RepM.sq {m : Bool} {T : Tbs} {ds : List D} {v : V} (h : RepM m K os H (.lst ds) v) (O : OOk K os H o) : ∃ a xs, v = .ref a ∧ SqL K H a xs ∧ Reps K os H ds xs ∧ ∀ {os2 H2}, RlM m T os H os2 H2 → SqL K H2 a xs := by
  cases m with
  | true =>
    have h : RepB K os H (.lst ds) v := h
    rcases h with h | ⟨ds', a, xs, e, rfl, n, h1, h2⟩
    · obtain ⟨a, xs, rfl, h1, h2⟩ := h.lst
      exact ⟨a, xs, rfl, h1.toL, h2, fun P => (SqF.post P O h1).toL⟩
    · cases e
      exact ⟨a, xs, rfl, .of h1, h2, fun P => .of (P.keep _ _ h1 n fun _ e => by cases e)⟩
  | false =>
    obtain ⟨a, xs, rfl, h1, h2⟩ := Rep.lst h
    exact ⟨a, xs, rfl, h1.toL, h2, fun P => (SqF.kp P h1).toL⟩
theorem pi_imp {e : Expr} {t t' : TI} (h : PI X tg e t) (m : ∀ σ H Q, t' σ H Q → t σ H Q) : PI X tg e t' := ⟨fun pins s σ H Q I q => h.run pins s σ H Q I (m σ H Q q)⟩
theorem get_lt {β : Type} {xs : List β} {i : Nat} (h : i < xs.length) : ∃ x, xs[i]? = some x := ⟨xs[i], List.getElem?_eq_getElem h⟩
theorem yl_list {m : Bool} {T : Tbs} {ds : List D} {xs : List V} {q : Addr} (O : OOk K os H o) (r : Reps K os H ds xs) (st : ∀ {os2 H2}, RlM m T os H os2 H2 → SqL K H2 q xs) : Yl K (Itl K q) ds (RlM m T os H) := fun os2 H2 o2 P O2 i => by
  have s2 := st P
  have r2 := P.reps O r
  refine ⟨fun hi => ?_, fun hi => ⟨xs, s2, by rw [r.length]; exact hi⟩⟩
  obtain ⟨d, ed⟩ := get_lt hi
  obtain ⟨x, ex, rx⟩ := r2.get ed
  refine ⟨⟨xs, x, s2, ex⟩, fun y H3 h => ?_⟩
  obtain ⟨rfl, h⟩ := h
  refine ⟨Same.rfl', d, ed, ?_⟩
  have z := h xs s2
  rw [ex] at z
  cases z
  exact rx
theorem yl_tup {m : Bool} {T : Tbs} {ds : List D} {xs : List V} {q : Addr} (O : OOk K os H o) (r : Reps K os H ds xs) (h : SqT K H q xs) : Yl K (Itt K q) ds (RlM m T os H) := fun os2 H2 o2 P O2 i => by
  have s2 := P.sqT O h
  have r2 := P.reps O r
  refine ⟨fun hi => ?_, fun hi => ⟨xs, s2, by rw [r.length]; exact hi⟩⟩
  obtain ⟨d, ed⟩ := get_lt hi
  obtain ⟨x, ex, rx⟩ := r2.get ed
  refine ⟨⟨xs, x, s2, ex⟩, fun y H3 h => ?_⟩
  obtain ⟨rfl, h⟩ := h
  refine ⟨Same.rfl', d, ed, ?_⟩
  have z := h xs s2
  rw [ex] at z
  cases z
  exact rx
theorem rangeD_length (i j : Int) : (rangeD i j).length = (j - i).toNat := by unfold rangeD; simp
theorem yl_range {Rl : List Addr → Hp → Prop} {lo hi : Int} {n : Nat} (hn : n = (hi - lo).toNat) : Yl K (Itr lo n) (rangeD lo hi) Rl := fun os2 H2 o2 P O2 i => by
  subst hn
  refine ⟨fun h => ?_, fun h => by rw [rangeD_length] at h; exact h⟩
  rw [rangeD_length] at h
  refine ⟨h, fun y H3 e => ?_⟩
  obtain ⟨rfl, rfl⟩ := e
  refine ⟨Same.rfl', .int (lo + (i : Nat)), ?_, .mkInt _⟩
  unfold rangeD
  rw [List.getElem?_map, List.getElem?_range h]
  rfl
theorem zipD_get {xs ys : List D} {i : Nat} {x y : D} (h1 : xs[i]? = some x) (h2 : ys[i]? = some y) : ((xs.zip ys).map fun p => D.tup [p.1, p.2])[i]? = some (.tup [x, y]) := by
  have h3 : (xs.zip ys)[i]? = some (x, y) := List.getElem?_zip_eq_some.mpr ⟨h1, h2⟩
  rw [List.getElem?_map, h3]
  rfl
theorem pair_rep {o2 : Objs} {x y : D} {vx vy : V} {T : Addr} (O : OOk K os H o2) (hn : H T = none) (r1 : Rep K os H x vx) (r2 : Rep K os H y vy) : Rep K os (upd H T (.tup [vx, vy])) (.tup [x, y]) (.ref T) := by
  unfold Rep
  exact ⟨T, _, rfl, .inl (.inl upd_same), Reps.same O (same_upd hn) (.cons r1 (.cons r2 .nil))⟩
theorem yl_zipL {m : Bool} {T : Tbs} {ds es : List D} {xs ys : List V} {q1 q2 : Addr} (O : OOk K os H o) (r : Reps K os H ds xs) (r' : Reps K os H es ys) (st : ∀ {os2 H2}, RlM m T os H os2 H2 → SqL K H2 q1 xs) (st' : ∀ {os2 H2}, RlM m T os H os2 H2 → SqL K H2 q2 ys) :
    Yl K (Itz K q1 q2) ((ds.zip es).map fun p => .tup [p.1, p.2]) (RlM m T os H) := fun os2 H2 o2 P O2 i => by
  have s1 := st P
  have s2 := st' P
  have t1 := P.reps O r
  have t2 := P.reps O r'
  have l1 := r.length
  have l2 := r'.length
  refine ⟨fun hi => ?_, fun hi => ⟨xs, ys, s1, s2, ?_⟩⟩
  · rw [List.length_map, List.length_zip] at hi
    obtain ⟨d, ed⟩ := get_lt (xs := ds) (i := i) (by omega)
    obtain ⟨e, ee⟩ := get_lt (xs := es) (i := i) (by omega)
    obtain ⟨x, ex, rx⟩ := t1.get ed
    obtain ⟨y, ey, ry⟩ := t2.get ee
    refine ⟨⟨xs, ys, x, y, s1, s2, ex, ey⟩, fun v H3 h => ?_⟩
    obtain ⟨T', x', y', rfl, hn, rfl, h1, h2⟩ := h
    have z1 := h1 xs s1
    have z2 := h2 ys s2
    rw [ex] at z1
    rw [ey] at z2
    cases z1
    cases z2
    exact ⟨same_upd hn, _, zipD_get ed ee, pair_rep O2 hn rx ry⟩
  · rw [List.length_map, List.length_zip] at hi
    rw [l1, l2]
    omega
theorem yl_zipT {m : Bool} {T : Tbs} {ds es : List D} {xs ys : List V} {q1 q2 : Addr} (O : OOk K os H o) (r : Reps K os H ds xs) (r' : Reps K os H es ys) (st : SqT K H q1 xs) (st' : SqT K H q2 ys) :
    Yl K (Itp K q1 q2) ((ds.zip es).map fun p => .tup [p.1, p.2]) (RlM m T os H) := fun os2 H2 o2 P O2 i => by
  have s1 := P.sqT O st
  have s2 := P.sqT O st'
  have t1 := P.reps O r
  have t2 := P.reps O r'
  have l1 := r.length
  have l2 := r'.length
  refine ⟨fun hi => ?_, fun hi => ⟨xs, ys, s1, s2, ?_⟩⟩
  · rw [List.length_map, List.length_zip] at hi
    obtain ⟨d, ed⟩ := get_lt (xs := ds) (i := i) (by omega)
    obtain ⟨e, ee⟩ := get_lt (xs := es) (i := i) (by omega)
    obtain ⟨x, ex, rx⟩ := t1.get ed
    obtain ⟨y, ey, ry⟩ := t2.get ee
    refine ⟨⟨xs, ys, x, y, s1, s2, ex, ey⟩, fun v H3 h => ?_⟩
    obtain ⟨T', x', y', rfl, hn, rfl, h1, h2⟩ := h
    have z1 := h1 xs s1
    have z2 := h2 ys s2
    rw [ex] at z1
    rw [ey] at z2
    cases z1
    cases z2
    exact ⟨same_upd hn, _, zipD_get ed ee, pair_rep O2 hn rx ry⟩
  · rw [List.length_map, List.length_zip] at hi
    rw [l1, l2]
    omega
theorem yl_enum {m : Bool} {T : Tbs} {ds : List D} {xs : List V} {q : Addr} (O : OOk K os H o) (r : Reps K os H ds xs) (st : ∀ {os2 H2}, RlM m T os H os2 H2 → SqL K H2 q xs) :
    Yl K (Ite K q) ((List.range ds.length).zipWith (fun (i : Nat) x => .tup [.int i, x]) ds) (RlM m T os H) := fun os2 H2 o2 P O2 i => by
  have s2 := st P
  have r2 := P.reps O r
  have hl : ((List.range ds.length).zipWith (fun (i : Nat) x => D.tup [.int i, x]) ds).length = ds.length := by simp
  rw [hl]
  refine ⟨fun hi => ?_, fun hi => ⟨xs, s2, by rw [r.length]; exact hi⟩⟩
  obtain ⟨d, ed⟩ := get_lt hi
  obtain ⟨x, ex, rx⟩ := r2.get ed
  refine ⟨⟨xs, x, s2, ex⟩, fun v H3 h => ?_⟩
  obtain ⟨T', x', rfl, hn, rfl, h1⟩ := h
  have z1 := h1 xs s2
  rw [ex] at z1
  cases z1
  refine ⟨same_upd hn, .tup [.int (i : Nat), d], ?_, pair_rep O2 hn (.mkInt _) rx⟩
  rw [List.getElem?_zipWith, List.getElem?_range hi, ed]
/-! ### the rules -/
theorem gs_seq {m : Bool} (h : PE X ea (tX m p X.K W a)) : PI X tg ea (tS m p X.K W (.seq a)) := pi_imp (pi_seq h) fun σ H R ⟨ρ, os, o, A, h⟩ => tX_of A h fun x o1 os1 H1 vx P1 A1 r1 h1 => by
  cases x with
  | tup ds =>
    obtain ⟨q, xs, rfl, h2, h3⟩ := RepM.tup r1
    exact ⟨q, xs, rfl, .inr ⟨h2, h1.ok A1.obs _ (yl_tup A1.obs h3 h2)⟩⟩
  | lst ds =>
    obtain ⟨q, xs, rfl, h2, h3, h4⟩ := RepM.sq (T := p.T) r1 A1.obs
    exact ⟨q, xs, rfl, .inl ⟨h2, h1.ok A1.obs _ (yl_list A1.obs h3 h4)⟩⟩
  | _ => exact h1.elim
theorem gs_range1 {m : Bool} {pn : Pos} (hg : Gl X "range") (hm : X.mg "range" = none) (ha : PE X ea (tE p X.K W a)) (hs : ∀ x y, ea ≠ .Starred x y) : PI X tg (.Call (.Name "range" pn) [ea] [] pos) (tS m p X.K W (.range1 a)) :=
  pi_imp (pi_range1 hg hm (pa_cons ha pa_nil (starEach_ne _ hs)) (by rw [starEach_ne _ hs]; rfl)) fun σ H R ⟨ρ, os, o, A, h⟩ => tE_of A h fun x o1 os1 H1 vx P1 A1 r1 h1 => by
    cases x with
    | int j =>
      obtain rfl := r1.int
      have h1 : Out p X.K W σ os1 H1 (if rngOk j then Res.ok (rangeD 0 j) o1 else .stuck) _ := h1
      split at h1
      · rename_i hz
        unfold rngOk at hz
        simp only [Bool.and_eq_true, decide_eq_true_eq] at hz
        exact ⟨j, rfl, hz.1, hz.2, h1.ok A1.obs _ (yl_range (by simp))⟩
      · exact h1.elim
    | _ => exact h1.elim
theorem gs_range2 {m : Bool} {pn : Pos} (hg : Gl X "range") (hm : X.mg "range" = none) (ha : PE X ea (tE p X.K W a)) (hb : PE X eb (tE p X.K W b)) (hs : ∀ x y, ea ≠ .Starred x y) (hs2 : ∀ x y, eb ≠ .Starred x y) : PI X tg (.Call (.Name "range" pn) [ea, eb] [] pos) (tS m p X.K W (.range2 a b)) :=
  pi_imp (pi_range2 hg hm (pa_cons ha (pa_cons hb pa_nil (starEach_ne _ hs2)) (starEach_ne _ hs)) (by rw [starEach_ne _ hs, starEach_ne _ hs2]; rfl) (by rw [starEach_ne _ hs2]; rfl)) fun σ H R ⟨ρ, os, o, A, h⟩ => tE_of A h fun x o1 os1 H1 vx P1 A1 r1 h1 => tE_of A1 h1 fun y o2 os2 H2 vy P2 A2 r2 h2 => by
    cases x with
    | int i =>
      cases y with
      | int j =>
        obtain rfl := r1.int
        obtain rfl := r2.int
        have h2 : Out p X.K W σ os2 H2 (if rngOk i && rngOk j then Res.ok (rangeD i j) o2 else .stuck) _ := h2
        split at h2
        · rename_i hz
          unfold rngOk at hz
          simp only [Bool.and_eq_true, decide_eq_true_eq] at hz
          exact ⟨i, j, rfl, ⟨hz.1.1, hz.1.2, hz.2.1, hz.2.2⟩, h2.ok A2.obs _ (yl_range rfl)⟩
        · exact h2.elim
      | _ => exact h2.elim
    | _ => exact h2.elim
theorem gs_zip {m : Bool} {pn tpos : Pos} {elts : List Expr} {kk : Nat} (hg : Gl X "zip") (hm : X.mg "zip" = none) (ha : PE X ea (tX m p X.K W a)) (hb : PE X eb (tX m p X.K W b)) (hs : ∀ x y, ea ≠ .Starred x y) (hs2 : ∀ x y, eb ≠ .Starred x y) :
    PI X (.Tuple elts kk tpos) (.Call (.Name "zip" pn) [ea, eb] [] pos) (tS m p X.K W (.zip a b)) :=
  pi_imp (pi_zips hg hm (pa_cons ha (pa_cons hb pa_nil (starEach_ne _ hs2)) (starEach_ne _ hs)) (starEach_ne _ hs) (by rw [starEach_ne _ hs2]; rfl)) fun σ H R ⟨ρ, os, o, A, h⟩ => tX_of A h fun x o1 os1 H1 vx P1 A1 r1 h1 => tX_of A1 h1 fun y o2 os2 H2 vy P2 A2 r2 h2 => by
    have r1' := RepM.post P2 A1.obs r1
    cases x with
    | lst xs =>
      cases y with
      | lst ys =>
        obtain ⟨q, vs, rfl, e2, e3, e4⟩ := RepM.sq (T := p.T) r1' A2.obs
        obtain ⟨q', vs', rfl, e2', e3', e4'⟩ := RepM.sq (T := p.T) r2 A2.obs
        exact ⟨q, q', vs, vs', rfl, .inl ⟨e2, e2', h2.ok A2.obs _ (yl_zipL A2.obs e3 e3' e4 e4')⟩⟩
      | _ => exact h2.elim
    | tup xs =>
      cases y with
      | tup ys =>
        obtain ⟨q, vs, rfl, e2, e3⟩ := RepM.tup r1'
        obtain ⟨q', vs', rfl, e2', e3'⟩ := RepM.tup r2
        exact ⟨q, q', vs, vs', rfl, .inr ⟨e2, e2', h2.ok A2.obs _ (yl_zipT A2.obs e3 e3' e2 e2')⟩⟩
      | _ => exact h2.elim
    | _ => exact h2.elim
theorem gs_enum {m : Bool} {pn tpos : Pos} {elts : List Expr} {kk : Nat} (hg : Gl X "enumerate") (hm : X.mg "enumerate" = none) (ha : PE X ea (tX m p X.K W a)) (hs : ∀ x y, ea ≠ .Starred x y) :
    PI X (.Tuple elts kk tpos) (.Call (.Name "enumerate" pn) [ea] [] pos) (tS m p X.K W (.enum a)) :=
  pi_imp (pi_enum hg hm (pa_cons ha pa_nil (starEach_ne _ hs)) (by rw [starEach_ne _ hs]; rfl)) fun σ H R ⟨ρ, os, o, A, h⟩ => tX_of A h fun x o1 os1 H1 vx P1 A1 r1 h1 => by
    cases x with
    | lst ds =>
      obtain ⟨q, xs, rfl, h2, h3, h4⟩ := RepM.sq (T := p.T) r1 A1.obs
      exact ⟨q, xs, rfl, h2, h1.ok A1.obs _ (yl_enum A1.obs h3 h4)⟩
    | _ => exact h1.elim
end
end Ev

set_option maxHeartbeats 2000000
/-! EvIh: a comprehension over a list or a tuple, while an exception is handled. -/
namespace Ev
open PySem PySem.Spec PyProof.Rows L2 HotX L2H

/-! ### the ends of iterators -/
section
variable {prog : Program} {w : World} {A : Around} {E : Value → Shared → Prop} {s : Shared}
theorem list_end_hot {z q hx : Addr} {i : Nat} {items : Array Value} {Q : Option Value → Shared → Prop} (hot : HotAt A hx s.heap) (hz : hx ≠ z) (st : s.heap.IsListIter z q i) (hl : s.heap.IsList q items) (no : items[i]? = none)
    (hQ : ∀ g', Heap.ExtBut z s.heap g' → Q none { s with heap := g' }) : wpAny (model prog w) A (pyNext (.ref z)) Q E s := by
  obtain ⟨oz, gz, _, dz⟩ := id st
  obtain ⟨oq, gq, _, nq, dq⟩ := hl
  obtain ⟨hh, ox, vx, gx, dx, cx⟩ := hot
  unfold pyNext
  refine wpAny_bind (wpAny_attempt (wpAny_callSpecial?_slot (name := Str.ofString "__next__") st.typeIs slot_listiter_next (wpAny_call_entry slot_listiter_next st.typeIs entry_listiter_next ?_ (args_listiter_next _))))
  show wpAny _ _ (field (.ref z) 0 >>= _) _ _ s
  refine wpAny_bind (wpAny_field gz dz (x := .ref q) rfl ?_)
  show wpAny _ _ (if (Value.ref q == Value.none) = true then _ else _) _ _ s
  rw [if_neg (show ¬ ((Value.ref q == Value.none) = true) from Bool.false_ne_true)]
  show wpAny _ _ (field (.ref z) 1 >>= _) _ _ s
  refine wpAny_bind (wpAny_field gz dz (x := .int i 0) rfl ?_)
  show wpAny _ _ (seqItems? (.ref q) >>= _) _ _ s
  refine wpAny_bind (wpAny_seqItems gq dq ?_)
  simp only [Int.toNat_natCast, no]
  refine wpAny_bind (wpAny_rule (wpAny_bind (wpAny_setField gz dz (by simp) ?_)))
  show wpAny _ _ (newExc (.type "StopIteration") [] >>= _) _ _ _
  refine wpAny_bind ?_
  simp only [newExc, newTuple]
  refine wpAny_bind (wpAny_newObj_type ?_ (by size_fits))
  refine wpAny_bind (m := firstArgMember _ _) (wpAny_of_eq (a := Value.none) (by first | rfl | (simp only [firstArgMember]; rfl)) ?_)
  refine wpAny_newObj_type ?_ (by size_fits)
  have gx1 : (s.heap.update z (Obj.mapFields (·.setIfInBounds 0 Value.none))).get? hx = some ox := (Heap.get?_update_other _ _ hz.symm).trans gx
  refine raiseNew_hot ⟨hh, ox, vx, Heap.get?_push_of_some _ (Heap.get?_push_of_some _ gx1), dx, cx⟩ (Nat.ne_of_lt (Heap.lt_size (Heap.get?_push_of_some _ gx1))) (Heap.get?_push_size _ rfl) rfl (by first | (simp; done) | (simp; omega) | (simp only [Array.size_append]; simp; omega)) ?_
  refine wpAny_bind (wpAny_isInstance (T := "StopIteration") (b := true) ⟨_, Heap.get?_update_self _ (Heap.get?_push_size _ rfl) rfl, rfl⟩ isSubtype_stop (wpAny_pure (hQ _ fun b o hb e => ?_)))
  have e1 : (s.heap.update z (Obj.mapFields (·.setIfInBounds 0 Value.none))).get? b = some o := (Heap.get?_update_other _ _ (Ne.symm hb)).trans e
  rw [Heap.get?_update_other _ _ (Nat.ne_of_gt (Heap.lt_size (Heap.get?_push_of_some _ e1)))]
  exact Heap.get?_push_of_some _ (Heap.get?_push_of_some _ e1)
theorem tuple_end_hot {z q hx : Addr} {i : Nat} {items : Array Value} {Q : Option Value → Shared → Prop} (hot : HotAt A hx s.heap) (hz : hx ≠ z) (st : IsTupIter s.heap z q i) (hl : IsTup s.heap q items) (no : items[i]? = none)
    (hQ : ∀ g', Heap.ExtBut z s.heap g' → Q none { s with heap := g' }) : wpAny (model prog w) A (pyNext (.ref z)) Q E s := by
  obtain ⟨oz, gz, _, dz⟩ := id st
  obtain ⟨oq, gq, _, nq, dq⟩ := hl
  obtain ⟨hh, ox, vx, gx, dx, cx⟩ := hot
  unfold pyNext
  refine wpAny_bind (wpAny_attempt (wpAny_callSpecial?_slot (name := Str.ofString "__next__") st.typeIs slot_tupleiter_next (wpAny_call_entry slot_tupleiter_next st.typeIs entry_tupleiter_next ?_ (args_tupleiter_next _))))
  show wpAny _ _ (field (.ref z) 0 >>= _) _ _ s
  refine wpAny_bind (wpAny_field gz dz (x := .ref q) rfl ?_)
  show wpAny _ _ (if (Value.ref q == Value.none) = true then _ else _) _ _ s
  rw [if_neg (show ¬ ((Value.ref q == Value.none) = true) from Bool.false_ne_true)]
  show wpAny _ _ (field (.ref z) 1 >>= _) _ _ s
  refine wpAny_bind (wpAny_field gz dz (x := .int i 0) rfl ?_)
  show wpAny _ _ (seqItems? (.ref q) >>= _) _ _ s
  refine wpAny_bind (wpAny_seqItems gq dq ?_)
  simp only [Int.toNat_natCast, no]
  refine wpAny_bind (wpAny_rule (wpAny_bind (wpAny_setField gz dz (by simp) ?_)))
  show wpAny _ _ (newExc (.type "StopIteration") [] >>= _) _ _ _
  refine wpAny_bind ?_
  simp only [newExc, newTuple]
  refine wpAny_bind (wpAny_newObj_type ?_ (by size_fits))
  refine wpAny_bind (m := firstArgMember _ _) (wpAny_of_eq (a := Value.none) (by first | rfl | (simp only [firstArgMember]; rfl)) ?_)
  refine wpAny_newObj_type ?_ (by size_fits)
  have gx1 : (s.heap.update z (Obj.mapFields (·.setIfInBounds 0 Value.none))).get? hx = some ox := (Heap.get?_update_other _ _ hz.symm).trans gx
  refine raiseNew_hot ⟨hh, ox, vx, Heap.get?_push_of_some _ (Heap.get?_push_of_some _ gx1), dx, cx⟩ (Nat.ne_of_lt (Heap.lt_size (Heap.get?_push_of_some _ gx1))) (Heap.get?_push_size _ rfl) rfl (by first | (simp; done) | (simp; omega) | (simp only [Array.size_append]; simp; omega)) ?_
  refine wpAny_bind (wpAny_isInstance (T := "StopIteration") (b := true) ⟨_, Heap.get?_update_self _ (Heap.get?_push_size _ rfl) rfl, rfl⟩ isSubtype_stop (wpAny_pure (hQ _ fun b o hb e => ?_)))
  have e1 : (s.heap.update z (Obj.mapFields (·.setIfInBounds 0 Value.none))).get? b = some o := (Heap.get?_update_other _ _ (Ne.symm hb)).trans e
  rw [Heap.get?_update_other _ _ (Nat.ne_of_gt (Heap.lt_size (Heap.get?_push_of_some _ e1)))]
  exact Heap.get?_push_of_some _ (Heap.get?_push_of_some _ e1)
/-- a tuple is taken apart -/
theorem apart_hot {t hx : Addr} {items : Array Value} {Q : List Value → Shared → Prop} (hot : HotAt A hx s.heap) (ht : IsTup s.heap t items)
    (hQ : ∀ g', Heap.ExtBut s.heap.objs.size s.heap g' → Q items.toList { s with heap := g' }) : wpAny (model prog w) A (unpackItems (.ref t) items.size none) Q E s := by
  have ht0 : t ≠ s.heap.objs.size := by
    obtain ⟨o, ho, _⟩ := ht
    exact Nat.ne_of_lt (Heap.lt_size ho)
  obtain ⟨hh, ox, vx, gx, dx, cx⟩ := hot
  have hx0 : hx ≠ s.heap.objs.size := Nat.ne_of_lt (Heap.lt_size gx)
  unfold unpackItems
  refine wpAny_bind ?_
  unfold notIterableAtAll
  refine wpAny_bind (wpAny_specialOf ht.typeIs slot_tuple_iter.lookup ?_)
  refine wpAny_pure ?_
  simp only [Bool.false_eq_true, if_false]
  refine wpAny_bind (wpAny_holding (iter_tuple ht ?_))
  refine wpAny_bind (wpAny_holding (draw_tuple ht0 items.size 0 _ _ ⟨_, Heap.get?_push_size _ rfl, rfl, rfl⟩ (ht.push _) (by omega) fun g1 st1 sb1 => ?_))
  have all : List.take items.size (List.drop 0 items.toList) = items.toList := by
    rw [List.drop_zero]
    exact List.take_of_length_le (by simp)
  rw [all, if_neg (by simp)]
  have gx1 : g1.get? hx = some ox := (sb1.2 hx hx0).trans (Heap.get?_push_of_some _ gx)
  refine wpAny_bind (wpAny_holding (tuple_end_hot ⟨hh, ox, vx, gx1, dx, cx⟩ hx0 st1 ((ht.push _).extBut sb1.extBut ht0) (by simp) fun g2 e2 => ?_))
  simp only [Option.isSome_none, Bool.false_eq_true, if_false]
  exact wpAny_pure (hQ g2 fun b o hb e => e2 b o hb (sb1.extBut b o hb (Heap.get?_push_of_some _ e)))
end
section
variable {X : Cx} {pins : List (Addr × Obj)} {H : Hp} {s : Shared} {p : Pm} {K : PySem.W.Frag} {W : WX} {os : List Addr} {o : Objs} {σ : L2.St} {ρ : Frm} {ea tg : Expr} {a : IE} {pos : Pos}
/-- (a, b, ..) = a tuple, in an except suite -/
theorem pg_tupH {es : List Expr} {k : Nat} {t : TGs} {n : Nat} (hc : HotC X) (h : PGs X es t) (hn : (assignEach es X.env).length = n) (hst : (assignEach es X.env).findIdx? (·.1) = none) : PG X (.Tuple es k pos) (gTup X.K n t) := by
  constructor
  rintro pins s σ H v u Q I r ⟨a, xs, rfl, hq, hl, hw⟩
  cases r
  obtain ⟨its, rv, ht, _⟩ := I.tuple hq
  obtain ⟨hx, hot⟩ := hc.at I
  rw [assign_Tuple]
  refine wpAny_bind (wpAny_standAt ?_)
  unfold unpack
  have hlen : (assignEach es X.env).length = its.toArray.size := by rw [hn, ← hl, rv.length, List.size_toArray]
  rw [hst, hlen]
  refine wpAny_bind (wpAny_holding (apart_hot hot ht fun g' e' => ?_))
  exact h.run pins { s with heap := g' } σ H xs _ Q (I.kept (t' := s.toks) fun b o e => e' b o (Nat.ne_of_lt (Heap.lt_size e)) e) (by simpa using rv) hw
end
end Ev

set_option maxHeartbeats 2000000
/-! EvIi: a comprehension while an exception is handled: the block and its loop (the library's own one asks for calm; the way follows it). -/
namespace Ev
open PySem PySem.Spec PyProof.Rows L2 HotX L2H

/-! ### what is walked -/
section
variable {X : Cx} {tg : Expr}
theorem turn_listH {P : Program} {w : World} {K : PySem.W.Frag} (a it : Addr) : TurnH P w K tg (Itl K a) [it] it (fun i h => h.IsListIter it a i) where
  mem := List.mem_singleton_self it
  obj := fun i h st b hb => by
    rw [List.mem_singleton.mp hb]
    obtain ⟨o, g, _, d⟩ := st
    exact ⟨o, g, fun v z => by rw [d] at z; cases z⟩
  keep := fun i h h' st k => st.at fun o e => k it (List.mem_singleton_self it) o e
  item := by
    rintro X rfl rfl rfl hc i pins s σ H E I hf st ⟨xs, x, hq, hx⟩
    obtain ⟨ws, rv, pl, _⟩ := I.list hq
    obtain ⟨u, hu, ru⟩ := rv.get hx
    obtain ⟨f0, f1, f2, f3, f4, f5⟩ := hf it (List.mem_singleton_self it)
    refine wpAny_pyNext_list_item st pl.isList (x := u) (by simpa using hu) fun g st2 sb => ⟨u, rfl, ?_⟩
    obtain ⟨o, e, c, d⟩ := id st2
    refine go_of (s := { s with heap := g }) e c d (by decide) ⟨x, H, I.turned (t' := s.toks) (fun b o hb e => (sb.2 b hb).trans e) f0 f1 f3 f4 f5, ru, ⟨rfl, fun ys hy => ?_⟩, st2, fun b hb => (hf b hb).1⟩
    have I1 : Inv X pins σ H { s with heap := g } := I.turned (t' := s.toks) (fun b o hb e => (sb.2 b hb).trans e) f0 f1 f3 f4 f5
    rw [I1.list_inj hy hq]
    exact hx
  done := by
    rintro X rfl rfl rfl hc i pins s σ H E I hf st ⟨xs, hq, hx⟩
    obtain ⟨ws, rv, pl, _⟩ := I.list hq
    obtain ⟨f0, f1, f2, f3, f4, f5⟩ := hf it (List.mem_singleton_self it)
    obtain ⟨p, hp1, hp2⟩ := hc
    obtain ⟨hx1, hot⟩ := HotC.at ⟨p, hp1, hp2⟩ I
    have e1 : hx1 = p.1 := by
      have z := hot.1.symm.trans hp1.1
      exact Value.ref.inj (Option.some.inj z)
    have hl := rv.length
    exact list_end_hot hot (by rw [e1]; exact f5 p (List.mem_append_left _ hp2)) st pl.isList (by simp; omega) fun g eb => ⟨rfl, I.turned (t' := s.toks) (fun b o hb e => eb b o hb e) f0 f1 f3 f4 f5⟩
  self := fun _ _ _ _ _ st h => wpAny_pyIter_listiter st h
theorem turn_tupleH {P : Program} {w : World} {K : PySem.W.Frag} (a it : Addr) : TurnH P w K tg (Itt K a) [it] it (fun i h => h.IsTupleIter it a i) where
  mem := List.mem_singleton_self it
  obj := fun i h st b hb => by
    rw [List.mem_singleton.mp hb]
    obtain ⟨o, g, _, d⟩ := st
    exact ⟨o, g, fun v z => by rw [d] at z; cases z⟩
  keep := fun i h h' st k => st.at fun o e => k it (List.mem_singleton_self it) o e
  item := by
    rintro X rfl rfl rfl hc i pins s σ H E I hf st ⟨xs, x, hq, hx⟩
    obtain ⟨ws, rv, pl, _⟩ := I.tuple hq
    obtain ⟨u, hu, ru⟩ := rv.get hx
    obtain ⟨f0, f1, f2, f3, f4, f5⟩ := hf it (List.mem_singleton_self it)
    refine next_tuple_item st pl (x := u) (by simpa using hu) fun g st2 sb => ⟨u, rfl, ?_⟩
    obtain ⟨o, e, c, d⟩ := id st2
    refine go_of (s := { s with heap := g }) e c d (by decide) ⟨x, H, I.turned (t' := s.toks) (fun b o hb e => (sb.2 b hb).trans e) f0 f1 f3 f4 f5, ru, ⟨rfl, fun ys hy => ?_⟩, st2, fun b hb => (hf b hb).1⟩
    have I1 : Inv X pins σ H { s with heap := g } := I.turned (t' := s.toks) (fun b o hb e => (sb.2 b hb).trans e) f0 f1 f3 f4 f5
    rw [I1.tuple_inj hy hq]
    exact hx
  done := by
    rintro X rfl rfl rfl hc i pins s σ H E I hf st ⟨xs, hq, hx⟩
    obtain ⟨ws, rv, pl, _⟩ := I.tuple hq
    obtain ⟨f0, f1, f2, f3, f4, f5⟩ := hf it (List.mem_singleton_self it)
    obtain ⟨p, hp1, hp2⟩ := hc
    obtain ⟨hx1, hot⟩ := HotC.at ⟨p, hp1, hp2⟩ I
    have e1 : hx1 = p.1 := by
      have z := hot.1.symm.trans hp1.1
      exact Value.ref.inj (Option.some.inj z)
    have hl := rv.length
    exact tuple_end_hot hot (by rw [e1]; exact f5 p (List.mem_append_left _ hp2)) st pl (by simp; omega) fun g eb => ⟨rfl, I.turned (t' := s.toks) (fun b o hb e => eb b o hb e) f0 f1 f3 f4 f5⟩
  self := fun _ _ _ _ _ st h => wpAny_pyIter_tupleiter st h
theorem pi_oneH {pins : List (Addr × Obj)} {σ : L2.St} {H : Hp} {s : Shared} {R : It → Hp → Prop} {J : It} {tn : Nat → Heap → Prop} {tk : Nat} (I : Inv X pins σ H s) (o : Obj)
    (T : TurnH X.prog X.w X.K tg J [s.heap.objs.size] s.heap.objs.size tn) (st : tn 0 (s.heap.push o)) (q : R J H) : PIEH X pins σ tg R (.ref s.heap.objs.size) { s with heap := s.heap.push o, toks := tk } :=
  ⟨_, _, tn, J, H, rfl, I.kept fun b ob e => Heap.get?_push_of_some _ e, T, st, fun b hb => by rw [List.mem_singleton.mp hb]; exact I.fpOk (Nat.le_refl _) (I.hok.fresh (Nat.le_refl _)), q⟩
theorem pi_seqH {l : Expr} {tl : TE} (hl : PE X l tl) : PIH X tg l (fun σ H R => tl σ H fun x H1 => ∃ a xs, x = .ref a ∧ ((SqL X.K H1 a xs ∧ R (Itl X.K a) H1) ∨ (SqT X.K H1 a xs ∧ R (Itt X.K a) H1))) := by
  constructor
  intro pins s σ H R I h
  refine thn (hl.run pins s σ H _ I h) ?_
  rintro v s1 ⟨x, H1, I1, r1, b, xs, rfl, q⟩
  cases r1
  rcases q with ⟨hq, q⟩ | ⟨hq, q⟩
  · obtain ⟨ws, _, pl, _⟩ := I1.list hq
    exact wpAny_pyIter_list pl.isList (pi_oneH (tk := s1.toks) I1 _ (turn_listH b _) ⟨_, Heap.get?_push_size _ rfl, rfl, rfl⟩ q)
  · obtain ⟨ws, _, pl, _⟩ := I1.tuple hq
    exact wpAny_pyIter_tuple (items := ws.toArray) pl (pi_oneH (tk := s1.toks) I1 _ (turn_tupleH b _) ⟨_, Heap.get?_push_size _ rfl, rfl, rfl⟩ q)
theorem pih_imp {e : Expr} {t t' : TI} (h : PIH X tg e t) (m : ∀ σ H Q, t' σ H Q → t σ H Q) : PIH X tg e t' := ⟨fun pins s σ H Q I q => h.run pins s σ H Q I (m σ H Q q)⟩
end

/-! ### the block -/
abbrev blkH (X : Cx) (p : Addr × Obj) (s : Shared) (H : Hp) (scope : Scope) (cenv : Env) (fp : List Addr) : Cx := { X.blk s H scope cenv fp with pn := [p] }
theorem inv_blkH {X : Cx} {p : Addr × Obj} {s s' : Shared} {H H' : Hp} {scope : Scope} {cenv : Env} {fp : List Addr} {σ : L2.St} (I : Inv (X.blk s H scope cenv fp) [] σ H' s')
    (hp : s'.heap.get? p.1 = some p.2 ∧ H' p.1 = none ∧ p.1 ≠ cenv.locals ∧ p.1 ∉ frs X.stack ∧ ∀ v, p.2.data ≠ .cell v) : Inv (blkH X p s H scope cenv fp) [] σ H' s' :=
  ⟨⟨I.ok.mod, I.ok.kind, I.ok.glob, I.ok.blt, I.ok.above, I.ok.inj, I.ok.has, I.ok.cab, I.ok.hd, I.ok.frames, I.ok.stk, I.ok.exf, I.ok.bs, I.ok.bsz, I.ok.noex, I.ok.exfs, I.ok.funs, I.ok.frf⟩, I.os, I.bare, I.base, I.loc, I.cell, I.free, I.freeC,
    fun q hq => by
      have e : q = p := by simpa using hq
      rw [e]
      exact hp, I.hok, I.len⟩
/-- the block's state ahead of a turn -/
structure Ring (Y : Cx) (fp : List Addr) (tn : Nat → Heap → Prop) (τ : L2.St) (i : Nat) (H : Hp) (s : Shared) : Prop where
  inv : Inv Y [] τ H s
  at_ : tn i s.heap
  own : ∀ b ∈ fp, H b = none
/-- one turn -/
theorem ring_turn {Y : Cx} {tg elt : Expr} {ifs : List Expr} {g : TG} {tt : TT} {te : TE} {J : It} {fp : List Addr} {it D : Addr} {tn : Nat → Heap → Prop} {τ : L2.St} {vs : List Nat} {i : Nat} {H : Hp} {s : Shared} {Nx : Hp → Prop} {Fin R : Shared → Prop} {E : Value → Shared → Prop}
    (T : TurnH Y.prog Y.w Y.K tg J fp it tn) (hc : HotC Y) (pg : PG Y tg g) (pt : PTs Y ifs tt) (pe : PE Y elt te) (hxe : ∀ u t, Y.xe u t → False) (hfp : ∀ {H' : Hp} {s' : Shared}, Inv Y [] τ H' s' → (∀ b ∈ fp, H' b = none) → ∀ b ∈ fp, FpOk Y [] H' b)
    (C : Ring Y fp tn τ i H s) (go : J.go i H)
    (step : ∀ x H', J.yld i H x H' → g x τ H' fun σ2 H2 => wipe σ2 vs = τ ∧ tt σ2 H2 fun b H3 => if b = true then te σ2 H3 fun y H4 => ∃ acc, H4 D = some (.lst acc) ∧ acc.length < sizeLine ∧ Nx (upd H4 D (.lst (acc ++ [y]))) else Nx H3)
    (fin : ∀ H' s', Ring Y fp tn τ (i + 1) H' s' → Nx H' → Fin s') :
    wpAny (model Y.prog Y.w) Y.A (pyNext (.ref it)) (fun r s₁ => match r with
      | none => R s₁
      | some v => wpAny (model Y.prog Y.w) Y.A (letOwnedTupleGo tg (.ref it) v) (fun _ t₁ => wpAny (model Y.prog Y.w) Y.A (assign tg Y.env v) (fun _ t₂ =>
          wpAny (model Y.prog Y.w) Y.A (forIn ifs true fun c r => if r = true then do let ok ← isTrue c Y.env (eval c Y.env); pure (ForInStep.yield ok) else pure (ForInStep.yield r)) (fun ok t₃ =>
            if ok = true then wpAny (model Y.prog Y.w) Y.A (eval elt Y.env) (fun x t₄ => wpAny (model Y.prog Y.w) Y.A (call (.builtin "list.append") [.ref D, x]) (fun _ t₅ => Fin t₅) E t₄) E t₃ else Fin t₃) E t₂) E t₁) E s₁) E s := by
  have un : ∀ {α : Type} {m : Sem α} {Q Q' : α → Shared → Prop} {t : Shared}, wpAny (model Y.prog Y.w) Y.A m Q Y.xe t → (∀ a t', Q a t' → Q' a t') → wpAny (model Y.prog Y.w) Y.A m Q' E t := fun {α m Q Q' t} h k => wpAny_mono h k fun u t' z => (hxe u t' z).elim
  refine thnF (T.item Y rfl rfl rfl hc i [] s τ H (fun _ _ => False) C.inv (hfp C.inv C.own) C.at_ go) ?_
  rintro r t1 ⟨u, rfl, q1⟩
  refine thnF q1 ?_
  rintro _ t2 ⟨x, H2, I2, r2, y2, a2, o2⟩
  refine un (pg.run _ t2 τ H2 x u _ (I2.pinned (hfp I2 o2) (T.obj _ _ a2)) r2 (step x H2 y2)) ?_
  rintro _ t3 ⟨σ3, H3, I3, hw3, q3⟩
  have close : ∀ {t : Shared} {Ht : Hp}, Inv Y ([] ++ pinsAt fp t2.heap) σ3 Ht t → Nx Ht → Fin t := fun {t Ht} It nx => by
    have pn : ∀ b ∈ fp, ∀ o, t2.heap.get? b = some o → t.heap.get? b = some o ∧ Ht b = none := fun b hb o e =>
      let z := It.pin (b, o) (List.mem_append_right _ (List.mem_append_right _ (mem_pinsAt hb e)))
      ⟨z.1, z.2.1⟩
    refine fin Ht t ⟨(It.unpinned (pins := [])).weak (by rw [← hw3, wipe_length]) fun j v e => ?_, T.keep _ _ _ a2 fun b hb o e => (pn b hb o e).1, fun b hb => ?_⟩ nx
    · rw [← hw3] at e
      exact (wipe_some e).1
    · obtain ⟨o, e, _⟩ := T.obj _ _ a2 b hb
      exact (pn b hb o e).2
  refine un (pt.run _ t3 σ3 H3 _ I3 q3) ?_
  rintro b t4 ⟨H4, I4, q4⟩
  cases b with
  | false =>
    rw [if_neg Bool.false_ne_true] at q4 ⊢
    exact close I4 q4
  | true =>
    rw [if_pos rfl] at q4 ⊢
    refine un (pe.run _ t4 σ3 H4 _ I4 q4) ?_
    rintro v t5 ⟨y, H5, I5, r5, acc, h5, z5, nx⟩
    exact app_ok (X := Y) I5 h5 z5 r5 fun t6 I6 => close I6 nx
section
variable {X : Cx} {pins : List (Addr × Obj)} {σ : L2.St} {H : Hp} {s : Shared} {p : Addr × Obj} {elt tg iter : Expr} {ifs : List Expr} {scope : Scope} {own : List (Str × Nat)} {wi : TI} {g : TG} {tt : TT} {te : TE}
/-- what the parts of a comprehension keep in its block -/
structure BlkParts (X : Cx) (p : Addr × Obj) (elt tg : Expr) (ifs : List Expr) (scope : Scope) (g : TG) (tt : TT) (te : TE) : Prop where
  tg : ∀ (s : Shared) (H : Hp) (C : Addr) (cl : List (Str × Addr)) (fp : List Addr), PG (blkH X p s H scope (compEnvC scope cl C X.env) fp) tg g
  ifs : ∀ (s : Shared) (H : Hp) (C : Addr) (cl : List (Str × Addr)) (fp : List Addr), PTs (blkH X p s H scope (compEnvC scope cl C X.env) fp) ifs tt
  elt : ∀ (s : Shared) (H : Hp) (C : Addr) (cl : List (Str × Addr)) (fp : List Addr), PE (blkH X p s H scope (compEnvC scope cl C X.env) fp) elt te
theorem lc_hot {Q : VK} {pos pos' : Pos} {use : Option (Value → Sem Unit)} {Qf : Value → Shared → Prop} (h1 : Hot1 X.A p) (h2 : p ∈ X.pn) (hN : X.N.Nodup) (I : Inv X pins σ H s) (hi : PIH X tg iter wi) (ok : BlkOk X.N X.env.scope scope own) (B : BlkParts X p elt tg ifs scope g tt te)
    (hs : ∀ x, foldedSetIterable iter X.env x = pure x) (h : tLc wi g tt te (own.map (·.2)) σ H Q)
    (back : ∀ D C s' m H', Inv X pins σ H' s' → Q (.ref D) H' → s'.heap.Ns C m → FpOk X pins H' C → compPost (model X.prog X.w) X.A X.xe use Qf (.ref D) C (.ok .next) s') :
    wpAny (model X.prog X.w) X.A (comprehension (.ListComp elt [⟨tg, iter, ifs, 0⟩] scope pos) scope X.env pos' (newList []) false (eval iter X.env) use) Qf X.xe s := by
  refine wpAny_comprehension_free (use := use) rfl hs (closure_ok fun y hy e => (ok.free y hy e).elim (fun k => I.ok.has _ (.inl k)) fun k => I.ok.has _ (.inr k)) ok.kind (fun y hy e => by rw [ok.uniq y hy, e]) ?_
  refine thn (hi.run pins s σ H _ I h) fun xv sA hA => thn hA ?_
  rintro _ sB ⟨it, fp, tn, J, HB, rfl, IB, T, stB, fB, q⟩
  refine wpAny_newObj_type (newEnv_comp ?_) (Nat.zero_le sizeLine)
  have hD0 : HB sB.heap.objs.size = none := IB.hok.fresh (Nat.le_refl _)
  obtain ⟨W, ⟨m0, w0⟩, turn⟩ := q sB.heap.objs.size hD0
  generalize eC : ({ sB with heap := sB.heap.push { cls := .type "list", data := .seq ([] : List Value).toArray } } : Shared) = sC
  have hC : sC.heap = sB.heap.push { cls := .type "list", data := .seq ([] : List Value).toArray } := by rw [← eC]
  generalize eD : sB.heap.objs.size = D at *
  have IC : Inv X pins σ (upd HB D (.lst [])) sC := by
    subst eC
    refine IB.laid (t' := sB.toks) (fun b o e => Heap.get?_push_of_some _ e) (Nat.le_of_eq eD) ⟨Nat.zero_le _, [], 0, .nil, ?_⟩
    subst eD
    exact Heap.get?_push_size _ rfl
  have fC : ∀ b ∈ fp, FpOk X pins (upd HB D (.lst [])) b ∧ b < sC.heap.objs.size := fun b hb => by
    obtain ⟨o, e, _⟩ := T.obj _ _ stB b hb
    have lt : b < D := by
      rw [← eD]
      exact Heap.lt_size e
    refine ⟨⟨?_, (fB b hb).2⟩, ?_⟩
    · rw [upd_ne (Nat.ne_of_lt lt)]
      exact (fB b hb).1
    · rw [hC, Heap.size_push, eD]
      exact Nat.lt_succ_of_lt lt
  generalize hHC : upd HB D (.lst []) = HC at IC fC w0
  generalize hn : sC.heap.objs.size = C at *
  have I4 := block_start IC ok hN (fun b hb => by rw [hn]; exact fC b hb)
  rw [hn] at I4
  have keep4 : ∀ b o, sB.heap.get? b = some o → (pushCells (sC.heap.push { cls := .type "dict", data := .dict #[] }) scope.names).get? b = some o := fun b o e => pushCells_keeps _ _ _ _ (Heap.get?_push_of_some _ (by rw [hC]; exact Heap.get?_push_of_some _ e))
  have keepC : ∀ b o, sC.heap.get? b = some o → (pushCells (sC.heap.push { cls := .type "dict", data := .dict #[] }) scope.names).get? b = some o := fun b o e => pushCells_keeps _ _ _ _ (Heap.get?_push_of_some _ e)
  have pg := B.tg sC HC C (cellsFrom (C + 1) scope.names (cloFrom X.env.cells scope.names [])) fp
  have pt := B.ifs sC HC C (cellsFrom (C + 1) scope.names (cloFrom X.env.cells scope.names [])) fp
  have pe := B.elt sC HC C (cellsFrom (C + 1) scope.names (cloFrom X.env.cells scope.names [])) fp
  have start : Inv (blkH X p sC HC scope (compEnvC scope (cellsFrom (C + 1) scope.names (cloFrom X.env.cells scope.names [])) C X.env) fp) [] (wipe σ (own.map (·.2))) HC { sC with heap := pushCells (sC.heap.push { cls := .type "dict", data := .dict #[] }) scope.names } := by
    obtain ⟨p1, p2, p3, p4, p5⟩ := IC.pin p (List.mem_append_left _ h2)
    refine inv_blkH I4 ⟨keepC _ _ p1, p2, ?_, fun z => ?_, p5⟩
    · show p.1 ≠ C
      rw [← hn]
      exact Nat.ne_of_lt (Heap.lt_size p1)
    · rcases List.mem_cons.mp (IC.stkSub _ z) with z | z
      · exact p3 z
      · exact p4 z
  show codeAny _ _ (.compStart (.ListComp elt [⟨tg, iter, ifs, 0⟩] scope pos) 0 (.ref it) (.ref D) (compEnvC scope (cellsFrom (C + 1) scope.names (cloFrom X.env.cells scope.names [])) C X.env)) (compPost (model X.prog X.w) X.A X.xe use Qf (.ref D) C) { sC with heap := pushCells (sC.heap.push { cls := .type "dict", data := .dict #[] }) scope.names }
  generalize hce : compEnvC scope (cellsFrom (C + 1) scope.names (cloFrom X.env.cells scope.names [])) C X.env = ev at *
  have eL : ev.locals = C := by
    subst hce
    rfl
  have hotY : HotC (blkH X p sC HC scope ev fp) := ⟨p, h1, List.mem_singleton_self p⟩
  have hfp : ∀ {τ : L2.St} {H' : Hp} {s' : Shared}, Inv (blkH X p sC HC scope ev fp) [] τ H' s' → (∀ b ∈ fp, H' b = none) → ∀ b ∈ fp, FpOk (blkH X p sC HC scope ev fp) [] H' b := fun {τ H' s'} IY no b hb =>
    ⟨no b hb, (IY.ok.exf b hb).1, IY.ok.exfs b hb, .inl hb, (IY.ok.exf b hb).2, fun q hq => by
      have e : q = p := by simpa using hq
      rw [e]
      exact (fC b hb).1.2.2.2.2.2 p (List.mem_append_left _ h2)⟩
  have w1 : tn 0 (pushCells (sC.heap.push { cls := .type "dict", data := .dict #[] }) scope.names) := T.keep _ _ _ stB fun b _ o e => keep4 b o e
  have loop : codeAny (model X.prog X.w) X.A (.compLoop (.ListComp elt [⟨tg, iter, ifs, 0⟩] scope pos) 0 (.ref it) (.ref D) ev) (compPost (model X.prog X.w) X.A X.xe use Qf (.ref D) C) { sC with heap := pushCells (sC.heap.push { cls := .type "dict", data := .dict #[] }) scope.names } := by
    refine compLoop_any (fun n t => ∃ i Ht, Ring (blkH X p sC HC scope ev fp) fp tn (wipe σ (own.map (·.2))) i Ht t ∧ W i n Ht) ?_ m0 ⟨0, HC, ⟨start, w1, fun b hb => (fC b hb).1.1⟩, w0⟩
    rintro n t ⟨i, Ht, R, wt⟩
    rcases turn i n Ht wt with ⟨stop, qq⟩ | ⟨go, Nx, hNx, step⟩
    · refine thnF (T.done (blkH X p sC HC scope ev fp) rfl rfl rfl hotY i [] t _ Ht (fun _ _ => False) R.inv (hfp R.inv R.own) R.at_ stop) ?_
      rintro _ t1 ⟨rfl, I1⟩
      obtain ⟨m, hm, _⟩ := I1.loc
      have nC : Ht C = none := by
        rw [← eL]
        exact I1.free
      refine back D C t1 m Ht (IC.call' (ch := fp) I1.os I1.base I1.hok I1.bare fun b hb => ⟨(fC b hb).1.2.2.2.1, (fC b hb).1.2.1, (fC b hb).1.2.2.2.2.1, (fC b hb).1.2.2.2.2.2⟩) qq ?_ (IC.fpOk (Nat.le_of_eq hn) nC)
      rw [← eL]
      exact hm
    · exact ring_turn (Y := blkH X p sC HC scope ev fp) T hotY pg pt pe (fun _ _ z => z) hfp R go step fun H' s' R' nx => by
        obtain ⟨m', lt, w'⟩ := hNx H' nx
        exact ⟨m', lt, i + 1, H', R', w'⟩
  exact codeAny_compStart_list loop (T.self X.A 0 _ _ _ w1 loop)
theorem pe_lcH {pos : Pos} (h1 : Hot1 X.A p) (h2 : p ∈ X.pn) (hN : X.N.Nodup) (hi : PIH X tg iter wi) (ok : BlkOk X.N X.env.scope scope own) (B : BlkParts X p elt tg ifs scope g tt te) (hs : ∀ x, foldedSetIterable iter X.env x = pure x) :
    PE X (.ListComp elt [⟨tg, iter, ifs, 0⟩] scope pos) (tLc wi g tt te (own.map (·.2))) := by
  constructor
  intro pins s σ H Q I h
  rw [eval_ListComp]
  refine lc_hot h1 h2 hN I hi ok B hs h fun D C s' m H' I' q hn ⟨f0, f1, f2, f3, f4, f5⟩ => ⟨m, hn, fun g' sb => ⟨.ref D, H', I'.turned (t' := s'.toks) (fun b o hb e => ?_) f0 f1 f3 f4 f5, rfl, q⟩⟩
  rw [sb.2 b hb]
  exact e
theorem ps_setLcH {i : Nat} {y : Str} {py pos spos : Pos} (h1 : Hot1 X.A p) (h2 : p ∈ X.pn) (hN : X.N.Nodup) (hy : X.N[i]? = some y) (hyl : X.env.scope.names.lookup y = some .local)
    (hsw : swapsWith (.ListComp elt [⟨tg, iter, ifs, 0⟩] scope pos) (some (.Name y py)) spos.line X.env = pure true) (hi : PIH X tg iter wi) (ok : BlkOk X.N X.env.scope scope own) (B : BlkParts X p elt tg ifs scope g tt te) (hs : ∀ x, foldedSetIterable iter X.env x = pure x) :
    PS X (.Assign [.Name y py] (.ListComp elt [⟨tg, iter, ifs, 0⟩] scope pos) spos) (tAsg (tLc wi g tt te (own.map (·.2))) (gName i)) := by
  constructor
  intro pins s σ H Dn I h
  rw [exec_Assign_Name_used _ _ _ _ hsw]
  refine wpAny_bind (wpAny_standAt (wpAny_bind ?_))
  show wpAny _ X.A (do let _ ← comprehension (.ListComp elt [⟨tg, iter, ifs, 0⟩] scope pos) scope X.env (firstIterPos [⟨tg, iter, ifs, 0⟩] pos) (newList []) false (eval iter X.env) (some (assign (.Name y py) X.env))) _ _ s
  have h : tLc wi g tt te (own.map (·.2)) σ H (fun x Hx => gName i x σ Hx Dn.nx) := h
  refine wpAny_bind (thn (lc_hot (Qf := fun _ t => SP X pins Dn .next t) h1 h2 hN I hi ok B hs h fun L C t m Ht It q hn ⟨f0, f1, f2, f3, f4, f5⟩ => ?_) fun _ t hq => wpAny_pure (wpAny_pure hq))
  refine wpAny_assign_Name (store_ok2 (v := V.ref L) It hN hy (.inl hyl) rfl (fun t2 I2 ⟨a, sb, ha⟩ => ⟨m, hn.sameBut sb ?_, fun t3 sb3 => ⟨_, Ht, I2.turned (t' := t2.toks) (fun b o hb e => (sb3.2 b hb).trans e) f0 f1 f3 f4 f5, q⟩⟩) (.inr hyl))
  rcases ha with z | z
  · rw [z]
    exact f1
  · exact fun e => f4 y a z e.symm
end
section
variable {X : Cx} {p : Pm} {K : PySem.W.Frag} {W : WX} {ea tg : Expr} {a : IE}
theorem gs_seqH {m : Bool} (h : PE X ea (tX m p X.K W a)) : PIH X tg ea (tS m p X.K W (.seq a)) := pih_imp (pi_seqH h) fun σ H R ⟨ρ, os, o, A, h⟩ => tX_of A h fun x o1 os1 H1 vx P1 A1 r1 h1 => by
  cases x with
  | tup ds =>
    obtain ⟨q, xs, rfl, z1, z2⟩ := RepM.tup r1
    exact ⟨q, xs, rfl, .inr ⟨z1, h1.ok A1.obs _ (yl_tup A1.obs z2 z1)⟩⟩
  | lst ds =>
    obtain ⟨q, xs, rfl, z1, z2, z3⟩ := RepM.sq (T := p.T) r1 A1.obs
    exact ⟨q, xs, rfl, .inl ⟨z1, h1.ok A1.obs _ (yl_list A1.obs z2 z3)⟩⟩
  | _ => exact h1.elim
end
end Ev

set_option maxHeartbeats 2000000
/-! EvJ: the context's facts; targets; the comprehension. -/
namespace Ev
open PySem PySem.Spec PyProof.Rows L2

/-- the context X is of the scope Γ -/
structure Fits (X : Cx) (Γ : Scp) : Prop where
  N : X.N = Γ.N
  nd : Γ.N.Nodup
  kind : Γ.sc.kind = .function
  sc : X.env.scope = Γ.sc
  un : X.A.units + 64 < cLine
  calm : Γ.hot = false → X.calm = true
  hotc : Γ.hot = true → L2H.HotC X
  blt : ∀ x ∈ builtins, X.mg x = none
/-- what the context may store -/
def Sto (X : Cx) (Γ : Scp) (i : Nat) : Prop := ∀ x, Γ.N[i]? = some x → isLoc Γ.sc x = true → X.fn x = true ∨ X.env.scope.names.lookup x = some .local
section
variable {X : Cx} {p : Pm} {K : PySem.W.Frag} {W : WX} {Γ : Scp} {os : List Addr} {H : Hp} {o : Objs} {σ : L2.St} {ρ : Frm} {x : Str} {i : Nat}
theorem findIdx_get {α : Type} {f : α → Bool} : ∀ {l : List α} {i : Nat}, l.findIdx? f = some i → ∃ a, l[i]? = some a ∧ f a = true
  | a :: l, i, h => by
    rw [List.findIdx?_cons] at h
    cases hf : f a with
    | true =>
      rw [hf] at h
      cases h
      exact ⟨a, rfl, hf⟩
    | false =>
      rw [hf] at h
      simp only [Bool.false_eq_true, if_false] at h
      obtain ⟨j, e, rfl⟩ := Option.map_eq_some_iff.mp h
      obtain ⟨b, e1, e2⟩ := findIdx_get e
      exact ⟨b, by simpa using e1, e2⟩
theorem ixOf_some {N : List Str} (h : ixOf N x = some i) : N[i]? = some x := by
  obtain ⟨a, e1, e2⟩ := findIdx_get h
  rw [e1, of_decide_eq_true e2]
theorem isVis_vis {sc : Scope} (h : isVis sc x = true) : Vis sc x := by
  unfold isVis at h
  split at h
  · exact .inl (by assumption)
  · exact .inr (.inl (by assumption))
  · exact .inr (.inr (by assumption))
  · cases h
theorem isLoc_loc {sc : Scope} (h : isLoc sc x = true) : Loc sc x := by
  unfold isLoc at h
  split at h
  · exact .inl (by assumption)
  · exact .inr (by assumption)
  · cases h
theorem okName_d (h : okName x = true) : (x == ("__debug__" : Str)) = false ∧ (x == ("__classdict__" : Str)) = false ∧ x ≠ "__name__" := by
  unfold okName at h
  simp only [Bool.and_eq_true, Bool.not_eq_true'] at h
  exact ⟨h.1.1, h.1.2, fun e => by rw [e] at h; exact absurd h.2 (by decide)⟩
theorem cSlot_some (h : cSlot Γ x = some i) : Γ.N[i]? = some x ∧ Vis Γ.sc x ∧ okName x = true := by
  unfold cSlot at h
  split at h
  · rename_i q
    rw [Bool.and_eq_true] at q
    exact ⟨ixOf_some h, isVis_vis q.1, q.2⟩
  · cases h
theorem cStore_some (h : cStore Γ x = some i) : Γ.N[i]? = some x ∧ isLoc Γ.sc x = true ∧ okName x = true := by
  unfold cStore at h
  split at h
  · rename_i q
    rw [Bool.and_eq_true] at q
    exact ⟨ixOf_some h, q.1, q.2⟩
  · cases h
theorem isGl_gl (F : Fits X Γ) (h : isGl Γ.sc x = true) : Gl X x := by
  have e : Γ.sc.names.lookup x = some .globalImplicit := of_decide_eq_true h
  show X.env.scope.names.lookup x = some .globalImplicit
  rw [F.sc]; exact e

/-! ### targets -/
def gTg (p : Pm) (K : PySem.W.Frag) (t : Tg) : TG := fun v σ H Q => ∃ ρ os o d ρ', At p K os H σ ρ o ∧ Rep K os H d v ∧ bindT t d ρ = some ρ' ∧ ∀ σ', At p K os H σ' ρ' o → (∀ i, i ∉ tgS t → σ'[i]? = σ[i]?) → Q σ' H
def gTgs (p : Pm) (K : PySem.W.Frag) (ts : List Tg) : TGs := fun vs σ H Q => ∃ ρ os o ds ρ', At p K os H σ ρ o ∧ Reps K os H ds vs ∧ bindTs ts ds ρ = some ρ' ∧ ∀ σ', At p K os H σ' ρ' o → (∀ i, i ∉ tgSs ts → σ'[i]? = σ[i]?) → Q σ' H
theorem pg_imp {e : Expr} {t t' : TG} (h : PG X e t) (m : ∀ v σ H Q, t' v σ H Q → t v σ H Q) : PG X e t' := ⟨fun pins s σ H v u Q I r q => h.run pins s σ H v u Q I r (m v σ H Q q)⟩
theorem pgs_imp {e : List Expr} {t t' : TGs} (h : PGs X e t) (m : ∀ v σ H Q, t' v σ H Q → t v σ H Q) : PGs X e t' := ⟨fun pins s σ H v u Q I r q => h.run pins s σ H v u Q I r (m v σ H Q q)⟩
theorem At.set {d : D} {v : V} (A : At p K os H σ ρ o) (h : Rep K os H d v) (i : Nat) : At p K os H (σ.set i (some v)) (ρ.set i (.val d)) o := ⟨A.env.set h, A.obs, A.tab⟩
theorem assignEach_ne {e : Expr} {es : List Expr} (env : Env) (h : ∀ x y, e ≠ .Starred x y) : assignEach (e :: es) env = (false, assign e env) :: assignEach es env := by
  cases e <;> first
    | exact absurd rfl (h _ _)
    | rfl
theorem cTg_ns {n : Nat} {e : Expr} {t : Tg} (h : cTg Γ n e = some t) : ∀ x y, e ≠ .Starred x y := fun x y z => by
  subst z
  cases n <;> (unfold cTg at h; cases h)
theorem bindTs_len : ∀ {ts : List Tg} {ds : List D} {ρ ρ' : Frm}, bindTs ts ds ρ = some ρ' → ts.length = ds.length
  | [], [], _, _, _ => rfl
  | t :: ts, d :: ds, ρ, ρ', h => by
    unfold bindTs at h
    split at h
    · rw [List.length_cons, List.length_cons, bindTs_len h]
    · cases h
  | [], _ :: _, _, _, h => by unfold bindTs at h; cases h
  | _ :: _, [], _, _, h => by unfold bindTs at h; cases h
theorem pgs_cons' {e : Expr} {es : List Expr} {t : TG} {u : TGs} (h1 : PG X e t) (h2 : PGs X es u) (hn : ∀ x y, e ≠ .Starred x y) : PGs X (e :: es) (gCons t u) :=
  pgs_cons h1 h2 (by rw [assignEach_ne X.env hn]; rfl)
theorem tg_len : ∀ {n : Nat} {es : List Expr} {ts : List Tg}, cTgs Γ n es = some ts → (assignEach es X.env).length = ts.length ∧ (assignEach es X.env).findIdx? (·.1) = none
  | 0, _, _, h => by unfold cTgs at h; cases h
  | n + 1, [], ts, h => by
    unfold cTgs at h
    cases h
    exact ⟨rfl, rfl⟩
  | n + 1, e :: es, ts, h => by
    unfold cTgs at h
    split at h
    · rename_i a as h1 h2
      cases h
      obtain ⟨e1, e2⟩ := tg_len h2
      rw [assignEach_ne X.env (cTg_ns h1)]
      refine ⟨by rw [List.length_cons, List.length_cons, e1], ?_⟩
      rw [List.findIdx?_cons]
      simp only [Bool.false_eq_true, if_false, e2]
      rfl
    · cases h
mutual
theorem tg_ok (F : Fits X Γ) (hc : X.calm = true ∨ L2H.HotC X) : ∀ (n : Nat) (e : Expr) (t : Tg), cTg Γ n e = some t → (∀ i ∈ tgS t, Sto X Γ i) → PG X e (gTg p X.K t)
  | 0, _, _, h, _ => by unfold cTg at h; cases h
  | n + 1, .Name x pos, t, h, hs => by
    unfold cTg at h
    obtain ⟨i, e, rfl⟩ := Option.map_eq_some_iff.mp h
    obtain ⟨h1, h2, h3⟩ := cStore_some e
    have hl : Loc X.env.scope x := by rw [F.sc]; exact isLoc_loc h2
    refine pg_imp (pg_name (i := i) (by rw [F.N]; exact F.nd) (by rw [F.N]; exact h1) hl (hs i (by unfold tgS; simp) x h1 h2)) fun v σ H Q ⟨ρ, os, o, d, ρ', A, r, e, q⟩ => ?_
    unfold bindT at e
    cases e
    exact q _ (A.set r i) fun j hj => List.getElem?_set_ne (by unfold tgS at hj; simp at hj; exact fun z => hj z.symm)
  | n + 1, .Tuple es k pos, t, h, hs => by
    unfold cTg at h
    obtain ⟨ts, e, rfl⟩ := Option.map_eq_some_iff.mp h
    obtain ⟨e1, e2⟩ := tg_len (X := X) e
    have hpt : PG X (.Tuple es k pos) (gTup X.K ts.length (gTgs p X.K ts)) := hc.elim (fun c => pg_tup (n := ts.length) c (tgs_ok F hc n es ts e (fun i hi => hs i (by unfold tgS; exact hi))) e1 e2) fun c => pg_tupH (n := ts.length) c (tgs_ok F hc n es ts e (fun i hi => hs i (by unfold tgS; exact hi))) e1 e2
    refine pg_imp hpt fun v σ H Q ⟨ρ, os, o, d, ρ', A, r, e, q⟩ => ?_
    cases d with
    | tup ds =>
      unfold bindT at e
      obtain ⟨a, xs, rfl, h1, h2⟩ := r.tup
      refine ⟨a, xs, rfl, h1, by rw [h2.length, bindTs_len e], ρ, os, o, ds, ρ', A, h2, e, fun σ' A' ag => q σ' A' fun i hi => ag i (by unfold tgS at hi; exact hi)⟩
    | _ => unfold bindT at e; cases e
  | n + 1, .Constant .., _, h, _ => by unfold cTg at h; cases h
  | n + 1, .BoolOp .., _, h, _ => by unfold cTg at h; cases h
  | n + 1, .NamedExpr .., _, h, _ => by unfold cTg at h; cases h
  | n + 1, .BinOp .., _, h, _ => by unfold cTg at h; cases h
  | n + 1, .UnaryOp .., _, h, _ => by unfold cTg at h; cases h
  | n + 1, .Lambda .., _, h, _ => by unfold cTg at h; cases h
  | n + 1, .IfExp .., _, h, _ => by unfold cTg at h; cases h
  | n + 1, .Dict .., _, h, _ => by unfold cTg at h; cases h
  | n + 1, .Set .., _, h, _ => by unfold cTg at h; cases h
  | n + 1, .ListComp .., _, h, _ => by unfold cTg at h; cases h
  | n + 1, .SetComp .., _, h, _ => by unfold cTg at h; cases h
  | n + 1, .DictComp .., _, h, _ => by unfold cTg at h; cases h
  | n + 1, .GeneratorExp .., _, h, _ => by unfold cTg at h; cases h
  | n + 1, .Await .., _, h, _ => by unfold cTg at h; cases h
  | n + 1, .Yield .., _, h, _ => by unfold cTg at h; cases h
  | n + 1, .YieldFrom .., _, h, _ => by unfold cTg at h; cases h
  | n + 1, .Compare .., _, h, _ => by unfold cTg at h; cases h
  | n + 1, .Call .., _, h, _ => by unfold cTg at h; cases h
  | n + 1, .FormattedValue .., _, h, _ => by unfold cTg at h; cases h
  | n + 1, .JoinedStr .., _, h, _ => by unfold cTg at h; cases h
  | n + 1, .Attribute .., _, h, _ => by unfold cTg at h; cases h
  | n + 1, .Subscript .., _, h, _ => by unfold cTg at h; cases h
  | n + 1, .Starred .., _, h, _ => by unfold cTg at h; cases h
  | n + 1, .List .., _, h, _ => by unfold cTg at h; cases h
  | n + 1, .Slice .., _, h, _ => by unfold cTg at h; cases h
theorem tgs_ok (F : Fits X Γ) (hc : X.calm = true ∨ L2H.HotC X) : ∀ (n : Nat) (es : List Expr) (ts : List Tg), cTgs Γ n es = some ts → (∀ i ∈ tgSs ts, Sto X Γ i) → PGs X es (gTgs p X.K ts)
  | 0, _, _, h, _ => by unfold cTgs at h; cases h
  | n + 1, [], ts, h, _ => by
    unfold cTgs at h
    cases h
    refine pgs_imp pgs_nil fun vs σ H Q ⟨ρ, os, o, ds, ρ', A, r, e, q⟩ => ?_
    cases ds with
    | nil =>
      unfold bindTs at e
      cases e
      exact ⟨r.inv0, q σ A fun _ _ => rfl⟩
    | cons d ds => unfold bindTs at e; cases e
  | n + 1, e :: es, ts, h, hs => by
    unfold cTgs at h
    split at h
    · rename_i t ts' h1 h2
      cases h
      have m1 : ∀ i ∈ tgS t, Sto X Γ i := fun i hi => hs i (by unfold tgSs; exact List.mem_append_left _ hi)
      have m2 : ∀ i ∈ tgSs ts', Sto X Γ i := fun i hi => hs i (by unfold tgSs; exact List.mem_append_right _ hi)
      refine pgs_imp (pgs_cons' (tg_ok F hc n e t h1 m1) (tgs_ok F hc n es ts' h2 m2) (cTg_ns h1)) fun vs σ H Q ⟨ρ, os, o, ds, ρ', A, r, e, q⟩ => ?_
      cases ds with
      | nil => unfold bindTs at e; cases e
      | cons d ds =>
        unfold bindTs at e
        split at e
        · rename_i ρ1 e1
          obtain ⟨v, vs', rfl, r1, r2⟩ := r.inv
          refine ⟨v, vs', rfl, ρ, os, o, d, ρ1, A, r1, e1, fun σ1 A1 g1 => ⟨ρ1, os, o, ds, ρ', A1, r2, e, fun σ2 A2 g2 => q σ2 A2 fun i hi => ?_⟩⟩
          unfold tgSs at hi
          simp only [List.mem_append, not_or] at hi
          rw [g2 i hi.2, g1 i hi.1]
        · cases e
    · cases h
end
/-! ### the block -/
mutual
theorem bindT_len : ∀ {t : Tg} {d : D} {ρ ρ' : Frm}, bindT t d ρ = some ρ' → ρ'.length = ρ.length
  | .name i, d, ρ, ρ', h => by
    unfold bindT at h
    cases h
    exact List.length_set
  | .tup ts, d, ρ, ρ', h => by
    cases d with
    | tup ds => unfold bindT at h; exact bindTs_length h
    | _ => unfold bindT at h; cases h
theorem bindTs_length : ∀ {ts : List Tg} {ds : List D} {ρ ρ' : Frm}, bindTs ts ds ρ = some ρ' → ρ'.length = ρ.length
  | [], [], _, _, h => by unfold bindTs at h; cases h; rfl
  | t :: ts, d :: ds, ρ, ρ', h => by
    unfold bindTs at h
    split at h
    · rename_i ρ1 e1
      rw [bindTs_length h, bindT_len e1]
    · cases h
  | [], _ :: _, _, _, h => by unfold bindTs at h; cases h
  | _ :: _, [], _, _, h => by unfold bindTs at h; cases h
end
theorem wipe_in {σ : L2.St} {i : Nat} : ∀ {vs : List Nat}, i ∈ vs → (wipe σ vs)[i]? = if i < σ.length then some none else none
  | v :: vs, h => by
    show ((wipe σ vs).set v none)[i]? = _
    by_cases hv : v = i
    · subst hv
      by_cases hl : v < σ.length
      · rw [if_pos hl, List.getElem?_set_self (by rw [wipe_length]; exact hl)]
      · rw [if_neg hl]
        exact List.getElem?_eq_none (by rw [List.length_set, wipe_length]; omega)
    · rw [List.getElem?_set_ne hv]
      rcases List.mem_cons.mp h with q | q
      · exact absurd q.symm hv
      · exact wipe_in q
theorem wipe_eq {σ σ' : L2.St} {vs : List Nat} (hl : σ'.length = σ.length) (h : ∀ i, i ∉ vs → σ'[i]? = σ[i]?) : wipe σ' vs = wipe σ vs := by
  apply List.ext_getElem?
  intro i
  by_cases hi : i ∈ vs
  · rw [wipe_in hi, wipe_in hi, hl]
  · rw [L2.wipe_out hi, L2.wipe_out hi, h i hi]
theorem wipe_wipe {σ : L2.St} {vs : List Nat} : wipe (wipe σ vs) vs = wipe σ vs := wipe_eq (wipe_length _ _) fun i hi => L2.wipe_out hi
end
end Ev

set_option maxHeartbeats 2000000
/-! EvK: the comprehension. -/
namespace Ev
open PySem PySem.Spec PyProof.Rows L2

/-- the heap without D -/
def del (H : Hp) (D : Addr) : Hp := fun b => if b = D then none else H b
theorem del_same {H : Hp} {D : Addr} : del H D D = none := by unfold del; rw [if_pos rfl]
theorem del_ne {H : Hp} {D b : Addr} (h : b ≠ D) : del H D b = H b := by unfold del; rw [if_neg h]
theorem del_upd {H : Hp} {D : Addr} {o : HO} : del (upd H D o) D = del H D := by
  funext b
  by_cases h : b = D
  · subst h; rw [del_same, del_same]
  · rw [del_ne h, del_ne h, upd_ne h]
theorem upd_del {H : Hp} {D : Addr} {o : HO} (h : H D = some o) : upd (del H D) D o = H := by
  funext b
  by_cases hb : b = D
  · subst hb; rw [upd_same, h]
  · rw [upd_ne hb, del_ne hb]
section
variable {p : Pm} {K : PySem.W.Frag} {W : WX} {T : Tbs} {os os1 os2 : List Addr} {H H1 H2 H' : Hp} {o o1 o2 : Objs} {σ : L2.St} {ρ : Frm} {dd : Addr} {acc : List V} {α β γ : Type}
/-- all but lists stays -/
def Stay (H H' : Hp) : Prop := ∀ b u, H b = some u → (∀ xs, u ≠ .lst xs) → H' b = some u
theorem SqT.stay (s : Stay H H') {a : Addr} {xs : List V} (h : SqT K H a xs) : SqT K H' a xs := by
  rcases h with (h | ⟨ob, h⟩) | h
  · exact .inl (.inl (s _ _ h fun _ e => nomatch e))
  · exact .inl (.inr ⟨ob, s _ _ h fun _ e => nomatch e⟩)
  · exact .inr h
mutual
theorem Rep.stay (s : Stay H H') : ∀ (d : D) {v : V}, Rep K os H d v → Rep K os H' d v
  | .non, v, h => by unfold Rep at h ⊢; exact h
  | .bl _, v, h => by unfold Rep at h ⊢; exact h
  | .int _, v, h => by unfold Rep at h ⊢; exact h
  | .str _, v, h => by unfold Rep at h ⊢; exact h
  | .tup ds, v, h => by
    unfold Rep at h ⊢
    obtain ⟨a, xs, e, h1, h2⟩ := h
    exact ⟨a, xs, e, SqT.stay s h1, Reps.stay s ds h2⟩
  | .lst ds, v, h => by
    unfold Rep at h ⊢
    obtain ⟨a, xs, e, ⟨ob, h1⟩, h2⟩ := h
    exact ⟨a, xs, e, ⟨ob, s _ _ h1 fun _ e => nomatch e⟩, Reps.stay s ds h2⟩
  | .dct ks vs, v, h => by
    unfold Rep at h ⊢
    obtain ⟨e1, e2, a, ob, e3, h1⟩ := h
    exact ⟨e1, e2, a, ob, e3, s _ _ h1 fun _ e => nomatch e⟩
  | .obj i, v, h => by unfold Rep at h ⊢; exact h
theorem Reps.stay (s : Stay H H') : ∀ (ds : List D) {xs : List V}, Reps K os H ds xs → Reps K os H' ds xs
  | [], xs, h => by unfold Reps at h ⊢; exact h
  | d :: ds, xs, h => by
    obtain ⟨x, r, rfl, h1, h2⟩ := h.inv
    exact .cons (Rep.stay s d h1) (Reps.stay s ds h2)
end
theorem stay_del (h : H dd = some (.lst acc)) : Stay H (del H dd) := fun b u e n => by
  rw [del_ne]
  · exact e
  · rintro rfl
    rw [h] at e
    cases e
    exact n _ rfl
theorem stay_upd {u : HO} (h : H dd = some (.lst acc)) : Stay H (upd H dd u) := fun b w e n => by
  rw [upd_ne]
  · exact e
  · rintro rfl
    rw [h] at e
    cases e
    exact n _ rfl
theorem ObjAt.stay (s : Stay H H') {a : Addr} {so : SObj} (e : ∀ xs, H a = some (.lst xs) → H' a = some (.lst xs)) (h : ObjAt K os H a so) : ObjAt K os H' a so := by
  cases so with
  | lst ds =>
    obtain ⟨xs, h1, h2⟩ := h
    exact ⟨xs, e _ h1, Reps.stay s ds h2⟩
theorem OOk.stay (O : OOk K os H o) (s : Stay H H') (e : ∀ a ∈ os, ∀ xs, H a = some (.lst xs) → H' a = some (.lst xs)) : OOk K os H' o where
  len := O.len
  at_ := fun i so q => by
    obtain ⟨a, e1, e2⟩ := O.at_ i so q
    exact ⟨a, e1, e2.stay s (e a (List.mem_of_getElem? e1))⟩
  nd := O.nd
theorem OOk.del (O : OOk K os H o) (n : dd ∉ os) (h : H dd = some (.lst acc)) : OOk K os (del H dd) o :=
  O.stay (stay_del h) fun a ha xs e => by rw [del_ne (by rintro rfl; exact n ha)]; exact e
theorem OOk.upd (O : OOk K os H o) (n : dd ∉ os) (h : H dd = some (.lst acc)) {u : HO} : OOk K os (L2.upd H dd u) o :=
  O.stay (stay_upd h) fun a ha xs e => by rw [upd_ne (by rintro rfl; exact n ha)]; exact e
theorem tabs_stay (s : Stay H H') (t : ∀ b ps, H b = some (.tbl ps) → ∀ xs, HO.tbl ps ≠ .lst xs) (h : LamX.Tabs T H) : LamX.Tabs T H' := fun q hq => by
  obtain ⟨ps, h1, h2, h3⟩ := h q hq
  refine ⟨ps, s _ _ h1 (fun _ e => nomatch e), h2, fun pos cv hc => ?_⟩
  obtain ⟨c, e1, e2⟩ := h3 pos cv hc
  exact ⟨c, e1, s _ _ e2 fun xs e => by unfold LamX.CodeO at e; cases e⟩
theorem tabs_st (s : Stay H H') (h : LamX.Tabs T H) : LamX.Tabs T H' := tabs_stay s (fun _ _ _ _ e => nomatch e) h
/-- from before the list was made -/
theorem Post.newL (P : Post T os1 H1 os2 H2) (h1 : H1 dd = none) {u : HO} (h2 : H2 dd = some (.lst acc)) : Post T os1 H1 os2 (upd H2 dd u) where
  pre := P.pre
  keep := fun b w e n nt => by
    rw [upd_ne (ne_of_none e h1)]
    exact P.keep b w e n nt
  dom := fun b e => by
    by_cases hb : b = dd
    · rw [hb]; exact .of h1
    · exact P.dom b fun w q => e w (by rw [upd_ne hb]; exact q)
  tab := fun t => tabs_st (stay_upd h2) (P.tab t)
theorem Post.newD (P : Post T os1 H1 os2 H2) (h1 : H1 dd = none) (h2 : H2 dd = some (.lst acc)) : Post T os1 H1 os2 (del H2 dd) where
  pre := P.pre
  keep := fun b w e n nt => by
    rw [del_ne (ne_of_none e h1)]
    exact P.keep b w e n nt
  dom := fun b e => by
    by_cases hb : b = dd
    · rw [hb]; exact .of h1
    · exact P.dom b fun w q => e w (by rw [del_ne hb]; exact q)
  tab := fun t => tabs_st (stay_del h2) (P.tab t)
/-- the same step, without the list -/
theorem Post.del (P : Post T os H os2 H2) (n : dd ∉ os) (h : H dd = some (.lst acc)) : Post T os (del H dd) os2 (del H2 dd) ∧ dd ∉ os2 ∧ H2 dd = some (.lst acc) := by
  have h2 := P.keep _ _ h n fun _ e => nomatch e
  obtain ⟨new, e, hn⟩ := P.pre
  refine ⟨⟨⟨new, e, fun b hb => ?_⟩, fun b u e n' nt => ?_, fun b e => ?_, fun t => ?_⟩, ?_, h2⟩
  · by_cases hd : b = dd
    · rw [hd]; exact .of del_same
    · intro w q
      rw [del_ne hd] at q
      exact hn b hb w q
  · by_cases hb : b = dd
    · subst hb; rw [del_same] at e; cases e
    · rw [del_ne hb] at e ⊢
      exact P.keep b u e n' nt
  · by_cases hb : b = dd
    · rw [hb]; exact .of del_same
    · intro w q
      rw [del_ne hb] at q
      exact P.dom b (fun w' q' => e w' (by rw [del_ne hb]; exact q')) w q
  · have t1 : LamX.Tabs T H := tabs_st (fun b u e nn => by
      by_cases hb : b = dd
      · subst hb; rw [del_same] at e; cases e
      · rw [del_ne hb] at e; exact e) t
    exact tabs_st (stay_del h2) (P.tab t1)
  · rw [e]
    intro hm
    rcases List.mem_append.mp hm with hm | hm
    · exact n hm
    · obtain ⟨ps, z⟩ := hn dd hm _ h
      cases z
def WF : WX := fun _ _ _ _ => False
/-- what is wanted without the list is got with it -/
theorem Out.lift {σ' : L2.St} {r : Res α} {R : α → Objs → List Addr → Hp → Prop} (h : Out p K WF σ os (del H dd) r R) (n : dd ∉ os) (e : H dd = some (.lst acc)) :
    Out p K WF σ' os H r fun a o' os' H' => dd ∉ os' ∧ H' dd = some (.lst acc) ∧ R a o' os' (Ev.del H' dd) := by
  cases r with
  | ok a o' =>
    intro os' H' P O
    obtain ⟨P', n', e'⟩ := P.del n e
    exact ⟨n', e', h os' _ P' (O.del n' e')⟩
  | err c xs o' =>
    intro os' H' cls d P O x
    obtain ⟨P', n', e'⟩ := P.del n e
    refine h os' _ cls d P' (O.del n' e') ?_
    obtain ⟨x1, xk, x2⟩ := x
    refine ⟨x1, xk, ?_⟩
    rcases x2 with x2 | ⟨x, d2, v, y1, y2, y3, y4⟩
    · exact .inl x2
    · exact .inr ⟨x, d2, v, y1, y2, by rw [del_ne (by rintro rfl; rw [y3] at e'; cases e')]; exact y3, Rep.stay (stay_del e') x y4⟩
  | stuck => exact h
/-- the first part of a calm answer -/
theorem Out.calm {r : Res α} {f : α → Objs → Res β} {g : β → Objs → Res γ} {σ' : L2.St} {Q : γ → Objs → List Addr → Hp → Prop} (h : Out p K W σ os H ((r.bind f).calm.bind g) Q) : Out p K WF σ' os H r fun a o' os' H' => Out p K W σ os' H' ((f a o').calm.bind g) Q := by
  cases r with
  | ok a o' => exact fun os' H' P O => Out.step (r := ((f a o').calm.bind g)) h P
  | err c xs o' => exact h.elim
  | stuck => exact h
theorem calm_cons {r : Res (List D)} {x : D} {G : List D → Objs → Res γ} : ((r.bind fun xs o3 => Res.ok (x :: xs) o3).calm).bind G = r.calm.bind fun xs o3 => G (x :: xs) o3 := by
  cases r <;> rfl
end
section
variable {X : Cx} {p : Pm} {K : PySem.W.Frag} {W : WX}
/-- a clause's test -/
def tCd (p : Pm) (K : PySem.W.Frag) (W : WX) (c : IEo) : TT := fun σ H Q => ∃ ρ os o, At p K os H σ ρ o ∧ Out p K W σ os H (p.evC c ρ o) fun b _ os' H' => Q b H'
theorem pts_imp {e : List Expr} {t t' : TT} (h : PTs X e t) (m : ∀ σ H Q, t' σ H Q → t σ H Q) : PTs X e t' := ⟨fun pins s σ H Q I q => h.run pins s σ H Q I (m σ H Q q)⟩
theorem gd_none : PTs X [] (tCd p X.K W .none) := pts_imp pts_nil fun σ H Q ⟨ρ, os, o, A, h⟩ => h.ok A.obs
theorem gd_some {e : Expr} {a : IE} (h : PT X e (tT p X.K W a)) : PTs X [e] (tCd p X.K W (.some a)) := pts_imp (pts_one h) fun σ H Q ⟨ρ, os, o, A, h⟩ =>
  tT_of A h (fun d o n => by cases d <;> first | rfl | exact absurd rfl (n _)) fun k o1 os1 H1 P1 A1 h1 => h1.ok A1.obs
theorem At.wiped {os : List Addr} {H : Hp} {o : Objs} {σ : L2.St} {ρ : Frm} (A : At p K os H σ ρ o) (vs : List Nat) : At p K os H (wipe σ vs) (wipeF ρ vs) o := ⟨A.env.wiped vs, A.obs, A.tab⟩
/-- the step's continuation -/
def afterL (dacc : List D) : List D → Objs → Res D := fun xs o2 => if sz (dacc ++ xs).length then .ok (.lst (dacc ++ xs)) o2 else .stuck
theorem im_comp {ie : IE} {t : Tg} {src : ISrc} {cnd : IEo} {own : List Nat} {σ : L2.St} {H : Hp} {Q : VK} (hw : ∀ i ∈ tgS t, i ∈ own) (h : tM p K W (.comp ie t src cnd own) σ H Q) :
    tLc (tS true p K W src) (gTg p K t) (tCd p K WF cnd) (tE p K WF ie) own σ H Q := by
  obtain ⟨ρ, os, o, A, h⟩ := h
  refine ⟨ρ, os, o, A, ?_⟩
  refine h.bind.mono fun ds o1 os1 H1 _ P1 O1 h1 J yl L hL => ?_
  have A1 := A.next P1 O1
  -- the walk of what is left
  let rest : List D → Objs → Res (List D) := compL (fun d => bindT t d (wipeF ρ (own))) (fun ρ' o' => p.evC cnd ρ' o') (fun ρ' o' => p.evE ie ρ' o')
  let Qf : D → Objs → List Addr → Hp → Prop := fun d o' os' H' => ∀ v H2, MkV K os' H' d v H2 → Q v H2
  have dU : del (upd H1 L (.lst [])) L = H1 := by
    rw [del_upd]
    funext b
    by_cases hb : b = L
    · subst hb; rw [del_same, hL]
    · rw [del_ne hb]
  refine ⟨fun i m Hc => m = ds.length - i ∧ i ≤ ds.length ∧ ∃ os2 o2 acc dacc, Post p.T os1 H1 os2 Hc ∧ OOk K os2 Hc o2 ∧ L ∉ os2 ∧ Hc L = some (.lst acc) ∧ Reps K os2 Hc dacc acc ∧
    Out p K W σ os2 (del Hc L) ((rest (ds.drop i) o2).calm.bind (afterL dacc)) Qf, ⟨ds.length, by simp, Nat.zero_le _, os1, o1, [], [], ?_, ?_, ?_, upd_same, .nil, ?_⟩, ?_⟩
  · exact .same (same_upd hL)
  · exact O1.same (same_upd hL)
  · intro hm
    obtain ⟨xs, e⟩ := O1.mem hm
    rw [hL] at e; cases e
  · rw [dU]
    exact h1
  · rintro i m Hc ⟨rfl, hi', os2, o2, acc, dacc, P2, O2, n2, e2, r2, h2⟩
    have y := yl os2 Hc o2 P2 O2 i
    have nL : ∀ {os' H'}, Post p.T os2 Hc os' H' → L ∉ os' ∧ H' L = some (.lst acc) := fun P => (P.del n2 e2).2
    by_cases hlt : i < ds.length
    · refine .inr ⟨(y.1 hlt).1, fun H' => ∃ os2 o2 acc dacc, Post p.T os1 H1 os2 H' ∧ OOk K os2 H' o2 ∧ L ∉ os2 ∧ H' L = some (.lst acc) ∧ Reps K os2 H' dacc acc ∧
        Out p K W σ os2 (del H' L) ((rest (ds.drop (i + 1)) o2).calm.bind (afterL dacc)) Qf, fun H' nx => ⟨ds.length - (i + 1), by omega, rfl, hlt, nx⟩, fun x H3 hy => ?_⟩
      obtain ⟨s3, d, ed, rd⟩ := (y.1 hlt).2 x H3 hy
      have P3 : Post p.T os2 Hc os2 H3 := .same s3
      have O3 := O2.same s3
      obtain ⟨n3, e3⟩ := nL P3
      have r3 := Reps.post P3 O2 dacc r2
      have h3 := h2.step (P3.del n2 e2).1
      have edrop : ds.drop i = d :: ds.drop (i + 1) := by
        rw [List.drop_eq_getElem_cons hlt]
        rw [List.getElem?_eq_getElem hlt] at ed
        cases ed
        rfl
      rw [edrop] at h3
      have A3 := (A1.next (P2.trans P3) O3).wiped (own)
      cases eb : bindT t d (wipeF ρ (own)) with
      | none =>
        have z : rest (d :: ds.drop (i + 1)) o2 = .stuck := by
          show compL _ _ _ (d :: ds.drop (i + 1)) o2 = _
          unfold compL
          rw [eb]
        rw [z] at h3
        exact h3.elim
      | some ρ' =>
        have z : rest (d :: ds.drop (i + 1)) o2 = (p.evC cnd ρ' o2).bind fun b o1 => if b then (p.evE ie ρ' o1).bind fun x o2 => (rest (ds.drop (i + 1)) o2).bind fun xs o3 => .ok (x :: xs) o3 else rest (ds.drop (i + 1)) o1 := by
          show compL _ _ _ (d :: ds.drop (i + 1)) o2 = _
          conv => lhs; unfold compL
          rw [eb]
        rw [z] at h3
        refine ⟨_, os2, o2, d, ρ', A3, rd, eb, fun σ4 A4 ag => ⟨?_, ρ', os2, o2, A4, ?_⟩⟩
        · refine (wipe_eq ?_ fun j hj => ag j fun hm => hj (hw j hm)).trans wipe_wipe
          have l1 := A4.env.len
          have l2 : ρ'.length = (wipeF ρ (own)).length := bindT_len eb
          rw [l1, l2, ← A3.env.len]
        · refine ((Out.calm (σ' := σ4) h3).lift (σ' := σ4) n3 e3).mono fun b o5 os5 H5 _ P5 O5 ⟨n5, e5, h5⟩ => ?_
          have r5 := Reps.post P5 O3 dacc r3
          have P15 := (P2.trans P3).trans P5
          cases b with
          | false =>
            simp only [Bool.false_eq_true, if_false] at h5 ⊢
            exact ⟨os5, o5, acc, dacc, P15, O5, n5, e5, r5, h5⟩
          | true =>
            simp only [if_true] at h5 ⊢
            refine ⟨ρ', os5, o5, A4.next P5 O5, ((Out.calm (σ' := σ4) h5).lift (σ' := σ4) n5 e5).mono fun dx o6 os6 H6 _ P6 O6 ⟨n6, e6, h6⟩ vx rx => ?_⟩
            have r6 := Reps.post P6 O5 dacc r5
            rw [calm_cons] at h6
            have e7 : (fun xs o3 => afterL dacc (dx :: xs) o3) = afterL (dacc ++ [dx]) := by
              funext xs o3
              unfold afterL
              rw [List.append_assoc]
              rfl
            rw [e7] at h6
            have hsz : dacc.length < sizeLine := by
              cases q : (rest (ds.drop (i + 1)) o6).calm with
              | ok xs o7 =>
                rw [q] at h6
                have h6 : Out p K W σ os6 (del H6 L) (afterL (dacc ++ [dx]) xs o7) Qf := h6
                unfold afterL at h6
                split at h6
                · rename_i hz
                  have z := szP hz
                  rw [List.length_append, List.length_append] at z
                  have : ([dx] : List D).length = 1 := rfl
                  omega
                · exact h6.elim
              | err c xs o7 =>
                cases q2 : rest (ds.drop (i + 1)) o6 with
                | ok a b => rw [q2] at q; cases q
                | err a b c => rw [q2] at q; cases q
                | stuck => rw [q2] at q; cases q
              | stuck => rw [q] at h6; exact h6.elim
            refine ⟨acc, e6, by rw [r6.length]; exact hsz, os6, o6, acc ++ [vx], dacc ++ [dx], ?_, O6.upd n6 e6, n6, upd_same, ?_, ?_⟩
            · exact (P15.trans P6).newL hL e6
            · exact Reps.stay (stay_upd e6) _ (r6.append (.cons rx .nil))
            · rw [del_upd]
              exact h6
    · have ei : i = ds.length := by omega
      refine .inl ⟨y.2 (by omega), ?_⟩
      rw [ei, List.drop_length] at h2
      have h2 : Out p K W σ os2 (del Hc L) (afterL dacc [] o2) Qf := h2
      unfold afterL at h2
      split at h2
      · rw [List.append_nil] at h2
        have q := h2.ok (O2.del n2 e2) (.ref L) Hc
        refine q ?_
        have m := MkV.lst (K := K) (os := os2) (a := L) (ds := dacc) (xs := acc) (del_same (H := Hc)) (Reps.stay (stay_del e2) dacc r2)
        rw [upd_del e2] at m
        exact m
      · exact h2.elim
theorem gm_comp {elt tg iter : Expr} {ifs : List Expr} {scope : Scope} {own : List (Str × Nat)} {pos : Pos} {ie : IE} {t : Tg} {src : ISrc} {cnd : IEo} (hc : X.calm = true) (hN : X.N.Nodup) (hi : PI X tg iter (tS true p X.K W src)) (ok : BlkOk X.N X.env.scope scope own)
    (hg : ∀ (s : Shared) (H : Hp) (C : Addr) (cl : List (Str × Addr)) (fp : List Addr), PG (X.blk s H scope (compEnvC scope cl C X.env) fp) tg (gTg p X.K t))
    (ht : ∀ (s : Shared) (H : Hp) (C : Addr) (cl : List (Str × Addr)) (fp : List Addr), PTs (X.blk s H scope (compEnvC scope cl C X.env) fp) ifs (tCd p X.K WF cnd))
    (he : ∀ (s : Shared) (H : Hp) (C : Addr) (cl : List (Str × Addr)) (fp : List Addr), PE (X.blk s H scope (compEnvC scope cl C X.env) fp) elt (tE p X.K WF ie)) (hs : ∀ x, foldedSetIterable iter X.env x = pure x)
    (hw : ∀ i ∈ tgS t, i ∈ own.map (·.2)) : PE X (.ListComp elt [⟨tg, iter, ifs, 0⟩] scope pos) (tM p X.K W (.comp ie t src cnd (own.map (·.2)))) :=
  pe_imp (pe_lc hc hN hi ok hg ht he hs) fun σ H Q h => im_comp hw h
theorem gm_compH {q : Addr × Obj} {elt tg iter : Expr} {ifs : List Expr} {scope : Scope} {own : List (Str × Nat)} {pos : Pos} {ie : IE} {t : Tg} {src : ISrc} {cnd : IEo} (h1 : L2H.Hot1 X.A q) (h2 : q ∈ X.pn) (hN : X.N.Nodup) (hi : L2H.PIH X tg iter (tS true p X.K W src)) (ok : BlkOk X.N X.env.scope scope own)
    (B : BlkParts X q elt tg ifs scope (gTg p X.K t) (tCd p X.K WF cnd) (tE p X.K WF ie)) (hs : ∀ x, foldedSetIterable iter X.env x = pure x)
    (hw : ∀ i ∈ tgS t, i ∈ own.map (·.2)) : PE X (.ListComp elt [⟨tg, iter, ifs, 0⟩] scope pos) (tM p X.K W (.comp ie t src cnd (own.map (·.2)))) :=
  pe_imp (pe_lcH h1 h2 hN hi ok B hs) fun σ H Q h => im_comp hw h
theorem gm_setLcH {q : Addr × Obj} {i : Nat} {y : Str} {py : Pos} {elt tg iter : Expr} {ifs : List Expr} {scope : Scope} {own : List (Str × Nat)} {pos spos : Pos} {ie : IE} {t : Tg} {src : ISrc} {cnd : IEo} (h1 : L2H.Hot1 X.A q) (h2 : q ∈ X.pn) (hN : X.N.Nodup) (hy : X.N[i]? = some y) (hyl : X.env.scope.names.lookup y = some .local)
    (hsw : swapsWith (.ListComp elt [⟨tg, iter, ifs, 0⟩] scope pos) (some (.Name y py)) spos.line X.env = pure true) (hi : L2H.PIH X tg iter (tS true p X.K W src)) (ok : BlkOk X.N X.env.scope scope own)
    (B : BlkParts X q elt tg ifs scope (gTg p X.K t) (tCd p X.K WF cnd) (tE p X.K WF ie)) (hs : ∀ x, foldedSetIterable iter X.env x = pure x)
    (hw : ∀ i ∈ tgS t, i ∈ own.map (·.2)) : PS X (.Assign [.Name y py] (.ListComp elt [⟨tg, iter, ifs, 0⟩] scope pos) spos) (tAsg (tM p X.K W (.comp ie t src cnd (own.map (·.2)))) (gName i)) := by
  have z := ps_setLcH h1 h2 hN hy hyl hsw hi ok B hs
  exact ⟨fun pins s σ H Dn I h => z.run pins s σ H Dn I (im_comp hw h)⟩
/-- name = [..], the store exchanged with the block's end -/
theorem gm_setLc {i : Nat} {y : Str} {py : Pos} {elt tg iter : Expr} {ifs : List Expr} {scope : Scope} {own : List (Str × Nat)} {pos spos : Pos} {ie : IE} {t : Tg} {src : ISrc} {cnd : IEo} (hc : X.calm = true) (hN : X.N.Nodup) (hy : X.N[i]? = some y) (hyl : X.env.scope.names.lookup y = some .local)
    (hsw : swapsWith (.ListComp elt [⟨tg, iter, ifs, 0⟩] scope pos) (some (.Name y py)) spos.line X.env = pure true) (hi : PI X tg iter (tS true p X.K W src)) (ok : BlkOk X.N X.env.scope scope own)
    (hg : ∀ (s : Shared) (H : Hp) (C : Addr) (cl : List (Str × Addr)) (fp : List Addr), PG (X.blk s H scope (compEnvC scope cl C X.env) fp) tg (gTg p X.K t))
    (ht : ∀ (s : Shared) (H : Hp) (C : Addr) (cl : List (Str × Addr)) (fp : List Addr), PTs (X.blk s H scope (compEnvC scope cl C X.env) fp) ifs (tCd p X.K WF cnd))
    (he : ∀ (s : Shared) (H : Hp) (C : Addr) (cl : List (Str × Addr)) (fp : List Addr), PE (X.blk s H scope (compEnvC scope cl C X.env) fp) elt (tE p X.K WF ie)) (hs : ∀ x, foldedSetIterable iter X.env x = pure x)
    (hw : ∀ i ∈ tgS t, i ∈ own.map (·.2)) : PS X (.Assign [.Name y py] (.ListComp elt [⟨tg, iter, ifs, 0⟩] scope pos) spos) (tAsg (tM p X.K W (.comp ie t src cnd (own.map (·.2)))) (gName i)) := by
  have q := ps_setLc hc hN hy hyl hsw hi ok hg ht he hs
  exact ⟨fun pins s σ H Dn I h => q.run pins s σ H Dn I (im_comp hw h)⟩
end
end Ev

set_option maxHeartbeats 2000000
/-! EvL: the world; closures; calls. -/
namespace Ev
open PySem PySem.Spec PyProof.Rows L2

theorem zip_lookup : ∀ {ps : List Str} {us : List Value} {i : Nat} {x : Str} {u : Value}, ps.Nodup → ps[i]? = some x → us[i]? = some u → (ps.zip us).lookup x = some u
  | p :: ps, w :: us, 0, x, u, nd, h1, h2 => by
    have e1 : p = x := by simpa using h1
    have e2 : w = u := by simpa using h2
    subst e1 e2
    simp [List.lookup_cons]
  | p :: ps, w :: us, i + 1, x, u, nd, h1, h2 => by
    rw [List.nodup_cons] at nd
    have h1' : ps[i]? = some x := by simpa using h1
    have h2' : us[i]? = some u := by simpa using h2
    have ne : ¬ (x == p) = true := fun e => nd.1 (by have e' : x = p := by simpa using e
                                                     rw [← e']; exact List.mem_of_getElem? h1')
    show ((p, w) :: ps.zip us).lookup x = some u
    rw [List.lookup_cons]
    rw [show (x == p) = false by simpa using ne]
    exact zip_lookup nd.2 h1' h2'
  | [], _, _, _, _, _, h, _ => by simp at h
  | _ :: _, [], _, _, _, _, _, h => by simp at h
theorem zip_fm : ∀ (ps : List Str) (us : List Value), us.length = ps.length → ps.Nodup → ∀ (l : List (Str × Value)), (∀ (i : Nat) (x : Str) (u : Value), ps[i]? = some x → us[i]? = some u → l.lookup x = some u) → (ps.filterMap fun n => (l.lookup n).map (n, ·)) = ps.zip us
  | [], [], _, _, _, _ => rfl
  | p :: ps, u :: us, h, nd, l, hl => by
    rw [List.nodup_cons] at nd
    rw [List.filterMap_cons, hl 0 p u rfl rfl]
    show (p, u) :: _ = (p, u) :: ps.zip us
    rw [zip_fm ps us (by simpa using h) nd.2 l fun i x w h1 h2 => hl (i + 1) x w (by simpa using h1) (by simpa using h2)]
  | [], _ :: _, h, _, _, _ => by simp at h
  | _ :: _, [], h, _, _, _ => by simp at h
theorem bind_all {fd : FuncData} {args : List Arg} (hp : fd.params = ⟨[], args, none, [], [], none, []⟩) (hd : fd.defaults = .none) (nd : (args.map (·.arg)).Nodup) (us : List Value) (h : us.length = (args.map (·.arg)).length) : bindArgs fd ⟨us, []⟩ = pure ((args.map (·.arg)).zip us) := by
  have hl : ∀ (i : Nat) (x : Str) (u : Value), (args.map (·.arg))[i]? = some x → us[i]? = some u → ((args.map (·.arg)).zip us).lookup x = some u := fun i x u h1 h2 => zip_lookup nd h1 h2
  have hm : ((args.map (·.arg)).take (args.map (·.arg)).length).filter (fun n => (((args.map (·.arg)).zip us).lookup n).isNone) = [] := by
    rw [List.filter_eq_nil_iff]
    intro x hx
    rw [List.take_length] at hx
    obtain ⟨i, hi⟩ := List.mem_iff_getElem?.mp hx
    have hlt : i < us.length := by rw [h]; exact (List.getElem?_eq_some_iff.mp hi).1
    rw [hl i x us[i] hi (List.getElem?_eq_getElem hlt)]
    simp
  have hg : ¬ (us.length > (args.map (·.arg)).length) := by omega
  have hs : seqItems? .none = pure none := rfl
  unfold bindArgs
  simp only [hp, hd, hs]
  simp only [List.map_nil, List.nil_append, List.forIn_nil, pure_bind, List.append_nil, Option.isNone_none, Bool.and_true, decide_eq_true_eq, if_neg hg, Option.getD_none, List.drop_nil, List.length_nil, Nat.sub_zero, hm, List.isEmpty_nil, Bool.not_true, Bool.false_eq_true, if_false, List.zip_nil_right, zip_fm _ _ h nd _ hl]

/-! ### the program, as it stands -/
structure Wd where
  prog : Program
  w : World
  K : PySem.W.Frag
  mg : Str → Option Value
  base : Heap
  T : Tab
  L : Nat
  tbs : Tbs
  ad : Str → Addr
  fld : Str → Str
  defs : List Str
  clss : List Str
abbrev kla (q : Str) (args : List Arg) (body : Expr) (scope : Scope) (cl : List (Str × Addr)) (pm : Value) (c' : Addr) (ctv : Value) : Obj := PySem.W.kla_obj "<lambda>" q ⟨[], args, none, [], [], none, []⟩ body scope cl pm c' ctv
/-- the lambda at f, in the heap h -/
def CloH (D : Wd) (h : Heap) (f : Addr) (np nl : Nat) (b : IE) (vs : List V) (c' : Addr) (q : Str) : Prop := ∃ (args : List Arg) (body : Expr) (scope : Scope) (cl : List (Str × Addr)) (pm ctv : Value) (Γ : Scp) (n : Nat) (fr : List Str),
  h.get? f = some (kla q args body scope cl pm c' ctv) ∧ NdefX.NScope Γ.N (args.map (·.arg)) fr scope ∧ args.length = np ∧ Γ.N.length = nl ∧ (Γ.sc = scope ∧ Γ.hot = false ∧ Γ.lam = false ∧ Γ.isx = false ∧ Γ.defs = D.defs ∧ Γ.clss = D.clss) ∧ cE n Γ body = some b ∧ fr.length = vs.length ∧
    (∀ y c, cl.lookup y = some c → ∃ v, h.IsCell c v) ∧ (∀ x y c, cl.lookup x = some c → cl.lookup y = some c → x = y) ∧
    ∀ (i : Nat) (y : Str), fr[i]? = some y → ∃ c, cl.lookup y = some c ∧ ∀ v, vs[i]? = some v → ∃ u, RelV v u ∧ h.IsCell c (some u)
def Wd.sp (D : Wd) (h : Heap) : SpV := ⟨CloH D h, fun _ _ => False⟩
def Wd.pm (D : Wd) (h : Heap) (k : Nat) : Pm := ⟨callF D.T D.L k, callC D.T D.L k, D.T.con, D.T.isa, D.L, D.tbs, D.sp h, D.ad, D.fld, fun c => c ∈ D.clss⟩
/-- .. with the exception that is caught -/
def Pm.withExc (p : Pm) (e : Addr → Str → Prop) : Pm := { p with Sp := ⟨p.Sp.clo, e⟩ }
/-- the heap's part that no one changes: untracked, no frame -/
def fixed (h : Heap) (H : Hp) (fs : List Addr) : Heap := PySem.W.hideAll (hidT h H) fs
section
variable {h : Heap} {H : Hp} {fs : List Addr}
theorem fixed_get {b : Addr} {o : Obj} (e : h.get? b = some o) (n : H b = none) (nf : b ∉ fs) : (fixed h H fs).get? b = some o := PySem.W.hideAll_get _ (hidT_get e n) nf
theorem of_fixed {b : Addr} {o : Obj} (e : (fixed h H fs).get? b = some o) : h.get? b = some o ∧ H b = none ∧ b ∉ fs := by
  have e1 : (hidT h H).get? b = some o := PySem.W.of_hideAll _ e
  obtain ⟨e2, n⟩ := of_hidT e1
  refine ⟨e2, n, fun hm => ?_⟩
  have z : (fixed h H fs).get? b = none := PySem.W.hideAll_none _ hm
  rw [z] at e
  cases e
theorem fixed_size : (fixed h H fs).objs.size = h.objs.size := by unfold fixed; rw [PySem.W.hideAll_size, hidT_size]
end
/-- a heap over the base -/
structure Over (D : Wd) (base : Heap) : Prop where
  keep : ∀ b o, D.base.get? b = some o → base.get? b = some o
  size : D.base.objs.size ≤ base.objs.size
theorem mod_keeps {K : PySem.W.Frag} {mg : Str → Option Value} {base base' : Heap} (m : Mod K mg base) (k : ∀ b o, base.get? b = some o → base'.get? b = some o) : Mod K mg base' := by
  obtain ⟨mb, h1, h2⟩ := m.blt
  exact ⟨m.kin.keeps k, m.glob.keeps k, ⟨mb, h1.keeps k, h2⟩, m.nolimit.keeps k⟩
theorem funs_re {h base base' : Heap} : ∀ {l : List Env}, h.FunFrames base l → (∀ b ∈ frs l, base'.get? b = none) → h.FunFrames base' l
  | [], _, _ => True.intro
  | env :: r, hl, hb => by
    obtain ⟨hk, ⟨L, o, hf, hn, ho, hd⟩, hr⟩ := hl
    refine ⟨hk, ⟨L, o, hf, hb L ?_, ho, hd⟩, funs_re hr fun b hm => hb b ?_⟩
    · unfold frs
      rw [List.filterMap_cons, hf]
      exact List.mem_cons_self
    · unfold frs at hm ⊢
      rw [List.filterMap_cons, hf]
      exact List.mem_cons_of_mem _ hm
/-- the entry, over all that is fixed -/
theorem env0_fixed {P : Program} {w : World} {K : PySem.W.Frag} {mg : Str → Option Value} {base : Heap} {A : Around} {outer : List Env} {s : Shared} {H : Hp} (e : Env0 P w K mg base A outer s H) : Env0 P w K mg (fixed s.heap H (frs outer)) A outer s H := by
  refine ⟨e.frames, mod_keeps e.mod fun b o q => ?_, fun b o q => ⟨(of_fixed q).1, (of_fixed q).2.1⟩, Nat.le_of_eq fixed_size, funs_re e.funs fun b hb => PySem.W.hideAll_none _ hb, e.frf, e.hok, e.bare⟩
  obtain ⟨q1, q2⟩ := e.bs b o q
  refine fixed_get q1 q2 fun hm => ?_
  rw [(e.funs.mem hm).1] at q
  cases q
theorem over_fixed {D : Wd} {base : Heap} {outer : List Env} {s : Shared} {H : Hp} {A : Around} (O : Over D base) (e : Env0 D.prog D.w D.K D.mg base A outer s H) : Over D (fixed s.heap H (frs outer)) := by
  refine ⟨fun b o q => ?_, by rw [fixed_size]; exact Nat.le_trans O.size e.bsz⟩
  obtain ⟨q1, q2⟩ := e.bs b o (O.keep b o q)
  refine fixed_get q1 q2 fun hm => ?_
  have z := O.keep b o q
  rw [(e.funs.mem hm).1] at z
  cases z
/-- the entry, over the base -/
theorem env0_base {D : Wd} {base : Heap} {outer : List Env} {s : Shared} {H : Hp} {A : Around} (O : Over D base) (m : Mod D.K D.mg D.base) (e : Env0 D.prog D.w D.K D.mg base A outer s H) : Env0 D.prog D.w D.K D.mg D.base A outer s H := by
  refine ⟨e.frames, m, fun b o q => e.bs b o (O.keep b o q), Nat.le_trans O.size e.bsz, funs_re e.funs fun b hb => ?_, e.frf, e.hok, e.bare⟩
  cases q : D.base.get? b with
  | none => rfl
  | some o =>
    have z := O.keep b o q
    rw [(e.funs.mem hb).1] at z
    cases z

/-! ### what comes in -/
def SlotR (K : PySem.W.Frag) (Sp : SpV) (os : List Addr) (H : Hp) : Slot → V → Prop
  | .val d, v => Rep K os H d v
  | .clo np nl b cap, v => ∃ f vs c' q, v = .ref f ∧ Sp.clo f np nl b vs c' q ∧ Reps K os H cap vs ∧ H c' = some (LamX.CodeO c' q)
  | _, _ => False
abbrev SlotRs (K : PySem.W.Frag) (Sp : SpV) (os : List Addr) (H : Hp) : List Slot → List V → Prop := Paired (SlotR K Sp os H)
theorem paired_get {α β : Type} {R : α → β → Prop} : ∀ {xs : List α} {ys : List β} {i : Nat} {x : α}, Paired R xs ys → xs[i]? = some x → ∃ y, ys[i]? = some y ∧ R x y
  | _, _, _, _, .nil, e => by simp at e
  | _, _, 0, _, .cons r _, e => by
    have e' := Option.some.inj e
    subst e'
    exact ⟨_, rfl, r⟩
  | _, _, i + 1, x, .cons _ t, e => by
    obtain ⟨u, h1, h2⟩ := paired_get (i := i) (x := x) t (by simpa using e)
    exact ⟨u, by simpa using h1, h2⟩
/-- the frame at the entry -/
theorem envOk_start {K : PySem.W.Frag} {Sp : SpV} {os : List Addr} {H : Hp} {sl : List Slot} {vs : List V} (h : SlotRs K Sp os H sl vs) (m : Nat) : EnvOk K Sp os H (vs.map some ++ List.replicate m none) (sl ++ List.replicate m .none) := by
  have hl := h.length
  have get : ∀ (i : Nat) (s : Slot), (sl ++ List.replicate m Slot.none)[i]? = some s → s ≠ .none → ∃ v, (vs.map some ++ List.replicate m none)[i]? = some (some v) ∧ SlotR K Sp os H s v := fun i s e n => by
    by_cases hi : i < sl.length
    · rw [List.getElem?_append_left hi] at e
      obtain ⟨v, e1, e2⟩ := paired_get h e
      refine ⟨v, ?_, e2⟩
      rw [List.getElem?_append_left (by rw [List.length_map, ← hl]; exact hi), List.getElem?_map, e1]
      rfl
    · rw [List.getElem?_append_right (by omega), List.getElem?_replicate] at e
      split at e
      · exact absurd (Option.some.inj e).symm n
      · cases e
  refine ⟨by simp [hl], fun i d e => ?_, fun i d e => ?_, fun i j d e a _ e1 => ?_, fun i np nl b cap e => ?_, fun i c xs e => ?_⟩
  · exact get i _ e (fun z => by cases z)
  · obtain ⟨v, _, z⟩ := get i _ e (fun z => by cases z)
    exact z.elim
  · obtain ⟨v, _, z⟩ := get i _ e1 (fun z => by cases z)
    exact z.elim
  · obtain ⟨v, e1, f, ws, c', q, rfl, z⟩ := get i _ e (fun z => by cases z)
    exact ⟨f, ws, c', q, e1, z⟩
  · obtain ⟨v, _, z⟩ := get i _ e (fun z => by cases z)
    exact z.elim

/-! ### what calls promise, at depth k -/
def CallsOk (D : Wd) (k : Nat) : Prop := ∀ (fn : Str) (ir : FnIR), D.T.fn fn = some ir → ∀ (A : Around) (outer : List Env) (s : Shared) (H : Hp) (us : List Value) (vs : List V) (sl : List Slot) (os : List Addr) (o : Objs) (Q : VK) (W : WX) (σ : L2.St),
  Room k A → Env0 D.prog D.w D.K D.mg D.base A outer s H → Vals vs us → SlotRs D.K (D.sp (fixed s.heap H (frs outer))) os H sl vs → OOk D.K os H o → LamX.Tabs D.tbs H →
    Out (D.pm D.base k) D.K W σ os H (callF D.T D.L k fn sl o) (fun d _ os' H' => ∀ v, Rep D.K os' H' d v → Q v H') →
      codeAny (model D.prog D.w) A (.call (.ref (D.ad fn)) ⟨us, []⟩) (CR (L2N.CX D.prog D.w) outer D.prog D.w H s Q (WE W σ)) s
def CloOk (D : Wd) (k : Nat) : Prop := ∀ (base : Heap), Over D base → ∀ (f : Addr) (np nl : Nat) (b : IE) (ws : List V) (c' : Addr) (q : Str), CloH D base f np nl b ws c' q → ∀ (A : Around) (outer : List Env) (s : Shared) (H : Hp) (us : List Value) (vs : List V) (ds cap : List Ev.D) (os : List Addr) (o : Objs) (Q : VK) (W : WX) (σ : L2.St),
  Room k A → Env0 D.prog D.w D.K D.mg base A outer s H → H c' = some (LamX.CodeO c' q) → Vals vs us → Reps D.K os H ds vs → Reps D.K os H cap ws → OOk D.K os H o → LamX.Tabs D.tbs H →
    Out (D.pm D.base k) D.K W σ os H (callC D.T D.L k np nl b cap ds o) (fun d _ os' H' => ∀ v, Rep D.K os' H' d v → Q v H') →
      codeAny (model D.prog D.w) A (.call (.ref f) ⟨us, []⟩) (CR (L2N.CX D.prog D.w) outer D.prog D.w H s Q (WE W σ)) s
end Ev

set_option maxHeartbeats 2000000
/-! EvM: the rules of calls. -/
namespace Ev
open PySem PySem.Spec PyProof.Rows L2

structure Wd.Ok (D : Wd) : Prop where
  mod : Mod D.K D.mg D.base
  fn : ∀ f ∈ D.defs, D.mg f = some (.ref (D.ad f)) ∧ PySem.W.keepIn D.K (.ref (D.ad f)) = true
  con : ∀ x d, D.T.con x = some d → ∃ v u, D.mg x = some u ∧ RelV v u ∧ ∀ os H, Rep D.K os H d v
  blt : ∀ x ∈ builtins, D.mg x = none
  exc : ∀ c ∈ D.clss, ∃ B newId initId bmB, ExcBaseFacts B newId initId bmB ∧ PySem.W.excIn D.K (D.ad c) bmB newId = true ∧ D.mg c = some (.ref (D.ad c)) ∧ PySem.W.keepIn D.K (.ref (D.ad c)) = true ∧
    PySem.W.subIn D.K (.ref (D.ad c)) (.type "BaseException") = some true ∧ PySem.W.typeIn D.K (.ref (D.ad c)) = some (.type "type") ∧ ExcC D.K (D.ad c)
  exm : ∀ c' ∈ D.clss, ∀ c ∈ D.clss, PySem.W.exmOne D.K (.ref (D.ad c')) (.ref (D.ad c)) = some (D.T.isa c' c) ∧ PySem.W.kitOne D.K (.ref (D.ad c')) (.ref (D.ad c)) = some (D.T.isa c' c)
  exv : ∀ c' ∈ D.clss, PySem.W.kitOne D.K (.ref (D.ad c')) (.type "ValueError") = some (D.T.isa c' "ValueError")
/-- the context X is of the world D, at the depth k, of the scope Γ; e: what is caught -/
structure Good (D : Wd) (k : Nat) (e : Addr → Str → Prop) (X : Cx) (W : WX) (Γ : Scp) : Prop where
  fit : Fits X Γ
  ok : D.Ok
  prog : X.prog = D.prog
  w : X.w = D.w
  K : X.K = D.K
  mg : X.mg = D.mg
  over : Over D X.base
  tk : L2N.Takes X W
  room : Γ.hot = false → Room k X.A
  defs : Γ.defs = D.defs
  clss : Γ.clss = D.clss
  lamT : Γ.lam = true → ∃ c P, LamX.TabB X.base X.mg c P ∧ X.env.code = .ref c ∧ (P, X.env.qual ++ "<lambda>") ∈ D.tbs ∧ (∀ q ∈ D.tbs, q.1 = P → q.2 = X.env.qual ++ "<lambda>") ∧ ∀ x, X.fn x = true
  isx : Γ.isx = true → ∀ a c' c, e a c' → (c ∈ D.clss ∨ c = "ValueError") → Gl X c → okName c = true → ∃ v, (∀ pos, PE X (.Name c pos) (tC v)) ∧ CallR X (.builtin "isinstance") fun xs H Q => xs = [.ref a, v] ∧ Q (.bl (D.T.isa c' c)) H
section
variable {D : Wd} {k : Nat} {ex : Addr → Str → Prop} {X : Cx} {W : WX} {Γ : Scp}
/-- what is run -/
abbrev pmX (D : Wd) (k : Nat) (ex : Addr → Str → Prop) (X : Cx) : Pm := (D.pm X.base k).withExc ex
theorem Good.env (g : Good D k ex X W Γ) {pins : List (Addr × Obj)} {σ : L2.St} {H : Hp} {s : Shared} (I : Inv X pins σ H s) : Env0 D.prog D.w D.K D.mg X.base X.A X.stack s H := by
  have e := I.env0
  rw [g.prog, g.w, g.K, g.mg] at e
  exact e
/-- behind a call -/
theorem Good.after (g : Good D k ex X W Γ) {pins : List (Addr × Obj)} {σ : L2.St} {H : Hp} {s : Shared} {Q : VK} {f : Addr} {us : List Value} (I : Inv X pins σ H s)
    (rc : codeAny (model D.prog D.w) X.A (.call (.ref f) ⟨us, []⟩) (CR (L2N.CX D.prog D.w) X.stack D.prog D.w H s Q (WE W σ)) s) : wpAny (model X.prog X.w) X.A (call (.ref f) us) (EP X pins σ Q) X.xe s := by
  have pa := L2N.passAt g.tk σ
  rw [← g.prog, ← g.w] at rc
  refine wpAny_call (codeAny_mono rc fun r s' hq => ?_)
  cases r with
  | error e => exact pa pins H s e s' I hq
  | ok fl =>
    cases fl with
    | ret u => exact I.after hq
    | _ => exact hq.elim
/-- x(..), x a lambda that came in -/
theorem ge_callv (g : Good D k ex X W Γ) (hh : Γ.hot = false) (hC : CloOk D k) {i : Nat} {x : Str} {pn pos : Pos} {es : List Expr} {as : IEs} (hN : X.N[i]? = some x) (hv : Vis X.env.scope x) (hd : (x == ("__debug__" : Str)) = false) (hcd : (x == ("__classdict__" : Str)) = false)
    (ha : PA X es (tVs (pmX D k ex X) X.K W as)) (hs : ∀ e ∈ es, ∀ x y, e ≠ .Starred x y) (h0 : es = [] → as = .nil) : PE X (.Call (.Name x pn) es [] pos) (tE (pmX D k ex X) X.K W (.callv i as)) := by
  refine ⟨fun pins s σ H Q I ⟨ρ, os, o, A, h⟩ => ?_⟩
  have h : Out (pmX D k ex X) X.K W σ os H (match ρ[i]? with
    | some (.clo np nl body cap) => ((pmX D k ex X).evEs as ρ o).bind fun ds o1 => callC D.T D.L k np nl body cap ds o1
    | _ => .stuck) _ := h
  split at h
  · rename_i np nl b cap e
    obtain ⟨f, ws, c', q, e1, e2, e3, e4⟩ := A.env.clo i np nl b cap e
    have fin : ∀ s2 us vs H2, Inv X pins σ H2 s2 → Vals vs us → (∃ ds os2 o2, Post D.tbs os H os2 H2 ∧ At (pmX D k ex X) X.K os2 H2 σ ρ o2 ∧ Reps X.K os2 H2 ds vs ∧ Out (pmX D k ex X) X.K W σ os2 H2 (callC D.T D.L k np nl b cap ds o2) fun d _ os' H' => ∀ v, Rep X.K os' H' d v → Q v H') →
        wpAny (model X.prog X.w) X.A (call (.ref f) us) (EP X pins σ Q) X.xe s2 := fun s2 us vs H2 I2 r ⟨ds, os2, o2, P2, A2, r2, h2⟩ => by
      refine g.after I2 (hC X.base g.over f np nl b ws c' q e2 X.A X.stack s2 H2 us vs ds cap os2 o2 Q W σ (g.room hh) (g.env I2) (codeO_post P2 A.obs e4) r (by rw [← g.K]; exact r2) ?_ (by rw [← g.K]; exact A2.obs) A2.tab ?_)
      · rw [← g.K]
        exact Reps.post P2 A.obs cap e3
      · rw [← g.K]
        exact h2
    have fnA : ∀ {H2 : Hp} {s2 : Shared}, Inv X pins σ H2 s2 → PySem.W.FnAt f s2.heap := fun I2 => by
      obtain ⟨args, body, scope, cl, pm, ctv, Γ', n, fr, ho, _⟩ := e2
      exact ⟨_, _, _, _, I2.bk _ _ ho⟩
    refine wpAny_Call_Name_kw (thn ((pe_var (pos := pn) hN hv hd hcd).run pins s σ H (fun v H1 => v = .ref f ∧ H1 = H) I ⟨.ref f, e1, rfl, rfl⟩) fun u s1 ⟨v, H1, I1, r1, ev, eH⟩ => ?_)
    subst ev
    rw [eH] at I1
    obtain rfl : u = Value.ref f := r1
    have tv := tVs_of (R := fun vs H2 => ∃ ds os2 o2, Post D.tbs os H os2 H2 ∧ At (pmX D k ex X) X.K os2 H2 σ ρ o2 ∧ Reps X.K os2 H2 ds vs ∧ Out (pmX D k ex X) X.K W σ os2 H2 (callC D.T D.L k np nl b cap ds o2) fun d _ os' H' => ∀ v, Rep X.K os' H' d v → Q v H') A h fun ds o2 os2 H2 vs P2 A2 r2 h2 => ⟨ds, os2, o2, P2, A2, r2, h2⟩
    cases es with
    | nil =>
      refine PySem.W.callWith_F0 (first := []) (fnA I1) ?_
      rw [h0 rfl] at h
      exact fin s1 [] [] H I1 .nil ⟨[], os, o, .refl, A, .nil, h⟩
    | cons e0 es =>
      refine PySem.W.callWith_F (first := []) (fnA I1) (thn (ha.run pos pins s1 σ H _ I1 tv) fun us s2 ⟨vs, H2, I2, r, q2⟩ => ⟨fnA I2, ?_⟩) (starEach_ne _ (hs e0 List.mem_cons_self)) (backTo_ns fun e he => hs e (List.mem_cons_of_mem _ he))
      exact fin s2 us vs H2 I2 r q2
  · exact h.elim
/-! ### arguments, lambdas among them -/
/-- what an argument list leaves -/
def ArgsR (D : Wd) (X : Cx) (os : List Addr) (H : Hp) (s : Shared) (sl : List Slot) (us : List Value) : Prop := ∃ vs, Vals vs us ∧ SlotRs X.K (D.sp (fixed s.heap H (frs X.stack))) os H sl vs
theorem mapM_get {ρ : Frm} : ∀ {cap : List Nat} {cs : List Ev.D}, cap.mapM (getV ρ) = some cs → cs.length = cap.length ∧ ∀ (i j : Nat), cap[i]? = some j → ∃ d, cs[i]? = some d ∧ ρ[j]? = some (.val d)
  | [], cs, h => by
    have e : cs = [] := by simpa using h.symm
    subst e
    exact ⟨rfl, fun i j e => by simp at e⟩
  | a :: cap, cs, h => by
    rw [List.mapM_cons] at h
    cases e1 : getV ρ a with
    | none => rw [e1] at h; cases h
    | some d =>
      rw [e1] at h
      cases e2 : cap.mapM (getV ρ) with
      | none => rw [e2] at h; cases h
      | some ds =>
        rw [e2] at h
        have h : some (d :: ds) = some cs := h
        cases h
        obtain ⟨e3, e4⟩ := mapM_get e2
        refine ⟨by rw [List.length_cons, List.length_cons, e3], fun i j e => ?_⟩
        cases i with
        | zero =>
          have e' : a = j := by simpa using e
          subst e'
          exact ⟨d, rfl, getV_some e1⟩
        | succ i => exact e4 i j (by simpa using e)
theorem cOpts_get {α β : Type} {f : α → Option β} : ∀ {l : List α} {r : List β}, cOpts f l = some r → r.length = l.length ∧ ∀ (i : Nat) (b : β), r[i]? = some b → ∃ a, l[i]? = some a ∧ f a = some b
  | [], r, h => by
    unfold cOpts at h
    cases h
    exact ⟨rfl, fun i b e => by simp at e⟩
  | a :: l, r, h => by
    unfold cOpts at h
    split at h
    · rename_i b bs h1 h2
      cases h
      obtain ⟨e3, e4⟩ := cOpts_get h2
      refine ⟨by rw [List.length_cons, List.length_cons, e3], fun i c e => ?_⟩
      cases i with
      | zero =>
        have e' : b = c := by simpa using e
        subst e'
        exact ⟨a, rfl, h1⟩
      | succ i => exact e4 i c (by simpa using e)
    · cases h
/-- the captured values -/
theorem caps_rep {p : Pm} {K : PySem.W.Frag} {os : List Addr} {H : Hp} {o : Objs} {σ : L2.St} {ρ : Frm} (A : At p K os H σ ρ o) : ∀ {cap : List Nat} {cs : List Ev.D}, cap.mapM (getV ρ) = some cs → ∃ vs : List V, Reps K os H cs vs ∧ cap.map (NdefX.slotAt σ) = vs.map some
  | [], cs, h => by
    have e : cs = [] := by simpa using h.symm
    subst e
    exact ⟨[], .nil, rfl⟩
  | a :: cap, cs, h => by
    rw [List.mapM_cons] at h
    cases e1 : getV ρ a with
    | none => rw [e1] at h; cases h
    | some d =>
      rw [e1] at h
      cases e2 : cap.mapM (getV ρ) with
      | none => rw [e2] at h; cases h
      | some ds =>
        rw [e2] at h
        have h : some (d :: ds) = some cs := h
        cases h
        obtain ⟨vs, e3, e4⟩ := caps_rep A e2
        obtain ⟨v, e5, e6⟩ := A.env.val a d (getV_some e1)
        refine ⟨v :: vs, .cons e6 e3, ?_⟩
        rw [List.map_cons, List.map_cons, e4, NdefX.slotAt_of e5]
theorem extN_post {T : Tbs} {os : List Addr} {H H1 : Hp} (P : LamX.ExtN H H1) (t : LamX.Tabs T H1) : Post T os H os H1 := by
  refine ⟨⟨[], by simp, by simp⟩, fun b u e _ nt => P b u e nt, fun b n u e => ?_, fun _ => t⟩
  by_cases h : ∃ ps, u = .tbl ps
  · exact h
  · exact n u (P b u e fun ps z => h ⟨ps, z⟩)
end
end Ev

set_option maxHeartbeats 2000000
/-! EvN: arguments, the call of a def. -/
namespace Ev
open PySem PySem.Spec PyProof.Rows L2

section
variable {D : Wd} {k : Nat} {ex : Addr → Str → Prop} {X : Cx} {W : WX} {Γ : Scp}
theorem lamParams_some {a : Arguments} {ps : List Str} (h : lamParams a = some ps) : ∃ args, a = ⟨[], args, none, [], [], none, []⟩ ∧ ps = args.map (·.arg) := by
  unfold lamParams at h
  split at h
  · rename_i args
    cases h
    exact ⟨args, rfl, rfl⟩
  · cases h
theorem OOk.extN {K : PySem.W.Frag} {T : Tbs} {os : List Addr} {H H1 : Hp} {o : Objs} (O : OOk K os H o) (e : LamX.ExtN H H1) (P : Post T os H os H1) : OOk K os H1 o where
  len := O.len
  at_ := fun i so q => by
    obtain ⟨a, e1, e2⟩ := O.at_ i so q
    refine ⟨a, e1, ?_⟩
    cases so with
    | lst ds =>
      obtain ⟨xs, h1, h2⟩ := e2
      exact ⟨xs, e _ _ h1 (fun _ z => by cases z), Reps.post P O ds h2⟩
  nd := O.nd
theorem fs_stack {pins : List (Addr × Obj)} {σ : L2.St} {H : Hp} {s : Shared} (I : Inv X pins σ H s) {f : Addr} (h : f ∉ frs X.stack) : f ∉ X.fs := by
  rcases I.ok.stk with e | ⟨e, hf⟩
  · rw [e] at h; exact h
  · intro hm
    refine h ?_
    rw [e]
    unfold frs
    rw [List.filterMap_cons, hf]
    exact List.mem_cons_of_mem _ hm
theorem cE_lamb {n : Nat} {a : Arguments} {b : Expr} {sc : Scope} {q : Pos} {ie : IE} (h : cE n Γ (.Lambda a b sc q) = some ie) : False := by
  cases n <;> (unfold cE at h; cases h)
theorem cE_star {n : Nat} {a : Expr} {q : Pos} {ie : IE} (h : cE n Γ (.Starred a q) = some ie) : False := by
  cases n <;> (unfold cE at h; cases h)
theorem cE_ns {n : Nat} {e : Expr} {ie : IE} (h : cE n Γ e = some ie) : ∀ x y, e ≠ .Starred x y := fun x y z => by
  subst z
  exact cE_star h
/-- the list's head -/
theorem cAs_val {n : Nat} {e : Expr} {r : List Expr} {ias : IAs} (hl : ∀ a b c d, e ≠ .Lambda a b c d) (h : cE.cAs Γ (cE n Γ) (cE n) (e :: r) = some ias) : ∃ a as, cE n Γ e = some a ∧ cE.cAs Γ (cE n Γ) (cE n) r = some as ∧ ias = .val a as := by
  have key : ∀ (x : Option IE) (y : Option IAs), (match x, y with
      | some a, some as => some (IAs.val a as)
      | _, _ => none) = some ias → ∃ a as, x = some a ∧ y = some as ∧ ias = .val a as := fun x y q => by
    cases x with
    | none => cases q
    | some a =>
      cases y with
      | none => cases q
      | some as =>
        have q : some (IAs.val a as) = some ias := q
        cases q
        exact ⟨a, as, rfl, rfl, rfl⟩
  cases e <;> first
    | exact absurd rfl (hl _ _ _ _)
    | (unfold cE.cAs at h
       exact key _ _ h)
theorem cAs_lam {n : Nat} {a : Arguments} {body : Expr} {scope : Scope} {q : Pos} {r : List Expr} {ias : IAs} (h : cE.cAs Γ (cE n Γ) (cE n) (.Lambda a body scope q :: r) = some ias) : ∃ ps r' b cap N', Γ.lam = true ∧ lamParams a = some ps ∧ cE.cAs Γ (cE n Γ) (cE n) r = some r' ∧
    NdefX.nscB N' ps (freeOf scope) scope = true ∧ NdefX.ndefB Γ.sc scope (freeOf scope) = true ∧ cE n { N := N', sc := scope, muts := [], lam := false, isx := false, objs := false, hot := false, defs := Γ.defs, clss := Γ.clss } body = some b ∧ cOpts (fun x => cSlot Γ x) (freeOf scope) = some cap ∧ ias = .lam ps.length N'.length b cap r' := by
  unfold cE.cAs at h
  split at h
  · rename_i ps r' h1 h2 h3
    simp only at h
    split at h
    · cases h
    · rename_i hn
      simp only [Bool.not_eq_true', Bool.not_eq_false, Bool.and_eq_true] at hn
      split at h
      · rename_i b cap h4 h5
        cases h
        exact ⟨ps, r', b, cap, _, h1, h2, h3, hn.1, hn.2, h4, h5, rfl⟩
      · cases h
  · cases h
theorem backTo_cons {posn : Pos} {t : Sem Value} {l : List (Bool × Sem Value)} : backTo posn ((false, t) :: l) = (false, t) :: backTo posn l := rfl
theorem args_ok (g : Good D k ex X W Γ) (n : Nat) (hE : ∀ e ie, cE n Γ e = some ie → PE X e (tE (pmX D k ex X) X.K W ie)) : ∀ (es : List Expr) (ias : IAs), cE.cAs Γ (cE n Γ) (cE n) es = some ias →
    ∀ (posn : Pos) (pins : List (Addr × Obj)) (s : Shared) (σ : L2.St) (H : Hp) (ρ : Frm) (os : List Addr) (o : Objs) (R : List Value → Shared → Prop), Inv X pins σ H s → At (pmX D k ex X) X.K os H σ ρ o →
      Out (pmX D k ex X) X.K W σ os H ((pmX D k ex X).evAs ias ρ o) (fun sl _ os' H' => ∀ s' us, Inv X pins σ H' s' → ArgsR D X os' H' s' sl us → R us s') →
        wpAny (model X.prog X.w) X.A (spliced (backTo posn (starEach es X.env))) R X.xe s
  | [], ias, hc, posn, pins, s, σ, H, ρ, os, o, R, I, A, h => by
    unfold cE.cAs at hc
    cases hc
    exact Calls.spliced_nil (h.ok A.obs s [] I ⟨[], .nil, .nil⟩)
  | e :: es, ias, hc, posn, pins, s, σ, H, ρ, os, o, R, I, A, h => by
    by_cases hl : ∃ a b c d, e = .Lambda a b c d
    · obtain ⟨a, body, scope, lpos, rfl⟩ := hl
      obtain ⟨ps, r', b, cap, N', hlam, hps, hr, hn1, hn2, hb, hcap, rfl⟩ := cAs_lam hc
      obtain ⟨args, rfl, rfl⟩ := lamParams_some hps
      obtain ⟨c, P, TB, hcode, hmT, hu, hfn⟩ := g.lamT hlam
      have h : Out (pmX D k ex X) X.K W σ os H (match cap.mapM (getV ρ) with
        | some cs => ((pmX D k ex X).evAs r' ρ o).bind fun ds o2 => .ok (.clo (args.map (·.arg)).length N'.length b cs :: ds) o2
        | none => .stuck) _ := h
      cases ecs : cap.mapM (getV ρ) with
      | none => rw [ecs] at h; exact h.elim
      | some cs =>
        rw [ecs] at h
        have hfree : ∀ y ∈ scope.names, y.2 = .free → X.env.scope.names.lookup y.1 = some .cell ∨ X.env.scope.names.lookup y.1 = some .free := fun y hy e => by
          rw [g.fit.sc]
          exact NdefX.ndef_free hn2 y hy e
        have hfree' : ∀ y ∈ scope.names, y.2 = .free → ∃ c, X.env.cells.lookup y.1 = some c := fun y hy e => (hfree y hy e).elim (fun z => I.ok.has _ (.inl z)) fun z => I.ok.has _ (.inr z)
        rw [starEach_ne _ (fun x y z => by cases z)]
        rw [backTo_cons]
        refine Calls.spliced_cons (LamX.lam_make2 I TB hcode hmT hu A.tab rfl hfree' fun f c' pm ctv H1 s1 I1 eN T1 ho hf hfr hco => ?_)
        have P1 : Post D.tbs os H os H1 := extN_post eN T1
        have A1 : At (pmX D k ex X) X.K os H1 σ ρ o := A.next P1 (A.obs.extN eN P1)
        obtain ⟨ws, hws, hsl⟩ := caps_rep A ecs
        have I1' : Inv X (pins ++ [(f, kla (X.env.qual ++ "<lambda>") args body scope (cloFrom X.env.cells scope.names []) pm c' ctv)]) σ H1 s1 := by
          refine I1.pins_of fun q hq => ?_
          rcases List.mem_append.mp hq with hq | hq
          · exact I1.pin q (List.mem_append_right _ hq)
          · obtain rfl := List.mem_singleton.mp hq
            refine ⟨ho, hf, fun z => ?_, fs_stack I1 hfr, fun v z => by cases z⟩
            have z : f = X.env.locals := z
            obtain ⟨m, ⟨o', es', ep, ho', hd', _⟩, _⟩ := I1.loc
            rw [z, ho'] at ho
            cases ho
            cases hd'
        refine args_ok g n hE es r' hr posn _ s1 σ H1 ρ os o _ I1' A1 ((h.step P1).bind.mono fun sl o2 os2 H2 _ P2 O2 h2 s2 us I2 ⟨vs, hv, hs⟩ => ?_)
        have pin := I2.pin (f, kla (X.env.qual ++ "<lambda>") args body scope (cloFrom X.env.cells scope.names []) pm c' ctv) (List.mem_append_right _ (List.mem_append_right _ (by simp)))
        have I2' : Inv X pins σ H2 s2 := I2.pins_of fun q hq => I2.pin q (List.mem_append_right _ (List.mem_append_left _ hq))
        refine h2.ok O2 s2 (.ref f :: us) I2' ⟨.ref f :: vs, .cons rfl hv, .cons ⟨f, ws, c', X.env.qual ++ "<lambda>", rfl, ?_, Reps.post (P1.trans P2) A.obs cs hws, codeO_post P2 A1.obs hco⟩ hs⟩
        -- the function and its cells, as they stand
        have caps : NdefX.Caps X (cloFrom X.env.cells scope.names []) (freeOf scope) cap := by
          refine NdefX.Caps.made I2.ok hfree (NdefX.ndef_fr hn2) ?_
          obtain ⟨e1, e2⟩ := cOpts_get hcap
          apply List.ext_getElem?
          intro i
          rw [List.getElem?_map, List.getElem?_map]
          by_cases hi : i < cap.length
          · obtain ⟨x, e3, e4⟩ := e2 i cap[i] (List.getElem?_eq_getElem hi)
            rw [List.getElem?_eq_getElem hi, e3]
            have e5 := (cSlot_some e4).1
            rw [← g.fit.N] at e5
            show some (X.N[cap[i]]?) = some (some x)
            rw [e5]
          · rw [List.getElem?_eq_none (by omega), List.getElem?_eq_none (by omega)]
            rfl
        have C := NdefX.cells_of I2 caps
        rw [hsl] at C
        have cf : ∀ {y : Str} {c : Addr}, (cloFrom X.env.cells scope.names []).lookup y = some c → c ∉ frs X.stack := fun {y c} e hm => by
          have e' := caps.sub y c e
          rcases List.mem_cons.mp (I2.stkSub c hm) with z | z
          · exact I2.cne y c e' z
          · obtain ⟨_, o', ho', _⟩ := I2.ok.funs.mem z
            have z1 := I2.ok.cab y c (hfn y) e'
            exact absurd (Nat.lt_of_lt_of_le (Heap.lt_size ho') z1) (Nat.lt_irrefl _)
        have fx : ∀ {y : Str} {c : Addr} {v : Option Value}, (cloFrom X.env.cells scope.names []).lookup y = some c → s2.heap.IsCell c v → (fixed s2.heap H2 (frs X.stack)).IsCell c v := fun {y c v} e ⟨o', e1, e2⟩ => ⟨o', fixed_get e1 (C.all y c e).1 (cf e), e2⟩
        refine ⟨args, body, scope, cloFrom X.env.cells scope.names [], pm, ctv, { N := N', sc := scope, muts := [], lam := false, isx := false, objs := false, hot := false, defs := Γ.defs, clss := Γ.clss }, n, freeOf scope, fixed_get pin.1 pin.2.1 hfr, NdefX.nscope_by hn1, by simp, rfl, ⟨rfl, rfl, rfl, rfl, g.defs, g.clss⟩, hb, by simpa using C.len.symm, fun y c e => ?_, C.inj, fun i y e => ?_⟩
        · obtain ⟨v, z⟩ := (C.all y c e).2
          exact ⟨v, fx e z⟩
        · obtain ⟨c, e1, e2⟩ := C.has i y e
          refine ⟨c, e1, fun v ev => ?_⟩
          obtain ⟨u, r, z⟩ := e2 v (by rw [List.getElem?_map, ev]; rfl)
          exact ⟨u, r, fx e1 z⟩
    · obtain ⟨a, as, ha, hr, rfl⟩ := cAs_val (fun a b c d z => hl ⟨a, b, c, d, z⟩) hc
      rw [starEach_ne _ (cE_ns ha)]
      rw [backTo_cons]
      refine Calls.spliced_cons (thn ((hE e a ha).run pins s σ H _ I (tE_of A h fun d o1 os1 H1 v P1 A1 r1 h1 => (⟨d, o1, os1, P1, A1, r1, h1⟩ : ∃ d o1 os1, Post D.tbs os H os1 H1 ∧ At (pmX D k ex X) X.K os1 H1 σ ρ o1 ∧ Rep X.K os1 H1 d v ∧ Out (pmX D k ex X) X.K W σ os1 H1 (((pmX D k ex X).evAs as ρ o1).bind fun ds o2 => .ok (.val d :: ds) o2) _))) ?_)
      rintro u s1 ⟨v, H1, I1, ru, d, o1, os1, P1, A1, r1, h1⟩
      refine args_ok g n hE es as hr posn pins s1 σ H1 ρ os1 o1 _ I1 A1 (h1.bind.mono fun sl o2 os2 H2 _ P2 O2 h2 s2 us I2 ⟨vs, hv, hs⟩ => ?_)
      exact h2.ok O2 s2 (u :: us) I2 ⟨v :: vs, .cons ru hv, .cons (Rep.post P2 A1.obs d r1) hs⟩
/-- f(..), f a def -/
theorem ge_call (g : Good D k ex X W Γ) (hh : Γ.hot = false) (hC : CallsOk D k) (n : Nat) (hE : ∀ e ie, cE n Γ e = some ie → PE X e (tE (pmX D k ex X) X.K W ie)) {f : Str} {pn pos : Pos} {es : List Expr} {ias : IAs} (hg : Gl X f) (hd : (f == ("__debug__" : Str)) = false)
    (hf : f ∈ D.defs) (hc : cE.cAs Γ (cE n Γ) (cE n) es = some ias) (hs : ∀ e ∈ es, ∀ x y, e ≠ .Starred x y) : PE X (.Call (.Name f pn) es [] pos) (tE (pmX D k ex X) X.K W (.call f ias)) := by
  refine ⟨fun pins s σ H Q I ⟨ρ, os, o, A, h⟩ => ?_⟩
  obtain ⟨hm, hk⟩ := g.ok.fn f hf
  rw [← g.mg] at hm
  rw [← g.K] at hk
  have h : Out (pmX D k ex X) X.K W σ os H (((pmX D k ex X).evAs ias ρ o).bind fun sl o1 => callF D.T D.L k f sl o1) _ := h
  have key : wpAny (model X.prog X.w) X.A (spliced (backTo pos (starEach es X.env))) (fun us s1 => X.K.In s1.heap ∧ wpAny (model X.prog X.w) X.A (call (.ref (D.ad f)) us) (EP X pins σ Q) X.xe s1) X.xe s := by
    refine args_ok g n hE es ias hc pos pins s σ H ρ os o _ I A (h.bind.mono fun sl o1 os1 H1 _ P1 O1 h1 s1 us I1 ⟨vs, hv, hs⟩ => ⟨I1.kIn, ?_⟩)
    have A1 := A.next P1 O1
    cases ef : D.T.fn f with
    | none =>
      have z : callF D.T D.L k f sl o1 = .stuck := by
        cases k with
        | zero => rfl
        | succ k =>
          show (match D.T.fn f with | some ir => _ | none => _) = _
          rw [ef]
      rw [z] at h1
      exact h1.elim
    | some ir =>
      refine g.after I1 (hC f ir ef X.A X.stack s1 H1 us vs sl os1 o1 Q W σ (g.room hh) (env0_base g.over g.ok.mod (g.env I1)) hv ?_ ?_ A1.tab ?_)
      · rw [← g.K]; exact hs
      · rw [← g.K]; exact O1
      · rw [← g.K]; exact h1
  refine wpAny_Call_Name_kw (ld_glob I hg hm ?_ hd)
  cases es with
  | nil =>
    unfold cE.cAs at hc
    cases hc
    refine PySem.W.callWith_K0 I.kIn hk ?_
    have z : wpAny (model X.prog X.w) X.A (pure []) (fun us s1 => X.K.In s1.heap ∧ wpAny (model X.prog X.w) X.A (call (.ref (D.ad f)) us) (EP X pins σ Q) X.xe s1) X.xe s := key
    have h1 : Out (pmX D k ex X) X.K W σ os H (callF D.T D.L k f [] o) _ := h
    cases ef : D.T.fn f with
    | none =>
      have z : callF D.T D.L k f [] o = .stuck := by
        cases k with
        | zero => rfl
        | succ k =>
          show (match D.T.fn f with | some ir => _ | none => _) = _
          rw [ef]
      rw [z] at h1
      exact h1.elim
    | some ir =>
      refine g.after I (hC f ir ef X.A X.stack s H [] [] [] os o Q W σ (g.room hh) (env0_base g.over g.ok.mod (g.env I)) .nil .nil ?_ A.tab ?_)
      · rw [← g.K]; exact A.obs
      · rw [← g.K]; exact h1
  | cons e0 es =>
    exact PySem.W.callWith_K (h₀ := X.base) I.ok.mod.kin hk key (starEach_ne _ (hs e0 List.mem_cons_self)) (backTo_ns fun e he => hs e (List.mem_cons_of_mem _ he))
end
end Ev

set_option maxHeartbeats 4000000
/-! EvO: expressions: the code tree's meaning is what the program does. -/
namespace Ev
open PySem PySem.Spec PyProof.Rows L2

section
variable {D : Wd} {k : Nat} {ex : Addr → Str → Prop} {X : Cx} {W : WX} {Γ : Scp} {p : Pm} {K : PySem.W.Frag}
/-! ### isinstance, globals -/
theorem ge_glob (g : Good D k ex X W Γ) {x : Str} {pos : Pos} (hg : Gl X x) (hd : (x == ("__debug__" : Str)) = false) : PE X (.Name x pos) (tE (pmX D k ex X) X.K W (.glob x)) := by
  refine ⟨fun pins s σ H Q I ⟨ρ, os, o, A, h⟩ => ?_⟩
  have h : Out (pmX D k ex X) X.K W σ os H (.ofO (D.T.con x) o) _ := h
  obtain ⟨d, e, h1⟩ := h.ofO
  obtain ⟨v, u, e1, r, q⟩ := g.ok.con x d e
  rw [← g.mg] at e1
  exact (pe_glob (pos := pos) hg e1 r hd).run pins s σ H Q I (h1.ok A.obs v (by rw [g.K]; exact q os H))
theorem TyX_of {K : PySem.W.Frag} {os : List Addr} {H : Hp} {d : Ev.D} {v : V} {ty : String} {b : Bool} (h : RepB K os H d v) (e : isiD d ty = some b) : ∃ t, TyX K H v (.type t) ∧ kitB t ty = some b := by
  cases d with
  | non => rw [h.non]; exact ⟨_, .base .non, e⟩
  | bl x => rw [h.bl]; exact ⟨_, .base (.bl x), e⟩
  | int x => rw [h.int]; exact ⟨_, .base (.int x), e⟩
  | str x => rw [h.str]; exact ⟨_, .base (.str x), e⟩
  | tup ds =>
    obtain ⟨a, xs, rfl, h1, _⟩ := h.tup
    rcases h1 with (h1 | ⟨ob, h1⟩) | ⟨ob, its, n, h1, h2, _⟩
    · exact ⟨_, .base (.tup h1), e⟩
    · exact ⟨_, .fTuple h1, e⟩
    · exact ⟨_, .kTuple h1 h2, e⟩
  | lst ds =>
    obtain ⟨a, xs, rfl, h1, _⟩ := h.lstR
    rcases h1 with h1 | ⟨ob, h1⟩
    · exact ⟨_, .base (.lst h1), e⟩
    · exact ⟨_, .base (.frz h1), e⟩
  | dct ks vs =>
    have q := h.of_ne (fun _ e => nomatch e)
    unfold Rep at q
    obtain ⟨_, _, a, ob, rfl, h1⟩ := q
    exact ⟨_, .fDict h1, e⟩
  | obj i => cases e
theorem tyOf_boot {x : Str} {ty : String} (h : tyOf x = some ty) : bootBuiltins x = some (.type ty) ∧ x ≠ "__name__" ∧ x ∈ builtins := by
  unfold tyOf at h
  split at h
  · rename_i e; subst e; cases h; exact ⟨rfl, by decide, by decide⟩
  · split at h
    · rename_i e; subst e; cases h; exact ⟨rfl, by decide, by decide⟩
    · split at h
      · rename_i e; subst e; cases h; exact ⟨rfl, by decide, by decide⟩
      · split at h
        · rename_i e; subst e; cases h; exact ⟨rfl, by decide, by decide⟩
        · split at h
          · rename_i e; subst e; cases h; exact ⟨rfl, by decide, by decide⟩
          · split at h
            · rename_i e; subst e; cases h; exact ⟨rfl, by decide, by decide⟩
            · cases h
theorem ge_isi (F : Fits X Γ) {ea : Expr} {a : IE} {c : Str} {ty : String} {pn pc pos : Pos} (hg : Gl X "isinstance") (hc : Gl X c) (ht : tyOf c = some ty) (hd : (c == ("__debug__" : Str)) = false) (ha : PE X ea (tB p X.K W a)) (hs : ∀ x y, ea ≠ .Starred x y) :
    PE X (.Call (.Name "isinstance" pn) [ea, .Name c pc] [] pos) (tE p X.K W (.isi a ty)) := by
  obtain ⟨h1, h2, h3⟩ := tyOf_boot ht
  have hm := F.blt _ h3
  have hm2 := F.blt "isinstance" (by decide)
  have pn' : PE X (.Name c pc) (tC (.ty ty)) := pe_bltn hc hm h1 rfl h2 hd
  refine pe_imp (pe_callB (id := "isinstance") call_isi hg hm2 (by rfl) (pa_cons ha (pa_cons pn' pa_nil (by rfl)) (starEach_ne _ hs)) (by decide) (by decide) (starEach_ne _ hs) (by rfl)) fun σ H Q ⟨ρ, os, o, A, h⟩ => tB_of A h fun x o1 os1 H1 vx P1 A1 r1 q1 => ?_
  obtain ⟨d, e, q2⟩ := q1.ofO
  obtain ⟨b, e1, rfl⟩ := Option.map_eq_some_iff.mp e
  obtain ⟨t, t1, t2⟩ := TyX_of r1 e1
  exact ⟨vx, .ty ty, .type t, .type ty, b, rfl, .ty ty, t1, kit_ty t2, q2.ok A1.obs _ (.mkBl b)⟩
theorem ge_isx (g : Good D k ex X W Γ) (hx : Γ.isx = true) {i : Nat} {x c : Str} {pn px pc pos : Pos} (hg : Gl X "isinstance") (hN : X.N[i]? = some x) (hv : Vis X.env.scope x) (hd : (x == ("__debug__" : Str)) = false) (hcd : (x == ("__classdict__" : Str)) = false)
    (hc : Gl X c) (hcl : c ∈ D.clss ∨ c = "ValueError") (hok : okName c = true) : PE X (.Call (.Name "isinstance" pn) [.Name x px, .Name c pc] [] pos) (tE (pmX D k ex X) X.K W (.isx i c)) := by
  refine ⟨fun pins s σ H Q I ⟨ρ, os, o, A, h⟩ => ?_⟩
  have h : Out (pmX D k ex X) X.K W σ os H (match ρ[i]? with
    | some (.exc c' _) => Res.ok (Ev.D.bl (D.T.isa c' c)) o
    | _ => Res.stuck) _ := h
  split at h
  · rename_i c' xs e
    obtain ⟨a, e1, e2⟩ := A.env.exc i c' xs e
    obtain ⟨v, pv, hr⟩ := g.isx hx a c' c e2 hcl hc hok
    have hm2 := g.fit.blt "isinstance" (by decide)
    refine (pe_callB (id := "isinstance") (pos := pos) (p := pn) hr hg hm2 (by rfl) (pa_cons (pe_var (pos := px) hN hv hd hcd) (pa_cons (pv pc) pa_nil (by rfl)) (by rfl)) (by decide) (by decide) (by rfl) (by rfl)).run pins s σ H Q I ?_
    exact ⟨.ref a, e1, rfl, h.ok A.obs _ (.mkBl _)⟩
  · exact h.elim
/-! ### compile's lists -/
theorem cEs_nil {f : Expr → Option IE} {as : IEs} (h : cEs f [] = some as) : as = .nil := by unfold cEs at h; cases h; rfl
theorem cEs_cons {f : Expr → Option IE} {e : Expr} {r : List Expr} {as : IEs} (h : cEs f (e :: r) = some as) : ∃ a as', f e = some a ∧ cEs f r = some as' ∧ as = .cons a as' := by
  unfold cEs at h
  split at h
  · rename_i a as' h1 h2
    cases h
    exact ⟨a, as', h1, h2, rfl⟩
  · cases h
theorem cEs_val {f : Expr → Option IE} (hf : ∀ e a, f e = some a → PE X e (tE p X.K W a) ∧ ∀ x y, e ≠ .Starred x y) : ∀ {es : List Expr} {as : IEs}, cEs f es = some as → PA X es (tVs p X.K W as) ∧ ∀ e ∈ es, ∀ x y, e ≠ .Starred x y
  | [], as, h => by
    rw [cEs_nil h]
    exact ⟨ga_nil, fun e he => absurd he (by simp)⟩
  | e :: r, as, h => by
    obtain ⟨a, as', h1, h2, rfl⟩ := cEs_cons h
    obtain ⟨q1, q2⟩ := hf e a h1
    obtain ⟨q3, q4⟩ := cEs_val hf h2
    exact ⟨ga_cons q1 q3 q2, fun e' he => (List.mem_cons.mp he).elim (fun z => by rw [z]; exact q2) (q4 e')⟩
theorem cEs_bor {f : Expr → Option IE} (hf : ∀ e a, f e = some a → PE X e (tB p X.K W a) ∧ ∀ x y, e ≠ .Starred x y) : ∀ {es : List Expr} {as : IEs}, cEs f es = some as → PA X es (tBs p X.K W as) ∧ ∀ e ∈ es, ∀ x y, e ≠ .Starred x y
  | [], as, h => by
    rw [cEs_nil h]
    exact ⟨gb_nil, fun e he => absurd he (by simp)⟩
  | e :: r, as, h => by
    obtain ⟨a, as', h1, h2, rfl⟩ := cEs_cons h
    obtain ⟨q1, q2⟩ := hf e a h1
    obtain ⟨q3, q4⟩ := cEs_bor hf h2
    exact ⟨gb_cons q1 q3 q2, fun e' he => (List.mem_cons.mp he).elim (fun z => by rw [z]; exact q2) (q4 e')⟩
/-- what is said of an expression -/
structure Snd (p : Pm) (W : WX) (X : Cx) (e : Expr) (ie : IE) : Prop where
  val' : PE X e (tE p X.K W ie)
  new' : isNew ie = true → PE X e (tM p X.K W ie)
  test : PT X e (tT p X.K W ie)
/-- the test is the value's truth -/
def plainT (e : Expr) : Prop := ∀ env whole, isTrue e env whole = (do let v ← whole; standAt e.pos; holding [v] (truthy v))
theorem Snd.val {e : Expr} {ie : IE} (h : PE X e (tE p X.K W ie)) (n : isNew ie = false) (he : plainT e) : Snd p W X e ie := ⟨h, fun z => (by rw [n] at z; cases z), pt_plain h (he X.env)⟩
theorem Snd.new {e : Expr} {ie : IE} (h : PE X e (tM p X.K W ie)) (he : plainT e) : Snd p W X e ie := ⟨pe_M h, fun _ => h, pt_plain (pe_M h) (he X.env)⟩
/-- a borrowed operand -/
theorem cB_ok (F : Fits X Γ) {f : Expr → Option IE} (hf : ∀ e a, f e = some a → PE X e (tE p X.K W a) ∧ ∀ x y, e ≠ .Starred x y) {e : Expr} {a : IE} (h : cB Γ f e = some a) : PE X e (tB p X.K W a) ∧ ∀ x y, e ≠ .Starred x y := by
  unfold cB at h
  split at h
  · split at h
    · rename_i i e1
      cases h
      obtain ⟨h1, h2, h3⟩ := cSlot_some e1
      obtain ⟨d1, d2, _⟩ := okName_d h3
      exact ⟨ge_bor (by rw [F.N]; exact h1) (by rw [F.sc]; exact h2) d1 d2, fun x y z => by cases z⟩
    · obtain ⟨q1, q2⟩ := hf _ _ h
      exact ⟨pe_B q1, q2⟩
  · obtain ⟨q1, q2⟩ := hf _ _ h
    exact ⟨pe_B q1, q2⟩
end
end Ev

set_option maxHeartbeats 4000000
/-! EvP: expressions, all of them. -/
namespace Ev
open PySem PySem.Spec PyProof.Rows L2

section
variable {D : Wd} {k : Nat} {ex : Addr → Str → Prop} {X : Cx} {W : WX} {Γ : Scp} {p : Pm}
theorem cBool_and {f : Expr → Option IE} (hf : ∀ e a, f e = some a → Snd p W X e a) {pos : Pos} : ∀ {vs : List Expr} {ie : IE}, cBool .and f vs = some ie → Snd p W X (.BoolOp .And vs pos) ie ∧ PW X (.BoolOp .And vs pos) (tT p X.K W ie)
  | [], ie, h => by unfold cBool at h; cases h
  | [e], ie, h => by
    unfold cBool at h
    have s := hf e ie h
    exact ⟨⟨pe_one s.val', fun z => pe_one (s.new' z), (pw_and1 s.test).pt⟩, pw_and1 s.test⟩
  | e :: e2 :: r, ie, h => by
    unfold cBool at h
    split at h
    · rename_i a b h1 h2
      cases h
      have s := hf e a h1
      obtain ⟨s2, w2⟩ := cBool_and hf (pos := pos) h2
      have w := gw_and (pos := pos) s.test w2
      exact ⟨⟨ge_and s.val' s2.val', fun z => (by cases z), w.pt⟩, w⟩
    · cases h
theorem cBool_or {f : Expr → Option IE} (hf : ∀ e a, f e = some a → Snd p W X e a) {pos : Pos} : ∀ {vs : List Expr} {ie : IE}, cBool .or f vs = some ie → Snd p W X (.BoolOp .Or vs pos) ie ∧ PW X (.BoolOp .Or vs pos) (tT p X.K W ie)
  | [], ie, h => by unfold cBool at h; cases h
  | [e], ie, h => by
    unfold cBool at h
    have s := hf e ie h
    exact ⟨⟨pe_one s.val', fun z => pe_one (s.new' z), (pw_or1 s.test).pt⟩, pw_or1 s.test⟩
  | e :: e2 :: r, ie, h => by
    unfold cBool at h
    split at h
    · rename_i a b h1 h2
      cases h
      have s := hf e a h1
      obtain ⟨s2, w2⟩ := cBool_or hf (pos := pos) h2
      have w := gw_or (pos := pos) s.test w2
      exact ⟨⟨ge_or s.val' s2.val', fun z => (by cases z), w.pt⟩, w⟩
    · cases h
theorem cOpt_ok {f : Expr → Option IE} (hf : ∀ e a, f e = some a → PE X e (tE p X.K W a)) {e : Option Expr} {l : IEo} (h : cOpt f e = some l) : PO X e (tO p X.K W l) := by
  cases e with
  | none => unfold cOpt at h; cases h; exact go_none
  | some e =>
    unfold cOpt at h
    obtain ⟨a, e1, rfl⟩ := Option.map_eq_some_iff.mp h
    exact go_some (hf e a e1)
theorem tX_t {e : Expr} {a : IE} (h : PE X e (tB p X.K W a)) : PE X e (tX true p X.K W a) := h
theorem tX_f {m : Bool} {e : Expr} {a : IE} (h : PE X e (tE p X.K W a)) : PE X e (tX m p X.K W a) := by
  cases m with
  | true => exact pe_B h
  | false => exact h
theorem cBb_ok (F : Fits X Γ) {br : Bool} {f : Expr → Option IE} (hf : ∀ e a, f e = some a → PE X e (tE p X.K W a) ∧ ∀ x y, e ≠ .Starred x y) {e : Expr} {a : IE} (h : cBb br Γ f e = some a) : PE X e (tX br p X.K W a) ∧ ∀ x y, e ≠ .Starred x y := by
  unfold cBb at h
  split at h
  · rename_i hb
    subst hb
    exact cB_ok F hf h
  · obtain ⟨q1, q2⟩ := hf _ _ h
    exact ⟨tX_f q1, q2⟩
theorem isTupE_tup {e : Expr} (h : isTupE e = true) : ∃ es k pos, e = .Tuple es k pos := by
  cases e <;> first
    | exact ⟨_, _, _, rfl⟩
    | cases h
theorem cSrc_ok (F : Fits X Γ) {br : Bool} {f : Expr → Option IE} (hf : ∀ e a, f e = some a → PE X e (tE p X.K W a) ∧ ∀ x y, e ≠ .Starred x y) {tg iter : Expr} {s : ISrc} (h : cSrc Γ br f (isTupE tg) iter = some s) : PI X tg iter (tS br p X.K W s) := by
  have seq : ∀ {e : Expr} {s : ISrc}, (f e).map ISrc.seq = some s → PI X tg e (tS br p X.K W s) := fun {e s} h => by
    obtain ⟨a, e1, rfl⟩ := Option.map_eq_some_iff.mp h
    exact gs_seq (tX_f (hf e a e1).1)
  unfold cSrc at h
  split at h
  · rename_i g pn args pos
    split at h
    · rename_i hg
      rw [Bool.and_eq_true] at hg
      have gl := isGl_gl F hg.1
      split at h
      · rename_i e1
        subst e1
        have hm := F.blt "range" (by decide)
        split at h
        · obtain ⟨a, e1, rfl⟩ := Option.map_eq_some_iff.mp h
          obtain ⟨q1, q2⟩ := hf _ _ e1
          exact gs_range1 gl hm q1 q2
        · split at h
          · rename_i x y h1 h2
            cases h
            obtain ⟨q1, q2⟩ := hf _ _ h1
            obtain ⟨q3, q4⟩ := hf _ _ h2
            exact gs_range2 gl hm q1 q3 q2 q4
          · cases h
        · cases h
      · split at h
        · rename_i e1
          subst e1
          have hm := F.blt "zip" (by decide)
          split at h
          · rename_i ht
            obtain ⟨es, kk, tp, rfl⟩ := isTupE_tup ht
            split at h
            · rename_i x y h1 h2
              cases h
              obtain ⟨q1, q2⟩ := cBb_ok F hf h1
              obtain ⟨q3, q4⟩ := cBb_ok F hf h2
              exact gs_zip gl hm q1 q3 q2 q4
            · cases h
          · cases h
        · split at h
          · rename_i e1
            subst e1
            have hm := F.blt "enumerate" (by decide)
            split at h
            · rename_i ht
              obtain ⟨es, kk, tp, rfl⟩ := isTupE_tup ht
              obtain ⟨a, e1, rfl⟩ := Option.map_eq_some_iff.mp h
              obtain ⟨q1, q2⟩ := cBb_ok F hf e1
              exact gs_enum gl hm q1 q2
            · cases h
          · exact seq h
    · exact seq h
  · obtain ⟨a, e1, rfl⟩ := Option.map_eq_some_iff.mp h
    exact gs_seq (cBb_ok F hf e1).1
theorem fsi_plain {iter : Expr} (h : ∀ a b c, iter ≠ .Set a b c) (env : Env) : ∀ x, foldedSetIterable iter env x = pure x := by
  intro x
  cases iter <;> first
    | exact absurd rfl (h _ _ _)
    | rfl
theorem cE_set {n : Nat} {a b c} {ie : IE} (h : cE n Γ (.Set a b c) = some ie) : False := by
  cases n <;> (unfold cE at h; cases h)
theorem cSrc_set {n : Nat} {br : Bool} {t : Bool} {iter : Expr} {s : ISrc} (h : cSrc Γ br (cE n Γ) t iter = some s) : ∀ a b c, iter ≠ .Set a b c := fun a b c z => by
  subst z
  unfold cSrc at h
  obtain ⟨a, e1, _⟩ := Option.map_eq_some_iff.mp h
  unfold cBb at e1
  split at e1
  · unfold cB at e1
    exact cE_set e1
  · exact cE_set e1
theorem ite_some {c : Prop} [Decidable c] {b b' : Bif} {r : Option Bif} (h : (if c then some b' else r) = some b) : (c ∧ b' = b) ∨ r = some b := by
  by_cases hc : c
  · rw [if_pos hc] at h
    exact .inl ⟨hc, Option.some.inj h⟩
  · rw [if_neg hc] at h
    exact .inr h
theorem bifOf_n {x : Str} {n : Nat} {b : Bif} (h : bifOf x n = some b) : x = bifN b ∧ n ≠ 0 := by
  unfold bifOf at h
  iterate 14 (rcases ite_some h with ⟨e, rfl⟩ | h; · exact ⟨e.1, fun z => by rw [z] at e; exact absurd e.2 (by decide)⟩)
  cases h
theorem bifN_in (b : Bif) : bifN b ∈ builtins := by cases b <;> decide
/-- within a comprehension -/
theorem Good.blk (g : Good D k ex X W Γ) (hh : Γ.hot = false) (scope : Scope) (hk : scope.kind = .function) (s : Shared) (H : Hp) (C : Addr) (cl : List (Str × Addr)) (fp : List Addr) :
    Good D k ex (X.blk s H scope (compEnvC scope cl C X.env) fp) WF { Γ with sc := L2.relS scope Γ.sc, lam := false, isx := false, muts := [] } where
  fit := ⟨g.fit.N, g.fit.nd, hk, by show L2.relS scope X.env.scope = _; rw [g.fit.sc], g.fit.un, g.fit.calm, fun z => (by
    have z : Γ.hot = true := z
    rw [hh] at z
    cases z), g.fit.blt⟩
  ok := g.ok
  prog := g.prog
  w := g.w
  K := g.K
  mg := g.mg
  over := g.over
  tk := fun u s' ⟨_, _, _, _, _, _, _, _, _, _, _, _, _, _, _, _, z⟩ => z.elim
  room := g.room
  defs := g.defs
  clss := g.clss
  lamT := fun z => by cases z
  isx := fun z => by cases z
theorem Good.blkH (g : Good D k ex X W Γ) {p : Addr × Obj} (h1 : L2H.Hot1 X.A p) (scope : Scope) (hk : scope.kind = .function) (s : Shared) (H : Hp) (C : Addr) (cl : List (Str × Addr)) (fp : List Addr) :
    Good D k ex (blkH X p s H scope (compEnvC scope cl C X.env) fp) WF { Γ with sc := L2.relS scope Γ.sc, lam := false, isx := false, muts := [] } where
  fit := ⟨g.fit.N, g.fit.nd, hk, by show L2.relS scope X.env.scope = _; rw [g.fit.sc], g.fit.un, g.fit.calm, fun _ => ⟨p, h1, List.mem_singleton_self p⟩, g.fit.blt⟩
  ok := g.ok
  prog := g.prog
  w := g.w
  K := g.K
  mg := g.mg
  over := g.over
  tk := fun u s' ⟨_, _, _, _, _, _, _, _, _, _, _, _, _, _, _, _, z⟩ => z.elim
  room := g.room
  defs := g.defs
  clss := g.clss
  lamT := fun z => by cases z
  isx := fun z => by cases z
theorem cSrcH_ok (F : Fits X Γ) {f : Expr → Option IE} (hf : ∀ e a, f e = some a → PE X e (tE p X.K W a) ∧ ∀ x y, e ≠ .Starred x y) {tg iter : Expr} {s : ISrc} (hn : isNameE iter = true) (h : cSrc Γ true f (isTupE tg) iter = some s) : L2H.PIH X tg iter (tS true p X.K W s) := by
  cases iter <;> first
    | cases hn
    | skip
  unfold cSrc at h
  obtain ⟨a, e1, rfl⟩ := Option.map_eq_some_iff.mp h
  exact gs_seqH (cBb_ok F hf e1).1
/-- what a block stores -/
theorem sto_own (g : Good D k ex X W Γ) {scope : Scope} (ok : BlkOk X.N X.env.scope scope (ownOf Γ.N scope)) {s : Shared} {H : Hp} {C : Addr} {cl : List (Str × Addr)} {fp : List Addr} {i : Nat} (hi : i ∈ (ownOf Γ.N scope).map (·.2)) :
    Sto (X.blk s H scope (compEnvC scope cl C X.env) fp) { Γ with sc := L2.relS scope Γ.sc, lam := false, isx := false, muts := [] } i := fun x hx hl => by
  obtain ⟨q, hq, rfl⟩ := List.mem_map.mp hi
  have e1 := ok.ix q hq
  rw [g.fit.N] at e1
  have hx : Γ.N[q.2]? = some x := hx
  rw [hx] at e1
  obtain ⟨y, hy, ey⟩ := List.mem_filterMap.mp hq
  have u := ok.uniq y hy
  have ex : x = q.1 := Option.some.inj e1
  split at ey
  · rename_i ek
    obtain ⟨j, _, rfl⟩ := Option.map_eq_some_iff.mp ey
    rw [ek] at u
    right
    have z := lookup_relS_keep (sc := X.env.scope) (by decide) u
    rw [ex]
    exact z
  · rename_i ek
    obtain ⟨j, _, rfl⟩ := Option.map_eq_some_iff.mp ey
    rw [ek] at u
    left
    show (scope.names.lookup x == some NameKind.cell) = true
    rw [ex, u]
    rfl
  · cases ey
theorem cIfs_ok {f : Expr → Option IE} {Y : Cx} (hf : ∀ e a, f e = some a → PT Y e (tT p Y.K WF a)) {ifs : List Expr} {c : IEo} (h : cIfs f ifs = some c) : PTs Y ifs (tCd p Y.K WF c) := by
  unfold cIfs at h
  split at h
  · cases h; exact gd_none
  · obtain ⟨a, e1, rfl⟩ := Option.map_eq_some_iff.mp h
    exact gd_some (hf _ _ e1)
  · cases h
theorem behind_ok {n : Nat} {op : CmpOp} {e : Expr} {a : IE} (h : cB Γ (cE n Γ) e = some a) : behindInMarks op e = false := by
  cases e <;> first
    | rfl
    | (unfold cB at h
       exact (cE_set h).elim)
theorem last_ok {n : Nat} {op op' : CmpOp} {e e' : Expr} {a : IE} (h : cE n Γ e' = some a) : lastMarks [op, op'] [e, e'] = false := by
  cases e' <;> first
    | rfl
    | exact (cE_set h).elim
theorem args_ns {n : Nat} : ∀ {es : List Expr} {ias : IAs}, cE.cAs Γ (cE n Γ) (cE n) es = some ias → ∀ e ∈ es, ∀ x y, e ≠ .Starred x y
  | [], _, _, e, he => absurd he (by simp)
  | e0 :: es, ias, h, e, he => by
    by_cases hl : ∃ a b c d, e0 = .Lambda a b c d
    · obtain ⟨a, body, scope, lpos, rfl⟩ := hl
      obtain ⟨_, r', _, _, _, _, _, hr, _⟩ := cAs_lam h
      rcases List.mem_cons.mp he with z | z
      · rw [z]; intro x y q; cases q
      · exact args_ns hr e z
    · obtain ⟨a, as, h1, h2, _⟩ := cAs_val (fun a b c d z => hl ⟨a, b, c, d, z⟩) h
      rcases List.mem_cons.mp he with z | z
      · rw [z]; exact cE_ns h1
      · exact args_ns h2 e z
/-- THE EXPRESSIONS -/
theorem cE_ok (hF : CallsOk D k) (hC : CloOk D k) : ∀ (n : Nat) {X : Cx} {W : WX} {Γ : Scp} (g : Good D k ex X W Γ) (e : Expr) (ie : IE), cE n Γ e = some ie → Snd (pmX D k ex X) W X e ie
  | 0, X, W, Γ, g, e, ie, h => by unfold cE at h; cases h
  | n + 1, X, W, Γ, g, e, ie, h => by
    have ih : ∀ e a, cE n Γ e = some a → Snd (pmX D k ex X) W X e a := cE_ok hF hC n g
    have hE : ∀ e a, cE n Γ e = some a → PE X e (tE (pmX D k ex X) X.K W a) := fun e a q => (ih e a q).val'
    have hE' : ∀ e a, cE n Γ e = some a → PE X e (tE (pmX D k ex X) X.K W a) ∧ ∀ x y, e ≠ .Starred x y := fun e a q => ⟨hE e a q, cE_ns q⟩
    have hB : ∀ {e a}, cB Γ (cE n Γ) e = some a → PE X e (tB (pmX D k ex X) X.K W a) := fun q => (cB_ok g.fit hE' q).1
    have hu := g.fit.un
    cases e with
    | Constant c j pos =>
      cases c with
      | none => unfold cE at h; cases h; exact .val ge_non rfl fun _ _ => rfl
      | bool b => unfold cE at h; cases h; exact .val ge_bl rfl fun _ _ => rfl
      | int i => unfold cE at h; cases h; exact .val ge_int rfl fun _ _ => rfl
      | str x => unfold cE at h; cases h; exact .val ge_str rfl fun _ _ => rfl
      | _ => unfold cE at h; cases h
    | Name x pos =>
      unfold cE at h
      simp only at h
      split at h
      · rename_i i e1
        cases h
        obtain ⟨h1, h2, h3⟩ := cSlot_some e1
        obtain ⟨d1, d2, _⟩ := okName_d h3
        exact .val (ge_var (by rw [g.fit.N]; exact h1) (by rw [g.fit.sc]; exact h2) d1 d2) rfl fun _ _ => rfl
      · split at h
        · rename_i hg
          cases h
          rw [Bool.and_eq_true] at hg
          exact .val (ge_glob g (isGl_gl g.fit hg.1) (okName_d hg.2).1) rfl fun _ _ => rfl
        · cases h
    | BoolOp op vs pos =>
      cases op with
      | And => unfold cE at h; exact (cBool_and ih h).1
      | Or => unfold cE at h; exact (cBool_or ih h).1
    | BinOp a op b pos =>
      unfold cE at h
      simp only at h
      split at h
      · rename_i x y h1 h2
        cases h
        have m := ge_bin (op := op) (pos := pos) (hB h1) (hB h2)
        exact ⟨pe_M m, fun _ => m, pt_plain (pe_M m) fun _ => rfl⟩
      · cases h
    | UnaryOp op a pos =>
      cases op with
      | Not =>
        unfold cE at h
        obtain ⟨x, e1, rfl⟩ := Option.map_eq_some_iff.mp h
        have s := ih _ _ e1
        exact ⟨ge_not s.val', fun z => (by cases z), gt_not s.test⟩
      | USub =>
        unfold cE at h
        obtain ⟨x, e1, rfl⟩ := Option.map_eq_some_iff.mp h
        exact .val (ge_neg (hE _ _ e1)) rfl fun _ _ => rfl
      | _ => unfold cE at h; cases h
    | IfExp t a b pos =>
      unfold cE at h
      simp only at h
      split at h
      · rename_i x y z h1 h2 h3
        cases h
        have s1 := ih _ _ h1
        have s2 := ih _ _ h2
        have s3 := ih _ _ h3
        exact ⟨ge_ite s1.test s2.val' s3.val', fun z => (by cases z), gt_ite s1.test s2.test s3.test⟩
      · cases h
    | Tuple es kk pos =>
      unfold cE at h
      obtain ⟨as, e1, rfl⟩ := Option.map_eq_some_iff.mp h
      have m := gm_tup (pos := pos) (k := kk) (cEs_val hE' e1).1
      exact .val (pe_M m) rfl fun _ _ => rfl
    | List es pos =>
      unfold cE at h
      obtain ⟨as, e1, rfl⟩ := Option.map_eq_some_iff.mp h
      exact .new (gm_lst (cEs_val hE' e1).1) fun _ _ => rfl
    | Dict ks vs pos =>
      cases ks with
      | nil =>
        cases vs with
        | nil => unfold cE at h; cases h; exact .val ge_dnew rfl fun _ _ => rfl
        | cons => unfold cE at h; cases h
      | cons => unfold cE at h; cases h
    | Compare a ops bs pos =>
      cases ops with
      | nil => unfold cE at h; cases h
      | cons op ops =>
        cases ops with
        | nil =>
          cases bs with
          | nil => unfold cE at h; cases h
          | cons b bs =>
            cases bs with
            | cons => unfold cE at h; cases h
            | nil =>
              unfold cE at h
              simp only at h
              split at h
              · rename_i x y h1 h2
                cases h
                exact ⟨ge_cmp hu (hB h1) (hB h2) (behind_ok h2), fun z => (by cases z), gt_cmp hu (hB h1) (hB h2) (behind_ok h2)⟩
              · cases h
        | cons op' ops =>
          cases ops with
          | cons => unfold cE at h; cases h
          | nil =>
            cases bs with
            | nil => unfold cE at h; cases h
            | cons b bs =>
              cases bs with
              | nil => unfold cE at h; cases h
              | cons c bs =>
                cases bs with
                | cons => unfold cE at h; cases h
                | nil =>
                  unfold cE at h
                  simp only at h
                  split at h
                  · rename_i x y z h1 h2 h3
                    cases h
                    exact ⟨ge_chain hu (hE _ _ h1) (hE _ _ h2) (hE _ _ h3) (last_ok h3), fun z => (by cases z), gt_chain hu (hE _ _ h1) (hE _ _ h2) (hE _ _ h3) (last_ok h3)⟩
                  · cases h
    | Subscript a i pos =>
      by_cases hs : ∃ x y z w, i = .Slice x y z w
      · obtain ⟨lo, hi, st, p2, rfl⟩ := hs
        cases st with
        | some => unfold cE at h; cases h
        | none =>
          unfold cE at h
          simp only at h
          split at h
          · rename_i x l u h1 h2 h3
            cases h
            exact .new (gm_slc (hB h1) (cOpt_ok hE h2) (cOpt_ok hE h3)) fun _ _ => rfl
          · cases h
      · have key : ∀ (x y : Option IE), (match x, y with
            | some a, some b => some (IE.idx a b)
            | _, _ => none) = some ie → ∃ a b, x = some a ∧ y = some b ∧ ie = .idx a b := fun x y q => by
          cases x with
          | none => cases q
          | some a =>
            cases y with
            | none => cases q
            | some b =>
              have q : some (IE.idx a b) = some ie := q
              cases q
              exact ⟨a, b, rfl, rfl, rfl⟩
        have h' : ∃ x y, cB Γ (cE n Γ) a = some x ∧ cE n Γ i = some y ∧ ie = .idx x y := by
          cases i <;> first
            | exact absurd ⟨_, _, _, _, rfl⟩ hs
            | (unfold cE at h
               exact key _ _ h)
        obtain ⟨x, y, h1, h2, rfl⟩ := h'
        exact .val (ge_idx (hB h1) (hE _ _ h2) fun a b c d z => hs ⟨a, b, c, d, z⟩) rfl fun _ _ => rfl
    | ListComp elt gs scope pos =>
      cases gs with
      | nil => unfold cE at h; cases h
      | cons gen gs =>
        obtain ⟨tg, iter, ifs, as⟩ := gen
        by_cases has : gs = [] ∧ as = 0
        · obtain ⟨rfl, rfl⟩ := has
          · unfold cE at h
            simp only at h
            split at h
            · rename_i hg
              rw [Bool.and_eq_true, Bool.or_eq_true, Bool.not_eq_true'] at hg
              split at h
              · rename_i x t s c h1 h2 h3 h4
                split at h
                · rename_i hall
                  cases h
                  have ok : BlkOk X.N X.env.scope scope (ownOf Γ.N scope) := by
                    rw [g.fit.N, g.fit.sc]
                    exact blkOk_by hg.2
                  have hw : ∀ i ∈ tgS t, i ∈ (ownOf Γ.N scope).map (·.2) := fun i hi => by
                    have z := List.all_eq_true.mp hall i hi
                    simpa using z
                  cases hh : Γ.hot with
                  | false =>
                    have hc := g.fit.calm hh
                    refine .new (gm_comp hc (by rw [g.fit.N]; exact g.fit.nd) (cSrc_ok g.fit hE' h3) ok (fun s H C cl fp => ?_) (fun s H C cl fp => ?_) (fun s H C cl fp => ?_) (fsi_plain (cSrc_set h3) _) hw) fun _ _ => rfl
                    · exact tg_ok (p := pmX D k ex X) (g.blk hh scope ok.kind s H C cl fp).fit (.inl hc) 10 tg t h2 fun i hi => sto_own g ok (hw i hi)
                    · exact cIfs_ok (fun e a q => (cE_ok hF hC n (g.blk hh scope ok.kind s H C cl fp) e a q).test) h4
                    · exact (cE_ok hF hC n (g.blk hh scope ok.kind s H C cl fp) _ _ h1).val'
                  | true =>
                    obtain ⟨q, q1, q2⟩ := g.fit.hotc hh
                    have hnm := hg.1.resolve_left (by rw [hh]; exact Bool.noConfusion)
                    refine .new (gm_compH q1 q2 (by rw [g.fit.N]; exact g.fit.nd) (cSrcH_ok g.fit hE' hnm h3) ok ⟨fun s H C cl fp => ?_, fun s H C cl fp => ?_, fun s H C cl fp => ?_⟩ (fsi_plain (cSrc_set h3) _) hw) fun _ _ => rfl
                    · exact tg_ok (p := pmX D k ex X) (g.blkH q1 scope ok.kind s H C cl fp).fit (.inr ⟨q, q1, List.mem_singleton_self q⟩) 10 tg t h2 fun i hi => sto_own (cl := cl) (fp := fp) (s := s) (H := H) (C := C) g ok (hw i hi)
                    · exact cIfs_ok (fun e a z => (cE_ok hF hC n (g.blkH q1 scope ok.kind s H C cl fp) e a z).test) h4
                    · exact (cE_ok hF hC n (g.blkH q1 scope ok.kind s H C cl fp) _ _ h1).val'
                · cases h
              · cases h
            · cases h
        · exfalso
          cases gs with
          | nil =>
            cases as with
            | ofNat m =>
              cases m with
              | zero => exact has ⟨rfl, rfl⟩
              | succ m => unfold cE at h; cases h
            | negSucc m => unfold cE at h; cases h
          | cons =>
            cases as with
            | ofNat m =>
              cases m with
              | zero => unfold cE at h; cases h
              | succ m => unfold cE at h; cases h
            | negSucc m => unfold cE at h; cases h
    | Call f args kws pos =>
      cases f with
      | Name f pn =>
        cases kws with
        | cons => unfold cE at h; cases h
        | nil =>
          unfold cE at h
          simp only at h
          split at h
          · rename_i i e1
            obtain ⟨h1, h2, h3⟩ := cSlot_some e1
            obtain ⟨d1, d2, _⟩ := okName_d h3
            split at h
            · cases h
            · rename_i hh
              have hh : Γ.hot = false := by simpa using hh
              obtain ⟨as, e2, rfl⟩ := Option.map_eq_some_iff.mp h
              obtain ⟨q1, q2⟩ := cEs_val hE' e2
              exact .val (ge_callv g hh hC (by rw [g.fit.N]; exact h1) (by rw [g.fit.sc]; exact h2) d1 d2 q1 q2 fun z => by rw [z] at e2; exact cEs_nil e2) rfl fun _ _ => rfl
          · split at h
            · cases h
            · rename_i hg
              simp only [Bool.not_eq_true', Bool.not_eq_false, Bool.and_eq_true] at hg
              have gl := isGl_gl g.fit hg.1
              obtain ⟨d1, d2, d3⟩ := okName_d hg.2
              split at h
              · rename_i e1
                subst e1
                split at h
                · rename_i x px c pc
                  split at h
                  · rename_i i e2 hc
                    rw [Bool.and_eq_true] at hc
                    obtain ⟨h1, h2, h3⟩ := cSlot_some e2
                    obtain ⟨x1, x2, _⟩ := okName_d h3
                    have gc := isGl_gl g.fit hc.1
                    split at h
                    · rename_i ty e3
                      cases h
                      exact .val (ge_isi g.fit gl gc e3 (okName_d hc.2).1 (ge_bor (by rw [g.fit.N]; exact h1) (by rw [g.fit.sc]; exact h2) x1 x2) fun x y z => by cases z) rfl fun _ _ => rfl
                    · split at h
                      · rename_i hcl
                        cases h
                        rw [Bool.and_eq_true, Bool.or_eq_true] at hcl
                        refine .val (ge_isx g hcl.1 gl (by rw [g.fit.N]; exact h1) (by rw [g.fit.sc]; exact h2) x1 x2 gc (hcl.2.imp (fun z => ?_) fun z => of_decide_eq_true z) hc.2) rfl fun _ _ => rfl
                        rw [← g.clss]
                        simpa using z
                      · cases h
                  · cases h
                · rename_i ea c pc _
                  split at h
                  · rename_i x ty e2 hc e3
                    cases h
                    rw [Bool.and_eq_true] at hc
                    have gc := isGl_gl g.fit hc.1
                    exact .val (ge_isi g.fit gl gc e3 (okName_d hc.2).1 (pe_B (hE _ _ e2)) (cE_ns e2)) rfl fun _ _ => rfl
                  · cases h
                · cases h
              · split at h
                · rename_i b e2
                  split at h
                  · cases h
                  · rename_i hb
                    obtain ⟨as, e3, rfl⟩ := Option.map_eq_some_iff.mp h
                    obtain ⟨rfl, hz⟩ := bifOf_n e2
                    obtain ⟨q1, q2⟩ := cEs_bor (fun e a q => cB_ok g.fit hE' q) e3
                    have hc : X.calm = true ∨ bifHot b = true := by
                      cases hh : Γ.hot with
                      | false => exact .inl (g.fit.calm hh)
                      | true =>
                        rw [hh] at hb
                        right
                        simpa using hb
                    cases args with
                    | nil => exact absurd rfl hz
                    | cons e0 es =>
                      have m := gm_bif (pos := pos) (pn := pn) hc gl (g.fit.blt _ (bifN_in b)) q1 q2
                      exact ⟨pe_M m, fun _ => m, pt_plain (pe_M m) fun _ => rfl⟩
                · split at h
                  · cases h
                  · rename_i hb
                    simp only [Bool.or_eq_true, not_or, Bool.not_eq_true, Bool.not_eq_true', Bool.not_eq_false] at hb
                    obtain ⟨as, e3, rfl⟩ := Option.map_eq_some_iff.mp h
                    have hf : f ∈ D.defs := by
                      rw [← g.defs]
                      simpa using hb.2
                    exact .val (ge_call g hb.1 hF n hE gl d1 hf e3 (args_ns e3)) rfl fun _ _ => rfl
      | _ => unfold cE at h; cases h
    | _ => unfold cE at h; cases h
end
end Ev

set_option maxHeartbeats 4000000
/-! EvQ: statements. -/
namespace Ev
open PySem PySem.Spec PyProof.Rows L2

/-- what stays true since the entry -/
structure Ent (K : PySem.W.Frag) (T : Tbs) (E : List Addr → Hp → Prop) (fr : Addr → Prop) : Prop where
  step : ∀ {os H os' H' o}, E os H → OOk K os H o → Post T os H os' H' → E os' H'
  own : ∀ {os H a xs u}, E os H → fr a → H a = some (.lst xs) → E os (upd H a u)
  obj : ∀ {os H a xs ys}, E os H → a ∈ os → H a = some (.lst xs) → E os (upd H a (.lst ys))
  new : ∀ {os H a}, E os H → H a = none → fr a
theorem ent_post {K : PySem.W.Frag} {T : Tbs} {os0 : List Addr} {H0 : Hp} : Ent K T (Post T os0 H0) (NoO H0) where
  step := fun e _ P => e.trans P
  own := fun {os H a xs u} e n h => by
    refine ⟨e.pre, fun b w q nb nt => ?_, fun b nb => ?_, fun t => tabs_st (stay_upd h) (e.tab t)⟩
    · rw [upd_ne]
      · exact e.keep b w q nb nt
      · rintro rfl
        obtain ⟨ps, z⟩ := n w q
        exact nt ps z
    · by_cases hb : b = a
      · rw [hb]; exact n
      · exact e.dom b fun w q => nb w (by rw [upd_ne hb]; exact q)
  obj := fun {os H a xs ys} e ha h => by
    refine ⟨e.pre, fun b w q nb nt => ?_, fun b nb => ?_, fun t => tabs_st (stay_upd h) (e.tab t)⟩
    · rw [upd_ne]
      · exact e.keep b w q nb nt
      · rintro rfl
        obtain ⟨new, rfl, hn⟩ := e.pre
        rcases List.mem_append.mp ha with z | z
        · exact nb z
        · obtain ⟨ps, z⟩ := hn _ z w q
          exact nt ps z
    · by_cases hb : b = a
      · subst hb
        obtain ⟨ps, z⟩ := nb _ upd_same
        cases z
      · exact e.dom b fun w q => nb w (by rw [upd_ne hb]; exact q)
  new := fun {os H a} e h => e.dom a (.of h)
theorem ent_kp {K : PySem.W.Frag} {T : Tbs} {E : List Addr → Hp → Prop} {fr : Addr → Prop} (N : Ent K T E fr) {os1 : List Addr} {H1 : Hp} : Ent K T (fun os H => E os H ∧ Kp os1 H1 os H) fr where
  step := fun {os H os' H' o} e O P => by
    refine ⟨N.step e.1 O P, ?_, fun b u q nl nt => ?_⟩
    · obtain ⟨n1, e1⟩ := e.2.pre
      obtain ⟨n2, e2, _⟩ := P.pre
      exact ⟨n1 ++ n2, by rw [e2, e1, List.append_assoc]⟩
    · have q1 := e.2.keep b u q nl nt
      refine P.keep b u q1 (fun hm => ?_) nt
      obtain ⟨xs, z⟩ := O.mem hm
      rw [q1] at z
      exact nl xs (Option.some.inj z)
  own := fun {os H a xs u} e n h => by
    refine ⟨N.own e.1 n h, e.2.pre, fun b w q nl nt => ?_⟩
    have q1 := e.2.keep b w q nl nt
    rw [upd_ne]
    · exact q1
    · rintro rfl
      rw [h] at q1
      exact nl _ (Option.some.inj q1).symm
  obj := fun {os H a xs ys} e ha h => by
    refine ⟨N.obj e.1 ha h, e.2.pre, fun b w q nl nt => ?_⟩
    have q1 := e.2.keep b w q nl nt
    rw [upd_ne]
    · exact q1
    · rintro rfl
      rw [h] at q1
      exact nl _ (Option.some.inj q1).symm
  new := fun e h => N.new e.1 h
structure AtF (p : Pm) (K : PySem.W.Frag) (E : List Addr → Hp → Prop) (fr : Addr → Prop) (os : List Addr) (H : Hp) (σ : L2.St) (ρ : Frm) (o : Objs) : Prop where
  at_ : At p K os H σ ρ o
  e : E os H
  fresh : ∀ (i : Nat) (d : D) (a : Addr), ρ[i]? = some (.own d) → σ[i]? = some (some (.ref a)) → fr a
def OutS (p : Pm) (K : PySem.W.Frag) (W : WX) (E : List Addr → Hp → Prop) (fr : Addr → Prop) (r : SRes) (Dn : Ends) : Prop := match r with
  | .nx ρ o => ∀ os H σ, AtF p K E fr os H σ ρ o → Dn.nx σ H
  | .ret d o => ∀ os H v, E os H → OOk K os H o → LamX.Tabs p.T H → Rep K os H d v → Dn.rt v H
  | .brk ρ o => ∀ os H σ, AtF p K E fr os H σ ρ o → Dn.bk σ H
  | .cnt ρ o => ∀ os H σ, AtF p K E fr os H σ ρ o → Dn.ct σ H
  | .err c xs ρ o => ∀ os H σ cls d, AtF p K E fr os H σ ρ o → ExR p K os H c xs cls d → W cls d σ H
  | .stuck => False
/-- statements -/
def tSt (p : Pm) (K : PySem.W.Frag) (W : WX) (is : ISs) : TS := fun Dn σ H => ∃ E fr, Ent K p.T E fr ∧ ∃ ρ os o, AtF p K E fr os H σ ρ o ∧ OutS p K W E fr (exSs p.F p.C p.G p.isa p.L is ρ o) Dn
abbrev Pm.exS (p : Pm) (s : IS) (ρ : Frm) (o : Objs) : SRes := Ev.exS p.F p.C p.G p.isa p.L s ρ o
abbrev Pm.exSs (p : Pm) (s : ISs) (ρ : Frm) (o : Objs) : SRes := Ev.exSs p.F p.C p.G p.isa p.L s ρ o
section
variable {X : Cx} {p : Pm} {K : PySem.W.Frag} {W : WX} {E : List Addr → Hp → Prop} {fr : Addr → Prop} {os os' : List Addr} {H H' : Hp} {o o' : Objs} {σ : L2.St} {ρ : Frm} {α : Type} {Dn : Ends}
theorem AtF.next (A : AtF p K E fr os H σ ρ o) (N : Ent K p.T E fr) (P : Post p.T os H os' H') (O : OOk K os' H' o') : AtF p K E fr os' H' σ ρ o' :=
  ⟨A.at_.next P O, N.step A.e A.at_.obs P, A.fresh⟩
/-- an expression in a statement -/
theorem OutS.st {r : Res α} {f : α → Objs → SRes} (N : Ent K p.T E fr) (A : AtF p K E fr os H σ ρ o) (h : OutS p K W E fr (r.st ρ f) Dn) : Out p K W σ os H r fun a o' os' H' => OutS p K W E fr (f a o') Dn := by
  cases r with
  | ok a o' => exact fun _ _ _ _ => h
  | err c xs o' => exact fun os' H' cls d P O x => h os' H' σ cls d (A.next N P O) x
  | stuck => exact h
theorem OutS.nx {o1 : Objs} {ρ1 : Frm} (h : OutS p K W E fr (.nx ρ1 o1) Dn) {os1 : List Addr} {H1 : Hp} {σ1 : L2.St} (A : AtF p K E fr os1 H1 σ1 ρ1 o1) : Dn.nx σ1 H1 := h os1 H1 σ1 A
/-- one after another -/
theorem OutS.seq {r : SRes} {f : Frm → Objs → SRes} (h : OutS p K W E fr (r.seq f) Dn) (u : TS) (hu : ∀ os H σ ρ o, AtF p K E fr os H σ ρ o → OutS p K W E fr (f ρ o) Dn → u Dn σ H) : OutS p K W E fr r { Dn with nx := u Dn } := by
  cases r with
  | nx ρ o => exact fun os H σ A => hu os H σ ρ o A h
  | _ => exact h
theorem exSs_app {a b : List IS} {ρ : Frm} {o : Objs} : p.exSs (seqS (a ++ b)) ρ o = (p.exSs (seqS a) ρ o).seq fun ρ' o' => p.exSs (seqS b) ρ' o' := by
  induction a generalizing ρ o with
  | nil => rfl
  | cons s r ih =>
    show (p.exS s ρ o).seq (fun ρ' o' => p.exSs (seqS (r ++ b)) ρ' o') = ((p.exS s ρ o).seq fun ρ' o' => p.exSs (seqS r) ρ' o').seq _
    cases p.exS s ρ o with
    | nx ρ' o' => exact ih
    | _ => rfl
theorem exSs_one {s : IS} {ρ : Frm} {o : Objs} : p.exSs (seqS [s]) ρ o = p.exS s ρ o := by
  show (p.exS s ρ o).seq (fun ρ' o' => .nx ρ' o') = _
  cases p.exS s ρ o <;> rfl
theorem gss_nil : PSs X [] (tSt p X.K W (seqS [])) := pss_imp pss_nil fun Dn σ H ⟨E, fr, N, ρ, os, o, A, h⟩ => h.nx A
theorem gss_cons {st : Stmt} {r : List Stmt} {a b : List IS} (h1 : PS X st (tSt p X.K W (seqS a))) (h2 : PSs X r (tSt p X.K W (seqS b))) : PSs X (st :: r) (tSt p X.K W (seqS (a ++ b))) :=
  pss_imp (pss_cons h1 h2) fun Dn σ H ⟨E, fr, N, ρ, os, o, A, h⟩ => by
    have h : OutS p X.K W E fr (p.exSs (seqS (a ++ b)) ρ o) Dn := h
    rw [exSs_app] at h
    exact ⟨E, fr, N, ρ, os, o, A, h.seq (tSt p X.K W (seqS b)) fun os H σ ρ o A h => ⟨E, fr, N, ρ, os, o, A, h⟩⟩
/-! ### lists become values -/
theorem AtF.lock1 {pins : List (Addr × Obj)} {s : Shared} {i : Nat} {d : D} (N : Ent X.K p.T E fr) (I : Inv X pins σ H s) (A : AtF p X.K E fr os H σ ρ o) (e : ρ[i]? = some (.own d)) : ∃ H', Inv X pins σ H' s ∧ AtF p X.K E fr os H' σ (ρ.set i (.val d)) o := by
  obtain ⟨ds, a, xs, rfl, e1, n, e2, r⟩ := A.at_.env.own i d e
  obtain ⟨od, I'⟩ := I.lock e2 True.intro
  have hi : i < ρ.length := (List.getElem?_eq_some_iff.mp e).1
  have sy : Stay H (upd H a (.frz od (.lst xs))) := stay_upd e2
  have O := A.at_.obs.upd n e2 (u := .frz od (.lst xs))
  have rep : Rep X.K os (upd H a (.frz od (.lst xs))) (.lst ds) (.ref a) := by
    unfold Rep
    exact ⟨a, xs, rfl, ⟨od, upd_same⟩, Reps.stay sy ds r⟩
  refine ⟨_, I', ⟨⟨?_, O, tabs_st sy A.at_.tab⟩, N.own A.e (A.fresh i _ a e e1) e2, fun j d' b q q2 => ?_⟩⟩
  · have E := A.at_.env
    refine ⟨by rw [List.length_set]; exact E.len, fun j d' q => ?_, fun j d' q => ?_, fun j l d' e' b hjl q1 q2 q3 => ?_, fun j np nl b cap q => ?_, fun j c xs' q => ?_⟩
    · by_cases hj : i = j
      · subst hj
        rw [List.getElem?_set_self hi] at q
        cases q
        exact ⟨_, e1, rep⟩
      · rw [List.getElem?_set_ne hj] at q
        obtain ⟨v, q1, q2⟩ := E.val j d' q
        exact ⟨v, q1, Rep.stay sy d' q2⟩
    · have hj := set_ne q (fun z => by cases z)
      rw [List.getElem?_set_ne hj] at q
      obtain ⟨ds', b, ys, z1, z2, z3, z4, z5⟩ := E.own j d' q
      refine ⟨ds', b, ys, z1, z2, z3, ?_, Reps.stay sy ds' z5⟩
      rw [upd_ne]
      · exact z4
      · rintro rfl
        exact E.dis i j _ d' b hj e q e1 z2
    · have hj := set_ne q1 (fun z => by cases z)
      have hl := set_ne q2 (fun z => by cases z)
      rw [List.getElem?_set_ne hj] at q1
      rw [List.getElem?_set_ne hl] at q2
      exact E.dis j l d' e' b hjl q1 q2 q3
    · have hj := set_ne q (fun z => by cases z)
      rw [List.getElem?_set_ne hj] at q
      obtain ⟨f, vs, c', q', z1, z2, z3, z4⟩ := E.clo j np nl b cap q
      exact ⟨f, vs, c', q', z1, z2, Reps.stay sy cap z3, sy _ _ z4 fun _ z => by unfold LamX.CodeO at z; cases z⟩
    · have hj := set_ne q (fun z => by cases z)
      rw [List.getElem?_set_ne hj] at q
      exact E.exc j c xs' q
  · have hj := set_ne q (fun z => by cases z)
    rw [List.getElem?_set_ne hj] at q
    exact A.fresh j d' b q q2
theorem AtF.lock {pins : List (Addr × Obj)} {s : Shared} (N : Ent X.K p.T E fr) : ∀ (is : List Nat) {H : Hp} {ρ : Frm}, Inv X pins σ H s → AtF p X.K E fr os H σ ρ o → ∃ H', Inv X pins σ H' s ∧ AtF p X.K E fr os H' σ (frzF ρ is) o
  | [], H, ρ, I, A => ⟨H, I, A⟩
  | i :: is, H, ρ, I, A => by
    unfold frzF
    split
    · rename_i d e
      obtain ⟨H1, I1, A1⟩ := A.lock1 N I e
      exact AtF.lock N is I1 A1
    · exact AtF.lock N is I A
theorem gs_frz {st : Stmt} {is : List IS} {vs : List Nat} (h : PS X st (tSt p X.K W (seqS is))) : PS X st (tSt p X.K W (seqS (.frz vs :: is))) := by
  refine ⟨fun pins s σ H Dn I ⟨E, fr, N, ρ, os, o, A, hw⟩ => ?_⟩
  obtain ⟨H', I', A'⟩ := AtF.lock N vs I A
  exact h.run pins s σ H' Dn I' ⟨E, fr, N, _, os, o, A', hw⟩
theorem gs_pre {Γ : Scp} {st : Stmt} {s : IS} {vs : List Nat} (h : PS X st (tSt p X.K W (seqS [s]))) : PS X st (tSt p X.K W (seqS (frzOf Γ vs ++ [s]))) := by
  unfold frzOf
  simp only
  split
  · exact h
  · exact gs_frz h
/-! ### the small ones -/
theorem g1 {st : Stmt} {t : TS} {s : IS} (h : PS X st t) (m : ∀ E fr, Ent X.K p.T E fr → ∀ ρ os o Dn σ H, AtF p X.K E fr os H σ ρ o → OutS p X.K W E fr (p.exS s ρ o) Dn → t Dn σ H) : PS X st (tSt p X.K W (seqS [s])) :=
  ps_imp h fun Dn σ H ⟨E, fr, N, ρ, os, o, A, h⟩ => by
    have h : OutS p X.K W E fr (p.exSs (seqS [s]) ρ o) Dn := h
    rw [exSs_one] at h
    exact m E fr N ρ os o Dn σ H A h
variable {e : Expr} {ie : IE} {pos : Pos}
theorem gs_pass : PS X (.Pass pos) (tSt p X.K W (seqS [.pass])) := g1 ps_pass fun E fr N ρ os o Dn σ H A h => h.nx A
theorem gs_doc {x j pos'} : PS X (.Expr (.Constant (.str x) j pos) pos') (tSt p X.K W (seqS [.pass])) := g1 ps_doc fun E fr N ρ os o Dn σ H A h => h.nx A
theorem gs_expr (he : PE X e (tE p X.K W ie)) (hs : swapsWith e none pos.line X.env = pure false) : PS X (.Expr e pos) (tSt p X.K W (seqS [.expr ie])) := g1 (ps_expr he hs) fun E fr N ρ os o Dn σ H A h =>
  ⟨ρ, os, o, A.at_, (OutS.st N A h).mono fun d o' os' H' _ P O q v r => q.nx (A.next N P O)⟩
theorem gs_ret (he : PE X e (tE p X.K W ie)) : PS X (.Return (some e) pos) (tSt p X.K W (seqS [.ret ie])) := g1 (ps_ret he) fun E fr N ρ os o Dn σ H A h =>
  ⟨ρ, os, o, A.at_, (OutS.st N A h).mono fun d o' os' H' _ P O q v r => q os' H' v (N.step A.e A.at_.obs P) O (P.tab A.at_.tab) r⟩
theorem gs_retN : PS X (.Return none pos) (tSt p X.K W (seqS [.retN])) := g1 ps_retN fun E fr N ρ os o Dn σ H A h => h os H .non A.e A.at_.obs A.at_.tab .mkNon
end
end Ev

set_option maxHeartbeats 4000000
/-! EvR: stores, loops. -/
namespace Ev
open PySem PySem.Spec PyProof.Rows L2

mutual
theorem bindT_at : ∀ {t : Tg} {d : D} {ρ ρ' : Frm}, bindT t d ρ = some ρ' → ∀ (i : Nat) (s : Slot), ρ'[i]? = some s → (∃ x, s = .val x) ∨ (ρ[i]? = some s ∧ i ∉ tgS t)
  | .name j, d, ρ, ρ', h, i, s, e => by
    unfold bindT at h
    cases h
    by_cases hj : j = i
    · subst hj
      have hl : j < ρ.length := by simpa using (List.getElem?_eq_some_iff.mp e).1
      rw [List.getElem?_set_self hl] at e
      cases e
      exact .inl ⟨d, rfl⟩
    · rw [List.getElem?_set_ne hj] at e
      refine .inr ⟨e, ?_⟩
      unfold tgS
      simp
      exact fun z => hj z.symm
  | .tup ts, d, ρ, ρ', h, i, s, e => by
    cases d with
    | tup ds =>
      unfold bindT at h
      have q := bindTs_at h i s e
      unfold tgS
      exact q
    | _ => unfold bindT at h; cases h
theorem bindTs_at : ∀ {ts : List Tg} {ds : List D} {ρ ρ' : Frm}, bindTs ts ds ρ = some ρ' → ∀ (i : Nat) (s : Slot), ρ'[i]? = some s → (∃ x, s = .val x) ∨ (ρ[i]? = some s ∧ i ∉ tgSs ts)
  | [], [], ρ, ρ', h, i, s, e => by
    unfold bindTs at h
    cases h
    exact .inr ⟨e, by unfold tgSs; simp⟩
  | t :: ts, d :: ds, ρ, ρ', h, i, s, e => by
    unfold bindTs at h
    split at h
    · rename_i ρ1 e1
      rcases bindTs_at h i s e with q | ⟨q1, q2⟩
      · exact .inl q
      · rcases bindT_at e1 i s q1 with q | ⟨q3, q4⟩
        · exact .inl q
        · refine .inr ⟨q3, ?_⟩
          unfold tgSs
          simp only [List.mem_append, not_or]
          exact ⟨q4, q2⟩
    · cases h
  | [], _ :: _, _, _, h, _, _, _ => by unfold bindTs at h; cases h
  | _ :: _, [], _, _, h, _, _, _ => by unfold bindTs at h; cases h
end
section
variable {X : Cx} {p : Pm} {K : PySem.W.Frag} {W : WX} {E : List Addr → Hp → Prop} {fr : Addr → Prop} {os os' : List Addr} {H H' : Hp} {o o' : Objs} {σ : L2.St} {ρ : Frm} {α : Type} {Dn : Ends} {e : Expr} {ie : IE} {pos : Pos}
theorem AtF.bind {t : Tg} {d : D} {ρ' : Frm} {σ' : L2.St} (A : AtF p K E fr os H σ ρ o) (e : bindT t d ρ = some ρ') (A' : At p K os H σ' ρ' o) (ag : ∀ i, i ∉ tgS t → σ'[i]? = σ[i]?) : AtF p K E fr os H σ' ρ' o := by
  refine ⟨A', A.e, fun i d' a q1 q2 => ?_⟩
  rcases bindT_at e i _ q1 with ⟨x, z⟩ | ⟨z1, z2⟩
  · cases z
  · exact A.fresh i d' a z1 (by rw [← ag i z2]; exact q2)
theorem AtF.set {d : D} {v : V} (A : AtF p K E fr os H σ ρ o) (r : Rep K os H d v) (i : Nat) : AtF p K E fr os H (σ.set i (some v)) (ρ.set i (.val d)) o :=
  A.bind (t := .name i) (d := d) (by unfold bindT; rfl) (A.at_.set r i) fun j hj => List.getElem?_set_ne (by unfold tgS at hj; simp at hj; exact fun z => hj z.symm)
/-- target = value -/
theorem gs_asg {tg : Expr} {t : Tg} (he : PE X e (tE p X.K W ie)) (hg : PG X tg (gTg p X.K t)) (hs : swapsWithSole [tg] e pos.line X.env = pure false) (hw : swappedStores [tg] e X.env = pure none) (h1 : (assignEach [tg] X.env).map (·.2) = [assign tg X.env]) :
    PS X (.Assign [tg] e pos) (tSt p X.K W (seqS [.set t ie])) := g1 (ps_asg he hg hs hw h1) fun E fr N ρ os o Dn σ H A h =>
  ⟨ρ, os, o, A.at_, (OutS.st N A h).mono fun d o' os' H' _ P O q v r => by
    cases eb : bindT t d ρ with
    | none => rw [eb] at q; exact q.elim
    | some ρ' =>
      rw [eb] at q
      have A2 := A.next N P O
      exact ⟨ρ, os', o', d, ρ', A2.at_, r, eb, fun σ' A' ag => q.nx (A2.bind eb A' ag)⟩⟩
/-- name = value -/
theorem gs_setn {st : Stmt} {i : Nat} (h : PS X st (tAsg (tE p X.K W ie) (gName i))) : PS X st (tSt p X.K W (seqS [.set (.name i) ie])) := g1 h fun E fr N ρ os o Dn σ H A h =>
  ⟨ρ, os, o, A.at_, (OutS.st N A h).mono fun d o' os' H' _ P O q v r => by
    have q : OutS p X.K W E fr (.nx (ρ.set i (.val d)) o') Dn := q
    exact q.nx ((A.next N P O).set r i)⟩
/-- .. what is made is locked -/
theorem ps_lkS {st : Stmt} {t : TS} (h : PS X st t) : PS X st (fun Dn σ H => t { Dn with nx := fun σ' H' => Dn.nx σ' H' ∨ ∃ a u, H' a = some u ∧ Mut (some u) ∧ ∀ od, Dn.nx σ' (upd H' a (.frz od u)) } σ H) := by
  refine ⟨fun pins s σ H Dn I hw => thn (h.run pins s σ H _ I hw) fun f s1 q => ?_⟩
  cases f with
  | next =>
    obtain ⟨σ', H', I1, q⟩ := q
    rcases q with q | ⟨a, u, e1, m, q⟩
    · exact ⟨σ', H', I1, q⟩
    · obtain ⟨od, I2⟩ := I1.lock e1 m
      exact ⟨σ', _, I2, q od⟩
  | ret v => exact q
  | brk => exact q
  | cont => exact q
theorem gs_setM {st : Stmt} {i : Nat} (h : PS X st (tAsg (tM p X.K W ie) (gName i))) : PS X st (tSt p X.K W (seqS [.set (.name i) ie])) := g1 (ps_lkS h) fun E fr N ρ os o Dn σ H A h =>
  ⟨ρ, os, o, A.at_, (OutS.st N A h).more fun d o' os' H' _ P O q v H2 m => by
    have go : ∀ H3, Same H' H3 → Rep X.K os' H3 d v → Dn.nx (σ.set i (some v)) H3 := fun H3 s3 r => by
      have q3 : OutS p X.K W E fr (.nx (ρ.set i (.val d)) o') Dn := q os' H3 (.same s3) (O.same s3)
      exact q3.nx ((A.next N (P.trans (.same s3)) (O.same s3)).set r i)
    rcases m.fin O with r | ⟨b, xs, rfl, e1, h2⟩
    · exact .inl (go H2 m.same r)
    · exact .inr ⟨b, _, e1, True.intro, fun od => go _ (h2 od).1 (h2 od).2⟩⟩
/-- .. a list of the frame's own -/
theorem AtF.setOwn {ds : List D} {a : Addr} {xs : List V} (N : Ent K p.T E fr) (A : AtF p K E fr os H σ ρ o) (hn : H a = none) (r : Reps K os H ds xs) (i : Nat) : AtF p K E fr os (upd H a (.lst xs)) (σ.set i (some (.ref a))) (ρ.set i (.own (.lst ds))) o := by
  have s1 := same_upd (o := .lst xs) hn
  have A2 := A.next N (.same s1) (A.at_.obs.same s1)
  have O := A.at_.obs.same s1
  have E := A2.at_.env
  have na : a ∉ os := fun hm => by
    obtain ⟨ys, z⟩ := A.at_.obs.mem hm
    rw [hn] at z; cases z
  have old : ∀ (j : Nat) (d' : D) (b : Addr), ρ[j]? = some (Slot.own d') → σ[j]? = some (some (V.ref b)) → b ≠ a := fun j d' b q1 q2 z => by
    obtain ⟨ds', b', ys, z1, z2, z3, z4, z5⟩ := A.at_.env.own j d' q1
    rw [q2] at z2
    cases z2
    rw [z, hn] at z4
    cases z4
  have get : ∀ {j : Nat} {s : Slot}, (ρ.set i (.own (.lst ds)))[j]? = some s → (i = j ∧ s = .own (.lst ds) ∧ (σ.set i (some (V.ref a)))[j]? = some (some (.ref a))) ∨ (i ≠ j ∧ ρ[j]? = some s ∧ (σ.set i (some (V.ref a)))[j]? = σ[j]?) := fun {j s} e => by
    by_cases hj : i = j
    · subst hj
      have hl : i < ρ.length := by simpa using (List.getElem?_eq_some_iff.mp e).1
      rw [List.getElem?_set_self hl] at e
      cases e
      exact .inl ⟨rfl, rfl, by rw [List.getElem?_set_self (by rw [E.len]; exact hl)]⟩
    · rw [List.getElem?_set_ne hj] at e
      exact .inr ⟨hj, e, List.getElem?_set_ne hj⟩
  refine ⟨⟨⟨by rw [List.length_set, List.length_set]; exact E.len, fun j d q => ?_, fun j d q => ?_, fun j l d e b hjl q1 q2 q3 => ?_, fun j np nl b cap q => ?_, fun j c ys q => ?_⟩, O, A2.at_.tab⟩, A2.e, fun j d b q1 q2 => ?_⟩
  · rcases get q with ⟨_, z, _⟩ | ⟨_, z, z2⟩
    · cases z
    · rw [z2]; exact E.val j d z
  · rcases get q with ⟨_, z, z2⟩ | ⟨_, z, z2⟩
    · cases z
      exact ⟨ds, a, xs, rfl, z2, na, upd_same, r.same A.at_.obs s1⟩
    · rw [z2]; exact E.own j d z
  · rcases get q1 with ⟨e1, z, z2⟩ | ⟨n1, z, z2⟩
    · rcases get q2 with ⟨e2, y, y2⟩ | ⟨n2, y, y2⟩
      · exact absurd (e1.symm.trans e2) hjl
      · rw [y2]
        intro w
        rw [z2] at q3
        cases q3
        exact old l e a y w rfl
    · rcases get q2 with ⟨e2, y, y2⟩ | ⟨n2, y, y2⟩
      · rw [y2]
        intro w
        cases w
        rw [z2] at q3
        exact old j d a z q3 rfl
      · rw [y2]
        rw [z2] at q3
        exact E.dis j l d e b hjl z y q3
  · rcases get q with ⟨_, z, _⟩ | ⟨_, z, z2⟩
    · cases z
    · rw [z2]; exact E.clo j np nl b cap z
  · rcases get q with ⟨_, z, _⟩ | ⟨_, z, z2⟩
    · cases z
    · rw [z2]; exact E.exc j c ys z
  · rcases get q1 with ⟨_, z, z2⟩ | ⟨_, z, z2⟩
    · rw [z2] at q2
      cases q2
      exact N.new A.e hn
    · rw [z2] at q2
      exact A.fresh j d b z q2
theorem gs_own {st : Stmt} {i : Nat} (h : PS X st (tAsg (tM p X.K W ie) (gName i))) : PS X st (tSt p X.K W (seqS [.setOwn i ie])) := g1 h fun E fr N ρ os o Dn σ H A h =>
  ⟨ρ, os, o, A.at_, (OutS.st N A h).more fun d o' os' H' _ P O q v H2 m => by
    rcases m.rep with ⟨nl, r⟩ | ⟨ds, a, xs, rfl, rfl, hn, rfl, r⟩
    · have e : ownS d = .val d := by
        cases d <;> first
          | rfl
          | exact absurd rfl (nl _)
      have q3 : OutS p X.K W E fr (.nx (ρ.set i (ownS d)) o') Dn := q os' H2 m.post (O.same m.same)
      rw [e] at q3
      exact q3.nx ((A.next N (P.trans m.post) (O.same m.same)).set r i)
    · have q3 : OutS p X.K W E fr (.nx (ρ.set i (.own (.lst ds))) o') Dn := q os' H' .refl O
      exact q3.nx ((A.next N P O).setOwn N hn r i)⟩
/-! ### own lists are changed -/
theorem AtF.mutOwn {ds ds' : List D} {a : Addr} {xs xs' : List V} {i : Nat} (N : Ent K p.T E fr) (A : AtF p K E fr os H σ ρ o) (e : ρ[i]? = some (.own (.lst ds))) (e1 : σ[i]? = some (some (.ref a))) (e2 : H a = some (.lst xs)) (n : a ∉ os) (r : Reps K os H ds' xs') :
    AtF p K E fr os (upd H a (.lst xs')) σ (ρ.set i (.own (.lst ds'))) o := by
  have sy : Stay H (upd H a (.lst xs')) := stay_upd e2
  have O := A.at_.obs.upd n e2 (u := .lst xs')
  have hi : i < ρ.length := (List.getElem?_eq_some_iff.mp e).1
  have E := A.at_.env
  have get : ∀ {j : Nat} {s : Slot}, (ρ.set i (.own (.lst ds')))[j]? = some s → (i = j ∧ s = .own (.lst ds')) ∨ (i ≠ j ∧ ρ[j]? = some s) := fun {j s} q => by
    by_cases hj : i = j
    · subst hj
      rw [List.getElem?_set_self hi] at q
      cases q
      exact .inl ⟨rfl, rfl⟩
    · rw [List.getElem?_set_ne hj] at q
      exact .inr ⟨hj, q⟩
  have own : ∀ {j : Nat} {d : D}, (ρ.set i (.own (.lst ds')))[j]? = some (.own d) → ∃ d', ρ[j]? = some (.own d') := fun {j d} q => by
    rcases get q with ⟨rfl, z⟩ | ⟨_, z⟩
    · exact ⟨_, e⟩
    · exact ⟨_, z⟩
  refine ⟨⟨⟨by rw [List.length_set]; exact E.len, fun j d q => ?_, fun j d q => ?_, fun j l d e' b hjl q1 q2 q3 => ?_, fun j np nl b cap q => ?_, fun j c ys q => ?_⟩, O, tabs_st sy A.at_.tab⟩, N.own A.e (A.fresh i _ a e e1) e2, fun j d b q1 q2 => ?_⟩
  · rcases get q with ⟨_, z⟩ | ⟨_, z⟩
    · cases z
    · obtain ⟨v, z1, z2⟩ := E.val j d z
      exact ⟨v, z1, Rep.stay sy d z2⟩
  · rcases get q with ⟨rfl, z⟩ | ⟨hj, z⟩
    · cases z
      exact ⟨ds', a, xs', rfl, e1, n, upd_same, Reps.stay sy ds' r⟩
    · obtain ⟨ds2, b, ys, z1, z2, z3, z4, z5⟩ := E.own j d z
      refine ⟨ds2, b, ys, z1, z2, z3, ?_, Reps.stay sy ds2 z5⟩
      rw [upd_ne]
      · exact z4
      · rintro rfl
        exact E.dis i j _ d b hj e z e1 z2
  · obtain ⟨d1, y1⟩ := own q1
    obtain ⟨d2, y2⟩ := own q2
    exact E.dis j l d1 d2 b hjl y1 y2 q3
  · rcases get q with ⟨_, z⟩ | ⟨_, z⟩
    · cases z
    · obtain ⟨f, vs, c', q', z1, z2, z3, z4⟩ := E.clo j np nl b cap z
      exact ⟨f, vs, c', q', z1, z2, Reps.stay sy cap z3, sy _ _ z4 fun _ z => by unfold LamX.CodeO at z; cases z⟩
  · rcases get q with ⟨_, z⟩ | ⟨_, z⟩
    · cases z
    · exact E.exc j c ys z
  · obtain ⟨d1, y1⟩ := own q1
    exact A.fresh j d1 b y1 q2
/-- name.append(e) -/
theorem gs_append {i : Nat} {x : Str} {px apos cpos : Pos} (hN : X.N[i]? = some x) (hv : Vis X.env.scope x) (hd : (x == ("__debug__" : Str)) = false) (hcd : (x == ("__classdict__" : Str)) = false) (he : PE X e (tE p X.K W ie)) (hs : ∀ x y, e ≠ .Starred x y) (hl : (apos.endLine == cpos.line) = true) :
    PS X (.Expr (.Call (.Attribute (.Name x px) "append" apos) [e] [] cpos) pos) (tSt p X.K W (seqS [.append i ie])) := by
  have ha : PA X [e] (tCons (tE p X.K W ie) tNil) := pa_cons he pa_nil (starEach_ne _ hs)
  have hb := pe_bm (apos := apos) (cpos := cpos) PySem.F.plainAttrs_list PySem.F.slot_list_append PySem.F.type_list_append mt_append (pe_var (pos := px) hN hv hd hcd) ha (by rfl) (by rw [starEach_ne _ hs]; rfl) hl (starEach_ne _ hs) (by rfl)
  refine g1 (ps_expr (pos := pos) hb (by rfl)) fun E fr N ρ os o Dn σ H A h => ?_
  have h : OutS p X.K W E fr (match ρ[i]? with
    | some (.own (.lst ds)) => (p.evE ie ρ o).st ρ fun d o1 => if decide (ds.length < sizeLine) then SRes.nx (ρ.set i (.own (.lst (ds ++ [d])))) o1 else .stuck
    | _ => .stuck) Dn := h
  split at h
  · rename_i ds eρ
    obtain ⟨ds', a, xs, eds, e1, n, e2, r⟩ := A.at_.env.own i _ eρ
    cases eds
    refine ⟨.ref a, e1, .inl ⟨rfl, xs, .of e2⟩, ρ, os, o, A.at_, (OutS.st N A h).mono fun d o' os' H' _ P O q v rv => ?_⟩
    have A2 := A.next N P O
    have e3 := P.keep _ _ e2 n (fun _ z => by cases z)
    have n3 : a ∉ os' := (P.del n e2).2.1
    have r3 := Reps.post P A.at_.obs ds r
    split at q
    · rename_i hz
      have hz := of_decide_eq_true hz
      rw [← r3.length] at hz
      exact ⟨a, xs, v, rfl, rfl, e3, hz, q.nx (A2.mutOwn N eρ e1 e3 n3 (r3.append (.cons rv .nil)))⟩
    · exact q.elim
  · exact h.elim
end
end Ev

set_option maxHeartbeats 4000000
/-! EvS: o[i] = v, op=, pairs, if, while, for, a shared list is returned. -/
namespace Ev
open PySem PySem.Spec PyProof.Rows L2
section
variable {X : Cx} {p : Pm} {K : PySem.W.Frag} {W : WX} {E : List Addr → Hp → Prop} {fr : Addr → Prop} {os os' : List Addr} {H H' : Hp} {o o' : Objs} {σ : L2.St} {ρ : Frm} {α : Type} {Dn : Ends} {e : Expr} {ie : IE} {pos : Pos}
theorem putD_some {ds ds' : List D} {j : Int} {d : D} (h : putD ds j d = some ds') : ∃ n, ixN ds.length j = some n ∧ ds' = ds.set n d := by
  unfold putD at h
  obtain ⟨n, e, rfl⟩ := Option.map_eq_some_iff.mp h
  exact ⟨n, e, rfl⟩
/-- a shared list is changed -/
theorem AtF.mutObj {ds ds' : List D} {a : Addr} {xs xs' : List V} {n : Nat} (N : Ent K p.T E fr) (A : AtF p K E fr os H σ ρ o) (e : o[n]? = some (.lst ds)) (e1 : os[n]? = some a) (e2 : H a = some (.lst xs)) (r : Reps K os H ds' xs') :
    AtF p K E fr os (upd H a (.lst xs')) σ ρ (o.set n (.lst ds')) := by
  have sy : Stay H (upd H a (.lst xs')) := stay_upd e2
  have ha : a ∈ os := List.mem_of_getElem? e1
  have O := A.at_.obs
  have En := A.at_.env
  refine ⟨⟨⟨En.len, fun j d q => ?_, fun j d q => ?_, En.dis, fun j np nl b cap q => ?_, En.exc⟩, ⟨by rw [List.length_set]; exact O.len, fun j so q => ?_, O.nd⟩, tabs_st sy A.at_.tab⟩, N.obj A.e ha e2, A.fresh⟩
  · obtain ⟨v, z1, z2⟩ := En.val j d q
    exact ⟨v, z1, Rep.stay sy d z2⟩
  · obtain ⟨ds2, b, ys, z1, z2, z3, z4, z5⟩ := En.own j d q
    refine ⟨ds2, b, ys, z1, z2, z3, ?_, Reps.stay sy ds2 z5⟩
    rw [upd_ne (by rintro rfl; exact z3 ha)]
    exact z4
  · obtain ⟨f, vs, c', q', z1, z2, z3, z4⟩ := En.clo j np nl b cap q
    exact ⟨f, vs, c', q', z1, z2, Reps.stay sy cap z3, sy _ _ z4 fun _ z => by unfold LamX.CodeO at z; cases z⟩
  · by_cases hj : n = j
    · subst hj
      have hl : n < o.length := (List.getElem?_eq_some_iff.mp e).1
      rw [List.getElem?_set_self hl] at q
      cases q
      exact ⟨a, e1, xs', upd_same, Reps.stay sy ds' r⟩
    · rw [List.getElem?_set_ne hj] at q
      obtain ⟨b, z1, z2⟩ := O.at_ j so q
      refine ⟨b, z1, z2.stay sy fun ys z => ?_⟩
      rw [upd_ne]
      · exact z
      · rintro rfl
        have h1 := (List.getElem?_eq_some_iff.mp e1)
        have h2 := (List.getElem?_eq_some_iff.mp z1)
        obtain ⟨l1, g1⟩ := h1
        obtain ⟨l2, g2⟩ := h2
        exact hj ((List.getElem_inj O.nd).mp (g1.trans g2.symm))
theorem gs_setIdx {i : Nat} {x : Str} {px spos : Pos} {ei : Expr} {k : IE} (hN : X.N[i]? = some x) (hv : Vis X.env.scope x) (hd : (x == ("__debug__" : Str)) = false) (hcd : (x == ("__classdict__" : Str)) = false) (he : PE X e (tE p X.K W ie)) (hk : PE X ei (tE p X.K W k))
    (hs : swapsWithSole [.Subscript (.Name x px) ei spos] e pos.line X.env = pure false) (hw : swappedStores [.Subscript (.Name x px) ei spos] e X.env = pure none) (hsl : ∀ a b c d, ei ≠ .Slice a b c d) :
    PS X (.Assign [.Subscript (.Name x px) ei spos] e pos) (tSt p X.K W (seqS [.setIdx (.bor i) k ie])) := by
  have hg := pg_sub (pos := spos) (pe_var (pos := px) hN hv hd hcd) hk set_list (by intro v; cases ei <;> first | exact absurd rfl (hsl _ _ _ _) | rfl)
  refine g1 (ps_asg he hg hs hw (by rfl)) fun E fr N ρ os o Dn σ H A h => ?_
  have h : OutS p X.K W E fr (match ρ[i]? with
      | some (.own (.lst ds)) => (p.evE ie ρ o).st ρ fun d o1 => (p.evE k ρ o1).st ρ fun kd o2 => match kd with
        | .int j => match putD ds j d with
          | some ds' => SRes.nx (ρ.set i (.own (.lst ds'))) o2
          | none => .stuck
        | _ => .stuck
      | some (.val (.obj n)) => (p.evE ie ρ o).st ρ fun d o1 => (p.evE k ρ o1).st ρ fun kd o2 => match kd with
        | .int j => match o2[n]? with
          | some (.lst ds) => match putD ds j d with
            | some ds' => SRes.nx ρ (o2.set n (.lst ds'))
            | none => .stuck
          | none => .stuck
        | _ => .stuck
      | _ => .stuck) Dn := h
  split at h
  · rename_i ds eρ
    obtain ⟨ds0, a, xs, eds, e1, n, e2, r⟩ := A.at_.env.own i _ eρ
    cases eds
    refine ⟨ρ, os, o, A.at_, (OutS.st N A h).mono fun d o1 os1 H1 _ P1 O1 q v rv => ⟨.ref a, e1, ?_⟩⟩
    have A1 := A.next N P1 O1
    refine ⟨ρ, os1, o1, A1.at_, (OutS.st N A1 q).mono fun kd o2 os2 H2 _ P2 O2 q2 kv rk => ?_⟩
    have P := P1.trans P2
    have A2 := A1.next N P2 O2
    have e3 := P.keep _ _ e2 n (fun _ z => by cases z)
    have n3 : a ∉ os2 := (P.del n e2).2.1
    have r3 := Reps.post P A.at_.obs ds r
    cases kd with
    | int j =>
      obtain rfl := rk.int
      cases ep : putD ds j d with
      | none => have q2 : OutS p X.K W E fr (match putD ds j d with | some ds' => SRes.nx (ρ.set i (.own (.lst ds'))) o2 | none => .stuck) Dn := q2; rw [ep] at q2; exact q2.elim
      | some ds' =>
        have q2 : OutS p X.K W E fr (match putD ds j d with | some ds' => SRes.nx (ρ.set i (.own (.lst ds'))) o2 | none => .stuck) Dn := q2
        rw [ep] at q2
        obtain ⟨m, em, rfl⟩ := putD_some ep
        rw [← r3.length] at em
        exact ⟨a, xs, j, m, rfl, rfl, e3, em, q2.nx (A2.mutOwn N eρ e1 e3 n3 (r3.set m (Rep.post P2 O1 d rv)))⟩
    | _ => exact q2.elim
  · rename_i n eρ
    obtain ⟨v0, e1, r0⟩ := A.at_.env.val i _ eρ
    refine ⟨ρ, os, o, A.at_, (OutS.st N A h).mono fun d o1 os1 H1 _ P1 O1 q v rv => ⟨v0, e1, ?_⟩⟩
    have A1 := A.next N P1 O1
    refine ⟨ρ, os1, o1, A1.at_, (OutS.st N A1 q).mono fun kd o2 os2 H2 _ P2 O2 q2 kv rk => ?_⟩
    have P := P1.trans P2
    have A2 := A1.next N P2 O2
    have r2 := Rep.post P A.at_.obs _ r0
    unfold Rep at r2
    obtain ⟨a, ea, rfl⟩ := r2
    cases kd with
    | int j =>
      obtain rfl := rk.int
      have q2 : OutS p X.K W E fr (match o2[n]? with
          | some (.lst ds) => match putD ds j d with
            | some ds' => SRes.nx ρ (o2.set n (.lst ds'))
            | none => .stuck
          | none => .stuck) Dn := q2
      split at q2
      · rename_i ds eo
        obtain ⟨a', ea', xs, ex, rx⟩ := O2.at_ n _ eo
        rw [ea] at ea'
        cases ea'
        split at q2
        · rename_i ds' ep
          obtain ⟨m, em, rfl⟩ := putD_some ep
          rw [← rx.length] at em
          exact ⟨a, xs, j, m, rfl, rfl, ex, em, q2.nx (A2.mutObj N eo ea ex (rx.set m (Rep.post P2 O1 d rv)))⟩
        · exact q2.elim
      · exact q2.elim
    | _ => exact q2.elim
  · exact h.elim
/-- name op= e -/
theorem gs_aug {i : Nat} {x : Str} {op : Operator} {pos' : Pos} (hop : op = .Add ∨ op = .Sub) (hN : X.N.Nodup) (hi : X.N[i]? = some x) (hx : Loc X.env.scope x) (he : PE X e (tE p X.K W ie)) (hf : X.fn x = true ∨ X.env.scope.names.lookup x = some .local) :
    PS X (.AugAssign (.Name x pos') op e pos) (tSt p X.K W (seqS [.aug i op ie])) := by
  have ho : PIp X op fun vx vy H Q => ∃ x y d, vx = V.int x ∧ vy = V.int y ∧ augD op (.int x) (.int y) = some d ∧ ∀ v, Rep X.K [] H d v → Q v H := by
    rcases hop with rfl | rfl
    · rintro pins s σ H _ _ v u Q I r1 r2 ⟨x, y, d, rfl, rfl, ed, q⟩
      cases ed
      exact ip_add pins s σ H _ _ v u Q I r1 r2 ⟨x, y, rfl, rfl, q _ (.mkInt _)⟩
    · rintro pins s σ H _ _ v u Q I r1 r2 ⟨x, y, d, rfl, rfl, ed, q⟩
      cases ed
      exact ip_sub pins s σ H _ _ v u Q I r1 r2 ⟨x, y, rfl, rfl, q _ (.mkInt _)⟩
  refine g1 (ps_aug hN hi hx he ho hf) fun E fr N ρ os o Dn σ H A h => ?_
  have h : OutS p X.K W E fr (match getV ρ i with
    | some x => (p.evE ie ρ o).st ρ fun y o1 => match augD op x y with
      | some d => SRes.nx (ρ.set i (.val d)) o1
      | none => .stuck
    | none => .stuck) Dn := h
  split at h
  · rename_i dx ex
    obtain ⟨vx, e1, rx⟩ := A.at_.env.val i dx (getV_some ex)
    refine ⟨vx, e1, ρ, os, o, A.at_, (OutS.st N A h).mono fun dy o1 os1 H1 _ P1 O1 q vy ry => ?_⟩
    cases ea : augD op dx dy with
    | none => rw [ea] at q; exact q.elim
    | some d =>
      rw [ea] at q
      have rx' := Rep.post P1 A.at_.obs dx rx
      have A1 := A.next N P1 O1
      unfold augD at ea
      split at ea
      · cases ea
        exact ⟨_, _, _, rx'.int, ry.int, rfl, fun v rv => q.nx (A1.set (by rw [rv.int]; exact .mkInt _) i)⟩
      · cases ea
        exact ⟨_, _, _, rx'.int, ry.int, rfl, fun v rv => q.nx (A1.set (by rw [rv.int]; exact .mkInt _) i)⟩
      · cases ea
  · exact h.elim
/-- a, b = x, y stored from the right -/
theorem gs_par2 {i j : Nat} {st : Stmt} {ta : TA} {es : IEs} {c : List Expr} (ha : PA X c (tVs p X.K W es)) (h : PS X st (tPar i j (tVs p X.K W es))) : PS X st (tSt p X.K W (seqS [.par [i, j] es])) := g1 h fun E fr N ρ os o Dn σ H A h =>
  ⟨ρ, os, o, A.at_, (OutS.st N A h).mono fun ds o1 os1 H1 _ P1 O1 q vs r => by
    have A1 := A.next N P1 O1
    cases ds with
    | nil => exact q.elim
    | cons d1 ds =>
      cases ds with
      | nil => exact q.elim
      | cons d2 ds =>
        cases ds with
        | cons => exact q.elim
        | nil =>
          obtain ⟨v1, r', rfl, r1, r2⟩ := r.inv
          obtain ⟨v2, r'', rfl, r3, r4⟩ := r2.inv
          obtain rfl := r4.inv0
          have q : OutS p X.K W E fr (.nx ((ρ.set i (.val d1)).set j (.val d2)) o1) Dn := q
          exact ⟨v1, v2, rfl, q.nx ((A1.set r1 i).set r3 j)⟩⟩
theorem gs_par3 {i j l : Nat} {st : Stmt} {ta : TA} {es : IEs} {c : List Expr} (ha : PA X c (tVs p X.K W es)) (h : PS X st (tPar3 i j l (tVs p X.K W es))) : PS X st (tSt p X.K W (seqS [.par [i, j, l] es])) := g1 h fun E fr N ρ os o Dn σ H A h =>
  ⟨ρ, os, o, A.at_, (OutS.st N A h).mono fun ds o1 os1 H1 _ P1 O1 q vs r => by
    have A1 := A.next N P1 O1
    cases ds with
    | nil => exact q.elim
    | cons d1 ds =>
      cases ds with
      | nil => exact q.elim
      | cons d2 ds =>
        cases ds with
        | nil => exact q.elim
        | cons d3 ds =>
          cases ds with
          | cons => exact q.elim
          | nil =>
            obtain ⟨v1, r', rfl, r1, r2⟩ := r.inv
            obtain ⟨v2, r'', rfl, r3, r4⟩ := r2.inv
            obtain ⟨v3, r''', rfl, r5, r6⟩ := r4.inv
            obtain rfl := r6.inv0
            have q : OutS p X.K W E fr (.nx (((ρ.set i (.val d1)).set j (.val d2)).set l (.val d3)) o1) Dn := q
            exact ⟨v1, v2, v3, rfl, q.nx (((A1.set r1 i).set r3 j).set r5 l)⟩⟩
/-! ### tests -/
theorem tT_st {f : Bool → Objs → SRes} {R : Bool → Hp → Prop} (N : Ent K p.T E fr) (A : AtF p K E fr os H σ ρ o) (h : OutS p K W E fr ((p.evT ie ρ o).st ρ f) Dn)
    (hR : ∀ k o' os' H', AtF p K E fr os' H' σ ρ o' → OutS p K W E fr (f k o') Dn → R k H') : tT p K W ie σ H R := by
  refine ⟨ρ, os, o, A.at_, ?_⟩
  have e : (p.evT ie ρ o).st ρ f = (p.evE ie ρ o).st ρ fun d o1 => match d with
      | .bl b => f b o1
      | _ => .stuck := by
    show ((p.evE ie ρ o).bind fun d o1 => match d with | .bl b => Res.ok b o1 | _ => .stuck).st ρ f = _
    cases p.evE ie ρ o with
    | ok d o1 => cases d <;> rfl
    | err => rfl
    | stuck => rfl
  rw [e] at h
  refine (OutS.st N A h).mono fun d o1 os1 H1 _ P1 O1 q => ?_
  cases d with
  | bl k => exact ⟨k, rfl, hR k o1 os1 H1 (A.next N P1 O1) q⟩
  | _ => exact q.elim
theorem gs_if {c : Expr} {a b : List Stmt} {ic : IE} {ia ib : ISs} (hc : PT X c (tT p X.K W ic)) (ha : PSs X a (tSt p X.K W ia)) (hb : PSs X b (tSt p X.K W ib)) : PS X (.If c a b pos) (tSt p X.K W (seqS [.ife ic ia ib])) :=
  g1 (ps_if hc ha hb) fun E fr N ρ os o Dn σ H A h => tT_st N A h fun k o1 os1 H1 A1 q => by
    cases k with
    | true => exact ⟨E, fr, N, ρ, os1, o1, A1, q⟩
    | false => exact ⟨E, fr, N, ρ, os1, o1, A1, q⟩
theorem gs_while {c : Expr} {b : List Stmt} {ic : IE} {ib : ISs} (hp : PassesOwn (model X.prog X.w) X.A X.env X.xe) (hc : PT X c (tT p X.K W ic)) (hb : PSs X b (tSt p X.K W ib)) : PS X (.While c b [] pos) (tSt p X.K W (seqS [.whl ic ib])) :=
  g1 (ps_while hp hc hb) fun E fr N ρ os o Dn σ H A h => by
    refine ⟨fun n σ H => ∃ ρ os o, AtF p X.K E fr os H σ ρ o ∧ OutS p X.K W E fr (loopW (fun ρ o => p.evT ic ρ o) (fun ρ o => p.exSs ib ρ o) n ρ o) Dn, ⟨p.L, ρ, os, o, A, h⟩, ?_⟩
    rintro n σ H ⟨ρ, os, o, A, h⟩
    cases n with
    | zero => exact h.elim
    | succ n =>
      refine tT_st N A h fun k o1 os1 H1 A1 q => ?_
      cases k with
      | false => exact OutS.nx q A1
      | true =>
        refine ⟨fun σ' H' => ∃ ρ os o, AtF p X.K E fr os H' σ' ρ o ∧ OutS p X.K W E fr (loopW (fun ρ o => p.evT ic ρ o) (fun ρ o => p.exSs ib ρ o) n ρ o) Dn, fun σ' H' z => ⟨n, Nat.lt_succ_self n, z⟩, E, fr, N, ρ, os1, o1, A1, ?_⟩
        have q : OutS p X.K W E fr (match p.exSs ib ρ o1 with
          | .nx ρ' o' => loopW (fun ρ o => p.evT ic ρ o) (fun ρ o => p.exSs ib ρ o) n ρ' o'
          | .cnt ρ' o' => loopW (fun ρ o => p.evT ic ρ o) (fun ρ o => p.exSs ib ρ o) n ρ' o'
          | .brk ρ' o' => .nx ρ' o'
          | r => r) Dn := q
        show OutS p X.K W E fr (p.exSs ib ρ o1) _
        cases er : p.exSs ib ρ o1 with
        | nx ρ' o' => rw [er] at q; exact fun os2 H2 σ2 A2 => ⟨ρ', os2, o', A2, q⟩
        | cnt ρ' o' => rw [er] at q; exact fun os2 H2 σ2 A2 => ⟨ρ', os2, o', A2, q⟩
        | brk ρ' o' => rw [er] at q; exact q
        | ret d o' => rw [er] at q; exact q
        | err c xs ρ' o' => rw [er] at q; exact q
        | stuck => rw [er] at q; exact q
theorem AtF.imp {E' : List Addr → Hp → Prop} (A : AtF p K E fr os H σ ρ o) (h : E' os H) : AtF p K E' fr os H σ ρ o := ⟨A.at_, h, A.fresh⟩
theorem gs_for {tg iter : Expr} {b : List Stmt} {t : Tg} {src : ISrc} {ib : ISs} (hp : PassesOwn (model X.prog X.w) X.A X.env X.xe) (hc : X.calm = true) (hi : PI X tg iter (tS false p X.K W src)) (hg : PG X tg (gTg p X.K t)) (hb : PSs X b (tSt p X.K W ib)) (hs : ∀ x, foldedSetIterable iter X.env x = pure x) :
    PS X (.For tg iter b [] pos) (tSt p X.K W (seqS [.for t src ib])) :=
  g1 (ps_for hp hc hi hg hb hs) fun E fr N ρ os o Dn σ H A h => by
    refine ⟨ρ, os, o, A.at_, (OutS.st N A h).mono fun ds o1 os1 H1 _ P1 O1 q J yl => ?_⟩
    have A1 := A.next N P1 O1
    let E2 : List Addr → Hp → Prop := fun os H => E os H ∧ Kp os1 H1 os H
    have N2 : Ent X.K p.T E2 fr := ent_kp N
    have k0 : Kp os1 H1 os1 H1 := ⟨⟨[], by simp⟩, fun b u e _ _ => e⟩
    refine ⟨fun i m σ H => m = ds.length - i ∧ i ≤ ds.length ∧ ∃ ρ os o, AtF p X.K E2 fr os H σ ρ o ∧ OutS p X.K W E fr (loopF (fun d ρ => bindT t d ρ) (fun ρ o => p.exSs ib ρ o) (ds.drop i) ρ o) Dn, ⟨ds.length, by simp, Nat.zero_le _, ρ, os1, o1, A1.imp ⟨A1.e, k0⟩, q⟩, ?_⟩
    rintro i m σ H ⟨rfl, hi', ρ, os, o, A, h⟩
    have y := yl os H o A.e.2 A.at_.obs i
    by_cases hlt : i < ds.length
    · refine .inr ⟨(y.1 hlt).1, fun σ' H' => ∃ ρ os o, AtF p X.K E2 fr os H' σ' ρ o ∧ OutS p X.K W E fr (loopF (fun d ρ => bindT t d ρ) (fun ρ o => p.exSs ib ρ o) (ds.drop (i + 1)) ρ o) Dn, fun σ' H' nx => ⟨ds.length - (i + 1), by omega, rfl, hlt, nx⟩, fun x H3 hy => ?_⟩
      obtain ⟨s3, d, ed, rd⟩ := (y.1 hlt).2 x H3 hy
      have A3 := A.next N2 (.same s3) (A.at_.obs.same s3)
      have edrop : ds.drop i = d :: ds.drop (i + 1) := by
        rw [List.drop_eq_getElem_cons hlt]
        rw [List.getElem?_eq_getElem hlt] at ed
        cases ed
        rfl
      rw [edrop] at h
      have h : OutS p X.K W E fr (match bindT t d ρ with
        | none => .stuck
        | some ρ1 => match p.exSs ib ρ1 o with
          | .nx ρ' o' => loopF (fun d ρ => bindT t d ρ) (fun ρ o => p.exSs ib ρ o) (ds.drop (i + 1)) ρ' o'
          | .cnt ρ' o' => loopF (fun d ρ => bindT t d ρ) (fun ρ o => p.exSs ib ρ o) (ds.drop (i + 1)) ρ' o'
          | .brk ρ' o' => .nx ρ' o'
          | r => r) Dn := h
      cases eb : bindT t d ρ with
      | none => rw [eb] at h; exact h.elim
      | some ρ1 =>
        rw [eb] at h
        refine ⟨ρ, os, o, d, ρ1, A3.at_, rd, eb, fun σ4 A4 ag => ⟨E2, fr, N2, ρ1, os, o, A3.bind eb A4 ag, ?_⟩⟩
        have h : OutS p X.K W E fr (match p.exSs ib ρ1 o with
          | .nx ρ' o' => loopF (fun d ρ => bindT t d ρ) (fun ρ o => p.exSs ib ρ o) (ds.drop (i + 1)) ρ' o'
          | .cnt ρ' o' => loopF (fun d ρ => bindT t d ρ) (fun ρ o => p.exSs ib ρ o) (ds.drop (i + 1)) ρ' o'
          | .brk ρ' o' => .nx ρ' o'
          | r => r) Dn := h
        show OutS p X.K W E2 fr (p.exSs ib ρ1 o) _
        cases er : p.exSs ib ρ1 o with
        | nx ρ' o' => rw [er] at h; exact fun os2 H2 σ2 A2 => ⟨ρ', os2, o', A2, h⟩
        | cnt ρ' o' => rw [er] at h; exact fun os2 H2 σ2 A2 => ⟨ρ', os2, o', A2, h⟩
        | brk ρ' o' => rw [er] at h; exact fun os2 H2 σ2 A2 => OutS.nx h (A2.imp A2.e.1)
        | ret d o' => rw [er] at h; exact fun os2 H2 v z => h os2 H2 v z.1
        | err c xs ρ' o' => rw [er] at h; exact fun os2 H2 σ2 cls d A2 => h os2 H2 σ2 cls d (A2.imp A2.e.1)
        | stuck => rw [er] at h; exact h
    · have ei : i = ds.length := by omega
      refine .inl ⟨y.2 (by omega), ?_⟩
      rw [ei, List.drop_length] at h
      exact OutS.nx h (A.imp A.e.1)
/-- return [..], a list that is shared from then on -/
theorem gs_retObj {es : List Expr} {as : IEs} {lp : Pos} (ha : PA X es (tVs p X.K W as)) : PS X (.Return (some (.List es lp)) pos) (tSt p X.K W (seqS [.retObj as])) := g1 (ps_ret (pe_lst ha)) fun E fr N ρ os o Dn σ H A h =>
  ⟨ρ, os, o, A.at_, (OutS.st N A h).mono fun ds o1 os1 H1 _ P1 O1 q vs r => by
    have A1 := A.next N P1 O1
    have q : OutS p X.K W E fr (if sz ds.length then .ret (.obj o1.length) (o1 ++ [.lst ds]) else .stuck) Dn := q
    split at q
    · rename_i hz
      have z := szP hz
      rw [← r.length] at z
      refine ⟨z, fun a hn => ?_⟩
      have s1 := same_upd (o := .lst vs) hn
      have na : a ∉ os1 := fun hm => by
        obtain ⟨ys, w⟩ := O1.mem hm
        rw [hn] at w; cases w
      have P : Post p.T os1 H1 (os1 ++ [a]) (upd H1 a (.lst vs)) :=
        ⟨⟨[a], rfl, fun b hb => by rw [List.mem_singleton.mp hb]; exact .of hn⟩, fun b u e _ _ => s1 b u e, fun b e u w => e u (s1 b u w), fun t => LamX.Tabs.ext t s1⟩
      have O2 : OOk X.K (os1 ++ [a]) (upd H1 a (.lst vs)) (o1 ++ [.lst ds]) := by
        refine ⟨by simp [O1.len], fun i so e => ?_, ?_⟩
        · by_cases hi : i < o1.length
          · rw [List.getElem?_append_left hi] at e
            obtain ⟨b, e1, e2⟩ := O1.at_ i so e
            refine ⟨b, by rw [List.getElem?_append_left (by rw [O1.len]; exact hi)]; exact e1, ?_⟩
            cases so with
            | lst es =>
              obtain ⟨ys, z1, z2⟩ := e2
              exact ⟨ys, s1 _ _ z1, Reps.post P O1 es z2⟩
          · rw [List.getElem?_append_right (by omega)] at e
            have hi0 : i - o1.length = 0 := by
              by_cases h0 : i - o1.length = 0
              · exact h0
              · rw [List.getElem?_eq_none (by simp; omega)] at e; cases e
            rw [hi0] at e
            cases e
            have ei : i = o1.length := by omega
            subst ei
            refine ⟨a, ?_, vs, upd_same, Reps.post P O1 ds r⟩
            rw [← O1.len]
            simp
        · rw [List.nodup_append]
          exact ⟨O1.nd, by simp, fun b hb c hc => by rw [List.mem_singleton.mp hc]; rintro rfl; exact na hb⟩
      refine q (os1 ++ [a]) _ (.ref a) (N.step A1.e O1 P) O2 (P.tab A1.at_.tab) ?_
      unfold Rep
      exact ⟨a, by rw [← O1.len]; simp, rfl⟩
    · exact q.elim⟩
end
end Ev

set_option maxHeartbeats 4000000
/-! EvT: raise, try; all statements. -/
namespace Ev
open PySem PySem.Spec PyProof.Rows L2
section
variable {X : Cx} {p : Pm} {K : PySem.W.Frag} {W : WX} {E : List Addr → Hp → Prop} {fr : Addr → Prop} {os os' : List Addr} {H H' : Hp} {o o' : Objs} {σ : L2.St} {ρ : Frm} {α : Type} {Dn : Ends} {e : Expr} {ie : IE} {pos : Pos}
/-- C() -/
theorem pmk0 {C : Addr} {bmB : List Value} {B newId initId : String} {x : Str} {pn pos : Pos} (F : ExcBaseFacts B newId initId bmB) (q : PySem.W.excIn X.K C bmB newId = true) (gC : X.mg x = some (.ref C)) (kC : PySem.W.keepIn X.K (.ref C) = true) (r : Raises X (.ref C)) (hg : Gl X x) (hdb : (x == ("__debug__" : Str)) = false) :
    L2N.PMk X (.Call (.Name x pn) [] [] pos) (fun _ H Q => Q (.ref C) none H) := by
  intro pins s σ H Q I h
  refine wpAny_Call_Name_kw (ld_glob I hg gC ?_ hdb)
  refine PySem.W.callWith_K0 I.kIn kC ?_
  show wpAny _ _ (call (.ref C) []) _ _ _
  obtain ⟨bm, N, nm, qn, bs, hdct, sn, sub, ab, col, dd, k0, k1, k2, k3, k5, mN, hC, hN, hni, T⟩ := exc_obj I.kIn q
  exact wpAny_call_exc_subT F T hC hN hni (fun h' e hm => L2N.mk_of I hm r h (I.hok.gone hm.new)) (by show 0 ≤ sizeLine; exact Nat.zero_le _)
variable {D : Wd} {k : Nat} {ex : Addr → Str → Prop} {Γ : Scp}
theorem gs_raise (g : Good D k ex X W Γ) (hh : Γ.hot = false) {c : Str} {pn cp : Pos} (hg : Gl X c) (hd : (c == ("__debug__" : Str)) = false) (hc : c ∈ D.clss) : PS X (.Raise (some (.Call (.Name c pn) [] [] cp)) none pos) (tSt (pmX D k ex X) X.K W (seqS [.raise c .none])) := by
  obtain ⟨B, newId, initId, bmB, F, q, hm, hk, h1, h2, _⟩ := g.ok.exc c hc
  rw [← g.K] at q hk h1 h2
  rw [← g.mg] at hm
  refine g1 (L2N.ps_raise (g.fit.calm hh) g.tk (pmk0 F q hm hk (raises_own h1 h2) hg hd)) fun E fr N ρ os o Dn σ H A h => ?_
  have h : OutS (pmX D k ex X) X.K W E fr (.err c [] ρ o) Dn := h
  exact h os H σ _ _ A ⟨rfl, hc, .inl ⟨rfl, rfl⟩⟩
/-! ### try -/
/-- what is caught in the suite: the exception at a, of the class cls -/
def exOf (D : Wd) (a : Addr) (cls : Value) (d : Option Addr) : Addr → Str → Prop := fun a' c => a' = a ∧ cls = .ref (D.ad c) ∧ d = none ∧ c ∈ D.clss
structure GoodS (D : Wd) (k : Nat) (ex : Addr → Str → Prop) (X : Cx) (W : WX) (Γ : Scp) : Prop where
  g : Good D k ex X W Γ
  st : X.stack = X.env :: X.outer
  fm : X.env.frame = some X.env.locals
  fn : ∀ x, X.fn x = true
  own : Γ.hot = false → PassesOwn (model X.prog X.w) X.A X.env X.xe
  noX : Γ.hot = false → ∀ a c, ¬ ex a c
theorem GoodS.tr (g : GoodS D k ex X W Γ) (hh : Γ.hot = false) {W' : WX} {pn : List (Addr × Obj)} {xe : Value → Shared → Prop} (tk : L2N.Takes (X.tr pn xe) W') (ow : PassesOwn (model X.prog X.w) X.A X.env xe) (hx : Γ.isx = true → ∀ a c, ¬ ex a c) : GoodS D k ex (X.tr pn xe) W' Γ where
  g := ⟨⟨g.g.fit.N, g.g.fit.nd, g.g.fit.kind, g.g.fit.sc, g.g.fit.un, g.g.fit.calm, fun z => (by rw [hh] at z; cases z), g.g.fit.blt⟩, g.g.ok, g.g.prog, g.g.w, g.g.K, g.g.mg, g.g.over, tk, g.g.room, g.g.defs, g.g.clss, g.g.lamT, fun h a c' c z => absurd z (hx h a c')⟩
  st := g.st
  fm := g.fm
  fn := g.fn
  own := fun _ => ow
  noX := g.noX
theorem hotc_suite {a : Addr} {oe : Obj} {cls : Value} {d : Option Addr} {pn : List (Addr × Obj)} (hz : L2N.Zn cls d oe) (hf : ∃ vs, oe.data = .fields vs) : L2H.HotC (X.suite a ((a, oe) :: pn)) := by
  obtain ⟨vs, e⟩ := hf
  exact ⟨(a, oe), ⟨rfl, vs, e, hz.2.2 vs e⟩, List.mem_cons_self⟩
theorem GoodS.suite (g : GoodS D k ex X W Γ) {a : Addr} {oe : Obj} {cls : Value} {d : Option Addr} {pn : List (Addr × Obj)} (hz : L2N.Zn cls d oe) (hf : ∃ vs, oe.data = .fields vs) : GoodS D k (exOf D a cls d) (X.suite a ((a, oe) :: pn)) WF { Γ with hot := true } where
  g := by
    refine ⟨⟨g.g.fit.N, g.g.fit.nd, g.g.fit.kind, g.g.fit.sc, g.g.fit.un, fun z => (by cases z), fun _ => hotc_suite hz hf, g.g.fit.blt⟩, g.g.ok, g.g.prog, g.g.w, g.g.K, g.g.mg, g.g.over, fun u s' ⟨_, _, _, _, _, _, _, _, _, _, _, _, _, _, _, _, z⟩ => z.elim, fun z => (by cases z), g.g.defs, g.g.clss, g.g.lamT, fun _ a' c' c z hc hgl hok => ?_⟩
    obtain ⟨rfl, rfl, rfl, hc'⟩ := z
    obtain ⟨_, _, _, _, _, _, _, _, _, _, xc⟩ := g.g.ok.exc c' hc'
    rw [← g.g.K] at xc
    have ci := call_isE (X := X) (a := a') (pn := pn) xc hz.zc hf
    have hd := okName_d hok
    rcases hc with hc | rfl
    · obtain ⟨_, _, _, _, _, _, hm, _⟩ := g.g.ok.exc c hc
      rw [← g.g.mg] at hm
      refine ⟨.ref (D.ad c), fun pos => pe_glob hgl hm rfl hd.1, fun pins s σ H xs us Q I r h => ?_⟩
      obtain ⟨rfl, q⟩ := h
      have z := (g.g.ok.exm c' hc' c hc).2
      rw [← g.g.K] at z
      exact ci pins s σ H _ us Q I r ⟨.ref (D.ad c), .ref (D.ad c), _, rfl, fun u z => z, z, q⟩
    · have hm := g.g.fit.blt "ValueError" (by decide)
      refine ⟨.ty "ValueError", fun pos => pe_bltn hgl hm (by rfl) rfl (by decide) (by decide), fun pins s σ H xs us Q I r h => ?_⟩
      obtain ⟨rfl, q⟩ := h
      have z := g.g.ok.exv c' hc'
      rw [← g.g.K] at z
      exact ci pins s σ H _ us Q I r ⟨.ty "ValueError", .type "ValueError", _, rfl, fun u z => z, z, q⟩
  st := g.st
  fm := g.fm
  fn := g.fn
  own := fun z => by cases z
  noX := fun z => by cases z
/-! #### the frame within the suite, and behind it -/
theorem clrX_get {ρ : Frm} {i j : Nat} {s : Slot} (h : (clrX ρ i)[j]? = some s) (n : s ≠ .none) : ρ[j]? = some s ∧ i ≠ j ∧ ∀ c xs, s ≠ .exc c xs := by
  unfold clrX at h
  have hj : i ≠ j := set_ne h (fun z => n z.symm)
  rw [List.getElem?_set_ne hj, List.getElem?_map] at h
  cases e : ρ[j]? with
  | none => rw [e] at h; cases h
  | some s0 =>
    rw [e] at h
    have h : some (noX s0) = some s := h
    cases h
    cases s0 with
    | exc c xs => exact absurd rfl n
    | _ => exact ⟨rfl, hj, fun c xs z => by cases z⟩
theorem AtF.inSuite {c' : Str} {a : Addr} {cls : Value} {i : Nat} (nx : ∀ a c, ¬ ex a c) (hx : exOf D a cls none a c') (A : AtF (pmX D k ex X) K E fr os H σ ρ o) : AtF (pmX D k (exOf D a cls none) X) K E fr os H (σ.set i (some (.ref a))) (ρ.set i (.exc c' [])) o := by
  have En := A.at_.env
  refine ⟨⟨⟨by rw [List.length_set, List.length_set]; exact En.len, fun j d q => ?_, fun j d q => ?_, fun j l d e b hjl q1 q2 q3 => ?_, fun j np nl b cap q => ?_, fun j c xs q => ?_⟩, A.at_.obs, A.at_.tab⟩, A.e, fun j d b q1 q2 => ?_⟩
  · have hj := set_ne q (fun z => by cases z)
    rw [List.getElem?_set_ne hj] at q ⊢
    exact En.val j d q
  · have hj := set_ne q (fun z => by cases z)
    rw [List.getElem?_set_ne hj] at q ⊢
    exact En.own j d q
  · have hj := set_ne q1 (fun z => by cases z)
    have hl := set_ne q2 (fun z => by cases z)
    rw [List.getElem?_set_ne hj] at q1 q3
    rw [List.getElem?_set_ne hl] at q2 ⊢
    exact En.dis j l d e b hjl q1 q2 q3
  · have hj := set_ne q (fun z => by cases z)
    rw [List.getElem?_set_ne hj] at q ⊢
    exact En.clo j np nl b cap q
  · by_cases hj : i = j
    · subst hj
      have hi : i < ρ.length := by simpa using (List.getElem?_eq_some_iff.mp q).1
      rw [List.getElem?_set_self hi] at q
      cases q
      exact ⟨a, by rw [List.getElem?_set_self (by rw [En.len]; exact hi)], hx⟩
    · rw [List.getElem?_set_ne hj] at q
      obtain ⟨b, _, z⟩ := En.exc j c xs q
      exact absurd z (nx b c)
  · have hj := set_ne q1 (fun z => by cases z)
    rw [List.getElem?_set_ne hj] at q1 q2
    exact A.fresh j d b q1 q2
theorem AtF.behind {ex' : Addr → Str → Prop} {i : Nat} (A : AtF (pmX D k ex' X) K E fr os H σ ρ o) : AtF (pmX D k ex X) K E fr os H (σ.set i none) (clrX ρ i) o := by
  have En := A.at_.env
  refine ⟨⟨⟨by unfold clrX; rw [List.length_set, List.length_set, List.length_map]; exact En.len, fun j d q => ?_, fun j d q => ?_, fun j l d e b hjl q1 q2 q3 => ?_, fun j np nl b cap q => ?_, fun j c xs q => ?_⟩, A.at_.obs, A.at_.tab⟩, A.e, fun j d b q1 q2 => ?_⟩
  · obtain ⟨z, hj, _⟩ := clrX_get q (fun z => by cases z)
    rw [List.getElem?_set_ne hj]
    exact En.val j d z
  · obtain ⟨z, hj, _⟩ := clrX_get q (fun z => by cases z)
    rw [List.getElem?_set_ne hj]
    exact En.own j d z
  · obtain ⟨z, hj, _⟩ := clrX_get q1 (fun z => by cases z)
    obtain ⟨y, hl, _⟩ := clrX_get q2 (fun z => by cases z)
    rw [List.getElem?_set_ne hj] at q3
    rw [List.getElem?_set_ne hl]
    exact En.dis j l d e b hjl z y q3
  · obtain ⟨z, hj, _⟩ := clrX_get q (fun z => by cases z)
    rw [List.getElem?_set_ne hj]
    exact En.clo j np nl b cap z
  · obtain ⟨z, hj, n⟩ := clrX_get q (fun z => by cases z)
    exact absurd rfl (n c xs)
  · obtain ⟨z, hj, _⟩ := clrX_get q1 (fun z => by cases z)
    rw [List.getElem?_set_ne hj] at q2
    exact A.fresh j d b z q2
theorem gs_try (g : GoodS D k ex X W Γ) (hh : Γ.hot = false) {i : Nat} {n c : Str} {body suite : List Stmt} {b₀ : Stmt} {np pos' pos : Pos} {ib ih : ISs} (hi : Γ.N[i]? = some n) (hln : X.env.scope.names.lookup n = some .local) (hg : Gl X c) (hd : (c == ("__debug__" : Str)) = false) (hc : c ∈ D.clss)
    (hb : ∀ {W' : WX} {pn : List (Addr × Obj)} {xe : Value → Shared → Prop}, GoodS D k ex (X.tr pn xe) W' Γ → PSs (X.tr pn xe) body (tSt (pmX D k ex X) X.K W' ib))
    (hsu : ∀ {ex' : Addr → Str → Prop} {a : Addr} {pn : List (Addr × Obj)}, GoodS D k ex' (X.suite a pn) WF { Γ with hot := true } → PSs (X.suite a pn) (b₀ :: suite) (tSt (pmX D k ex' X) X.K WF ih)) :
    PS X (.Try body [.ExceptHandler (some (.Name c np)) (some n) (b₀ :: suite) pos'] [] [] pos) (tSt (pmX D k ex X) X.K W (seqS [.tryAs ib c i ih])) := by
  obtain ⟨_, _, _, _, _, _, hm, _⟩ := g.g.ok.exc c hc
  rw [← g.g.mg] at hm
  have nx := g.noX hh
  refine g1 (L2N.ps_try_as (tb := fun W' => tSt (pmX D k ex X) X.K W' ib) (ts := fun a cls d => tSt (pmX D k (exOf D a cls d) X) X.K WF ih) g.st g.fm (by rw [g.g.fit.N]; exact g.g.fit.nd) (by rw [g.g.fit.N]; exact hi) hln ⟨hg, hd, .inl hm⟩ g.g.tk
    (fun W' pn xe tk ow => hb (g.tr hh tk ow fun _ => nx)) fun a oe cls d pn hz hf => hsu (g.suite hz hf)) fun E fr N ρ os o Dn σ H A h => ?_
  refine ⟨E, fr, N, ρ, os, o, A, ?_⟩
  have h : OutS (pmX D k ex X) X.K W E fr (match (pmX D k ex X).exSs ib ρ o with
    | .err c' xs ρ' o' => if D.T.isa c' c then match xs with
        | [] => match (pmX D k ex X).exSs ih (ρ'.set i (.exc c' [])) o' with
          | .nx ρ2 o2 => SRes.nx (clrX ρ2 i) o2
          | .brk ρ2 o2 => .brk (clrX ρ2 i) o2
          | .cnt ρ2 o2 => .cnt (clrX ρ2 i) o2
          | .ret d o2 => .ret d o2
          | _ => .stuck
        | _ => .stuck
      else .err c' xs ρ' o'
    | r => r) Dn := h
  show OutS (pmX D k ex X) X.K _ E fr ((pmX D k ex X).exSs ib ρ o) Dn
  have hiρ : i < Γ.N.length := (List.getElem?_eq_some_iff.mp hi).1
  cases er : (pmX D k ex X).exSs ib ρ o with
  | err c' xs ρ' o' =>
    rw [er] at h
    intro os1 H1 σ1 cls d A1 x
    obtain ⟨rfl, hc', x⟩ := x
    have hm' := (g.g.ok.exm c' hc' c hc).1
    rw [← g.g.K] at hm'
    refine ⟨D.T.isa c' c, hm', fun hy a ha => ?_, fun hn => ?_⟩
    · dsimp only at h
      rw [if_pos hy] at h
      cases xs with
      | cons => exact h.elim
      | nil =>
        have hd0 : d = none := by
          rcases x with ⟨_, z⟩ | ⟨_, _, _, z, _⟩
          · exact z
          · cases z
        subst hd0
        have h : OutS (pmX D k ex X) X.K W E fr (match (pmX D k ex X).exSs ih (ρ'.set i (.exc c' [])) o' with
          | .nx ρ2 o2 => SRes.nx (clrX ρ2 i) o2
          | .brk ρ2 o2 => .brk (clrX ρ2 i) o2
          | .cnt ρ2 o2 => .cnt (clrX ρ2 i) o2
          | .ret d o2 => .ret d o2
          | _ => .stuck) Dn := h
        refine ⟨E, fr, N, ρ'.set i (.exc c' []), os1, o', A1.inSuite nx ⟨rfl, rfl, rfl, hc'⟩, ?_⟩
        show OutS _ X.K WF E fr ((pmX D k ex X).exSs ih (ρ'.set i (.exc c' [])) o') _
        cases er2 : (pmX D k ex X).exSs ih (ρ'.set i (.exc c' [])) o' with
        | nx ρ2 o2 => rw [er2] at h; exact fun os2 H2 σ2 A2 => h os2 H2 _ A2.behind
        | brk ρ2 o2 => rw [er2] at h; exact fun os2 H2 σ2 A2 => h os2 H2 _ A2.behind
        | cnt ρ2 o2 => rw [er2] at h; exact fun os2 H2 σ2 A2 => h os2 H2 _ A2.behind
        | ret d o2 => rw [er2] at h; exact h
        | err c xs ρ o => rw [er2] at h; exact h.elim
        | stuck => rw [er2] at h; exact h.elim
    · dsimp only at h
      rw [if_neg (by rw [hn]; exact Bool.false_ne_true)] at h
      exact h os1 H1 σ1 _ d A1 ⟨rfl, hc', x⟩
  | nx ρ' o' => rw [er] at h; exact h
  | brk ρ' o' => rw [er] at h; exact h
  | cnt ρ' o' => rw [er] at h; exact h
  | ret d o' => rw [er] at h; exact h
  | stuck => rw [er] at h; exact h
end
end Ev

set_option maxHeartbeats 4000000
/-! EvU: all statements. -/
namespace Ev
open PySem PySem.Spec PyProof.Rows L2
section
variable {D : Wd} {k : Nat} {ex : Addr → Str → Prop} {X : Cx} {W : WX} {Γ : Scp}
theorem sw_plain {e : Expr} (h : isComp e = false) (t : Option Expr) (l : Nat) (env : Env) : swapsWith e t l env = pure false := by
  cases e <;> first
    | rfl
    | cases h
theorem block_fn (g : Fits X Γ) : X.env.blockKind = .function := by
  unfold Env.blockKind
  rw [g.sc, g.kind]
  rfl
theorem sw_par (g : Fits X Γ) {ts vs : List Expr} {k1 k2} {p1 p2 : Pos} {r : Option (List Str)} (h : parN Γ ts vs = some r) : swappedStores [.Tuple ts k1 p1] (.Tuple vs k2 p2) X.env = pure r := by
  have hk := block_fn g
  have hs : ∀ x, X.env.kindOf x = Γ.sc.names.lookup x := fun x => by
    show X.env.scope.names.lookup x = _
    rw [g.sc]
  unfold parN at h
  unfold swappedStores
  simp only [hk, hs]
  split at h
  · rename_i hc
    cases h
    refine (if_pos ?_).trans rfl
    rw [hc]
    rfl
  · rename_i hc
    refine (if_neg ?_).trans ?_
    · intro z
      apply hc
      simpa using z
    split at h
    · cases h
    · rename_i hc2
      refine (if_neg ?_).trans ?_
      · exact hc2
      simp only at h
      split at h
      · rename_i hc3
        cases h
        refine (if_pos ?_).trans rfl
        exact hc3
      · rename_i hc3
        refine (if_neg ?_).trans ?_
        · exact hc3
        split at h
        · rename_i hc4
          cases h
          exact (if_pos hc4).trans rfl
        · rename_i hc4
          refine (if_neg hc4).trans ?_
          split at h
          · cases h
          · rename_i hc5
            cases h
            exact (if_neg hc5).trans rfl
theorem sw_none {ts : List Expr} {k1} {p1 : Pos} {e : Expr} (h : ∀ a b c, e ≠ .Tuple a b c) : swappedStores [.Tuple ts k1 p1] e X.env = pure none := by
  cases e <;> first
    | exact absurd rfl (h _ _ _)
    | rfl
/-- a comprehension whose store is exchanged -/
theorem comp_set (hF : CallsOk D k) (hC : CloOk D k) {n : Nat} (g : Good D k ex X W Γ) (hfn : ∀ x, X.fn x = true) {elt : Expr} {gs : List Comprehension} {scope : Scope} {pos spos py : Pos} {ie : IE} {i : Nat} {y : Str} (h : cE n Γ (.ListComp elt gs scope pos) = some ie)
    (hy : X.N[i]? = some y) (hyl : Loc X.env.scope y) : PS X (.Assign [.Name y py] (.ListComp elt gs scope pos) spos) (tAsg (tM (pmX D k ex X) X.K W ie) (gName i)) ∧ isNew ie = true := by
  have hM := cE_ok (ex := ex) hF hC n g _ _ h
  have hND : X.N.Nodup := by rw [g.fit.N]; exact g.fit.nd
  cases n with
  | zero => unfold cE at h; cases h
  | succ n =>
    cases gs with
    | nil => unfold cE at h; cases h
    | cons gen gs =>
      obtain ⟨tg, iter, ifs, as⟩ := gen
      by_cases has : gs = [] ∧ as = 0
      · obtain ⟨rfl, rfl⟩ := has
        have hsw : ∃ b, swapsWith (.ListComp elt [⟨tg, iter, ifs, 0⟩] scope pos) (some (.Name y py)) spos.line X.env = pure b ∧ (b = true → X.env.scope.names.lookup y = some .local) := by
          refine ⟨(X.env.blockKind == .function && X.env.kindOf y == some .local && py.line == pos.line && !(scope.names.any fun (n, k) => n == y && (k == .local || k == .cell))), rfl, fun z => ?_⟩
          simp only [Bool.and_eq_true] at z
          have w : (X.env.scope.names.lookup y == some NameKind.local) = true := z.1.1.2
          simpa using w
        obtain ⟨b, hb, hbl⟩ := hsw
        have hE' : ∀ e a, cE n Γ e = some a → PE X e (tE (pmX D k ex X) X.K W a) ∧ ∀ x y, e ≠ .Starred x y := fun e a q => ⟨(cE_ok hF hC n g e a q).val', cE_ns q⟩
        unfold cE at h
        simp only at h
        split at h
        · rename_i hg
          rw [Bool.and_eq_true, Bool.or_eq_true, Bool.not_eq_true'] at hg
          split at h
          · rename_i x t s c h1 h2 h3 h4
            split at h
            · rename_i hall
              cases h
              refine ⟨?_, rfl⟩
              cases b with
              | false => exact ps_set hND hy hyl (hM.new' rfl) hb (.inl (hfn y))
              | true =>
                have hloc := hbl rfl
                have ok : BlkOk X.N X.env.scope scope (ownOf Γ.N scope) := by
                  rw [g.fit.N, g.fit.sc]
                  exact blkOk_by hg.2
                have hw : ∀ i ∈ tgS t, i ∈ (ownOf Γ.N scope).map (·.2) := fun i hi => by
                  have z := List.all_eq_true.mp hall i hi
                  simpa using z
                cases hh : Γ.hot with
                | false =>
                  have hc := g.fit.calm hh
                  refine gm_setLc hc hND hy hloc hb (cSrc_ok g.fit hE' h3) ok (fun s H C cl fp => ?_) (fun s H C cl fp => ?_) (fun s H C cl fp => ?_) (fsi_plain (cSrc_set h3) _) hw
                  · exact tg_ok (p := pmX D k ex X) (g.blk hh scope ok.kind s H C cl fp).fit (.inl hc) 10 tg t h2 fun i hi => sto_own g ok (hw i hi)
                  · exact cIfs_ok (fun e a q => (cE_ok hF hC n (g.blk hh scope ok.kind s H C cl fp) e a q).test) h4
                  · exact (cE_ok hF hC n (g.blk hh scope ok.kind s H C cl fp) _ _ h1).val'
                | true =>
                  obtain ⟨q, q1, q2⟩ := g.fit.hotc hh
                  have hnm := hg.1.resolve_left (by rw [hh]; exact Bool.noConfusion)
                  refine gm_setLcH q1 q2 hND hy hloc hb (cSrcH_ok g.fit hE' hnm h3) ok ⟨fun s H C cl fp => ?_, fun s H C cl fp => ?_, fun s H C cl fp => ?_⟩ (fsi_plain (cSrc_set h3) _) hw
                  · exact tg_ok (p := pmX D k ex X) (g.blkH q1 scope ok.kind s H C cl fp).fit (.inr ⟨q, q1, List.mem_singleton_self q⟩) 10 tg t h2 fun i hi => sto_own (cl := cl) (fp := fp) (s := s) (H := H) (C := C) g ok (hw i hi)
                  · exact cIfs_ok (fun e a z => (cE_ok hF hC n (g.blkH q1 scope ok.kind s H C cl fp) e a z).test) h4
                  · exact (cE_ok hF hC n (g.blkH q1 scope ok.kind s H C cl fp) _ _ h1).val'
            · cases h
          · cases h
        · cases h
      · exfalso
        cases gs with
        | nil =>
          cases as with
          | ofNat m =>
            cases m with
            | zero => exact has ⟨rfl, rfl⟩
            | succ m => unfold cE at h; cases h
          | negSucc m => unfold cE at h; cases h
        | cons =>
          cases as with
          | ofNat m =>
            cases m with
            | zero => unfold cE at h; cases h
            | succ m => unfold cE at h; cases h
          | negSucc m => unfold cE at h; cases h
end
end Ev

set_option maxHeartbeats 8000000
/-! EvV: statements: the code tree's meaning is what the program does. -/
namespace Ev
open PySem PySem.Spec PyProof.Rows L2
section
variable {D : Wd} {k : Nat} {ex : Addr → Str → Prop} {X : Cx} {W : WX} {Γ : Scp}
theorem cSs_ok {p : Pm} {f : Stmt → Option (List IS)} (hf : ∀ st is, f st = some is → PS X st (tSt p X.K W (seqS is))) : ∀ {b : List Stmt} {is : List IS}, cSs f b = some is → PSs X b (tSt p X.K W (seqS is))
  | [], is, h => by unfold cSs at h; cases h; exact gss_nil
  | s :: r, is, h => by
    unfold cSs at h
    split at h
    · rename_i a b h1 h2
      cases h
      exact gss_cons (hf s a h1) (cSs_ok hf h2)
    · cases h
theorem ne_cons {α : Type} {l : List α} (h : (!l.isEmpty) = true) : ∃ b r, l = b :: r := by
  cases l with
  | nil => cases h
  | cons b r => exact ⟨b, r, rfl⟩
/-- name = value -/
theorem set_ok (hF : CallsOk D k) (hC : CloOk D k) (g : GoodS D k ex X W Γ) {n : Nat} {x : Str} {py pos : Pos} {v : Expr} {i : Nat} {e : IE} (h1 : cStore Γ x = some i) (h2 : cE n Γ v = some e) :
    PS X (.Assign [.Name x py] v pos) (tSt (pmX D k ex X) X.K W (seqS [if Γ.muts.contains i && isNew e then .setOwn i e else .set (.name i) e])) := by
  obtain ⟨s1, s2, s3⟩ := cStore_some h1
  have hN : X.N[i]? = some x := by rw [g.g.fit.N]; exact s1
  have hND : X.N.Nodup := by rw [g.g.fit.N]; exact g.g.fit.nd
  have hl : Loc X.env.scope x := by rw [g.g.fit.sc]; exact isLoc_loc s2
  have sn := cE_ok (ex := ex) hF hC n g.g v e h2
  have key : (isNew e = true → PS X (.Assign [.Name x py] v pos) (tAsg (tM (pmX D k ex X) X.K W e) (gName i))) ∧ (isNew e = false → PS X (.Assign [.Name x py] v pos) (tAsg (tE (pmX D k ex X) X.K W e) (gName i))) := by
    by_cases hv : isComp v = true
    · cases v with
      | ListComp elt gs scope cp =>
        obtain ⟨q, q2⟩ := comp_set (py := py) (spos := pos) hF hC g.g g.fn h2 hN hl
        exact ⟨fun _ => q, fun z => by rw [q2] at z; cases z⟩
      | SetComp => exfalso; cases n <;> (unfold cE at h2; cases h2)
      | DictComp => exfalso; cases n <;> (unfold cE at h2; cases h2)
      | _ => cases hv
    · have hv : isComp v = false := by simpa using hv
      exact ⟨fun z => ps_set hND hN hl (sn.new' z) (sw_plain hv _ _ _) (.inl (g.fn x)), fun _ => ps_set hND hN hl sn.val' (sw_plain hv _ _ _) (.inl (g.fn x))⟩
  cases hn : isNew e with
  | false =>
    rw [Bool.and_false]
    exact gs_setn (key.2 hn)
  | true =>
    rw [Bool.and_true]
    cases Γ.muts.contains i with
    | true => exact gs_own (key.1 hn)
    | false => exact gs_setM (key.1 hn)
theorem sws_plain {e t : Expr} {l : Nat} {env : Env} (h : isComp e = false) : swapsWithSole [t] e l env = pure false := sw_plain h (some t) l env
theorem parN_some {ts vs : List Expr} {ns : List Str} (h : parN Γ ts vs = some (some ns)) : vs.length = ts.length ∧ ns.length = ts.length ∧ ns = ts.filterMap fun
    | .Name id pos => if Γ.sc.names.lookup id == some .local && pos.line == (ts.head?.map (·.pos.line)).getD 0 then some id else none
    | _ => none := by
  unfold parN at h
  split at h
  · cases h
  · rename_i h1
    split at h
    · cases h
    · simp only at h
      split at h
      · cases h
      · rename_i h3
        split at h
        · cases h
        · split at h
          · cases h
          · cases h
            simp only [Bool.or_eq_true, not_or, bne_iff_ne, ne_eq, Decidable.not_not] at h1 h3
            exact ⟨h1.2, h3.1, rfl⟩
theorem ite_id {c : Bool} {x y : Str} (h : (if c = true then some x else none) = some y) : c = true ∧ x = y := by
  cases c with
  | true => exact ⟨rfl, Option.some.inj h⟩
  | false => cases h
theorem loc_of {x : Str} {b : Bool} (h : (Γ.sc.names.lookup x == some NameKind.local && b) = true) : Γ.sc.names.lookup x = some .local := by
  rw [Bool.and_eq_true] at h
  simpa using h.1
theorem par2 {x y : Str} {px py : Pos} {vs : List Expr} {ns : List Str} (h : parN Γ [.Name x px, .Name y py] vs = some (some ns)) : ns = [x, y] ∧ Γ.sc.names.lookup x = some .local ∧ Γ.sc.names.lookup y = some .local ∧ vs.length = 2 := by
  obtain ⟨h1, h2, h3⟩ := parN_some h
  simp only [List.filterMap_cons, List.filterMap_nil] at h3
  split at h3
  · split at h3
    · rw [h3] at h2; cases h2
    · rw [h3] at h2; cases h2
  · rename_i a ea
    split at h3
    · rw [h3] at h2; cases h2
    · rename_i b eb
      obtain ⟨c1, rfl⟩ := ite_id ea
      obtain ⟨c2, rfl⟩ := ite_id eb
      exact ⟨h3, loc_of c1, loc_of c2, h1⟩
theorem par3 {x y z : Str} {px py pz : Pos} {vs : List Expr} {ns : List Str} (h : parN Γ [.Name x px, .Name y py, .Name z pz] vs = some (some ns)) : ns = [x, y, z] ∧ Γ.sc.names.lookup x = some .local ∧ Γ.sc.names.lookup y = some .local ∧ Γ.sc.names.lookup z = some .local ∧ vs.length = 3 := by
  obtain ⟨h1, h2, h3⟩ := parN_some h
  simp only [List.filterMap_cons, List.filterMap_nil] at h3
  split at h3
  · split at h3
    · split at h3 <;> (rw [h3] at h2; cases h2)
    · split at h3 <;> (rw [h3] at h2; cases h2)
  · rename_i a ea
    split at h3
    · split at h3 <;> (rw [h3] at h2; cases h2)
    · rename_i b eb
      split at h3
      · rw [h3] at h2; cases h2
      · rename_i c ec
        obtain ⟨c1, rfl⟩ := ite_id ea
        obtain ⟨c2, rfl⟩ := ite_id eb
        obtain ⟨c3, rfl⟩ := ite_id ec
        exact ⟨h3, loc_of c1, loc_of c2, loc_of c3, h1⟩
theorem par_ok (hF : CallsOk D k) (hC : CloOk D k) (g : GoodS D k ex X W Γ) (hh : Γ.hot = false) {ts vs : List Expr} {k1 k2} {p1 p2 pos : Pos} {ns : List Str} {is : List Nat} {es : IEs} (h1 : parN Γ ts vs = some (some ns)) (h2 : parIs Γ ts = some is) (h3 : cEs (cE 40 Γ) vs = some es) :
    PS X (.Assign [.Tuple ts k1 p1] (.Tuple vs k2 p2) pos) (tSt (pmX D k ex X) X.K W (seqS [.par is es])) := by
  have F := g.g.fit
  have hND : X.N.Nodup := by rw [F.N]; exact F.nd
  have hsc := F.sc
  have hc := F.calm hh
  have ha := (cEs_val (p := pmX D k ex X) (W := W) (X := X) (fun e a q => ⟨(cE_ok (ex := ex) hF hC _ g.g e a q).val', cE_ns q⟩) h3).1
  have sw := sw_par F h1 (k1 := k1) (k2 := k2) (p1 := p1) (p2 := p2)
  unfold parIs at h2
  split at h2
  · rename_i x px y py
    split at h2
    · rename_i i j e1 e2
      split at h2
      · cases h2
      · rename_i hij
        cases h2
        obtain ⟨rfl, l1, l2, hl⟩ := par2 h1
        obtain ⟨s1, _, _⟩ := cStore_some e1
        obtain ⟨s2, _, _⟩ := cStore_some e2
        cases vs with
        | nil => cases hl
        | cons a vs =>
          cases vs with
          | nil => cases hl
          | cons b vs =>
            cases vs with
            | cons => cases hl
            | nil => exact gs_par2 (ta := tNil) ha (ps_par hc hND (by rw [F.N]; exact s1) (by rw [F.N]; exact s2) (by simpa using hij) (by rw [hsc]; exact l1) (by rw [hsc]; exact l2) ha sw (by rfl))
    · cases h2
  · rename_i x px y py z pz
    split at h2
    · rename_i i j l e1 e2 e3
      split at h2
      · cases h2
      · rename_i hij
        cases h2
        obtain ⟨rfl, l1, l2, l3, hl⟩ := par3 h1
        obtain ⟨s1, _, _⟩ := cStore_some e1
        obtain ⟨s2, _, _⟩ := cStore_some e2
        obtain ⟨s3, _, _⟩ := cStore_some e3
        simp only [Bool.or_eq_true, not_or, beq_iff_eq] at hij
        cases vs with
        | nil => cases hl
        | cons a vs =>
          cases vs with
          | nil => cases hl
          | cons b vs =>
            cases vs with
            | nil => cases hl
            | cons c vs =>
              cases vs with
              | cons => cases hl
              | nil => exact gs_par3 (ta := tNil) ha (ps_par3 hc hND (by rw [F.N]; exact s1) (by rw [F.N]; exact s2) (by rw [F.N]; exact s3) hij.1 hij.2.1 hij.2.2 (by rw [hsc]; exact l1) (by rw [hsc]; exact l2) (by rw [hsc]; exact l3) ha sw (by rfl))
    · cases h2
  · cases h2
/-- THE STATEMENTS -/
theorem cS_ok (hF : CallsOk D k) (hC : CloOk D k) : ∀ (n : Nat) {ex : Addr → Str → Prop} {X : Cx} {W : WX} {Γ : Scp} (g : GoodS D k ex X W Γ) (st : Stmt) (is : List IS), cS n Γ st = some is → PS X st (tSt (pmX D k ex X) X.K W (seqS is))
  | 0, ex, X, W, Γ, g, st, is, h => by unfold cS at h; cases h
  | n + 1, ex, X, W, Γ, g, st, is, h => by
    have ih : ∀ st is, cS n Γ st = some is → PS X st (tSt (pmX D k ex X) X.K W (seqS is)) := cS_ok hF hC n g
    have hE : ∀ {m e a}, cE m Γ e = some a → Snd (pmX D k ex X) W X e a := fun q => cE_ok hF hC _ g.g _ _ q
    have hE' : ∀ e a, cE 40 Γ e = some a → PE X e (tE (pmX D k ex X) X.K W a) ∧ ∀ x y, e ≠ .Starred x y := fun e a q => ⟨(hE q).val', cE_ns q⟩
    have F := g.g.fit
    have hND : X.N.Nodup := by rw [F.N]; exact F.nd
    have hsc := F.sc
    cases st with
    | Pass pos => unfold cS at h; cases h; exact gs_pass
    | Return v pos =>
      cases v with
      | none => unfold cS at h; cases h; exact gs_retN
      | some e =>
        by_cases ho : Γ.objs = true ∧ ∃ es lp, e = .List es lp
        · obtain ⟨ho, es, lp, rfl⟩ := ho
          unfold cS at h
          simp only [ho] at h
          obtain ⟨a, e1, rfl⟩ := Option.map_eq_some_iff.mp h
          exact gs_retObj (cEs_val hE' e1).1
        · have h' : (cE 40 Γ e).map (fun a => frzOf Γ (vE a) ++ [.ret a]) = some is := by
            cases hob : Γ.objs with
            | false =>
              unfold cS at h
              simp only [hob] at h
              exact h
            | true =>
              cases e <;> first
                | exact absurd ⟨hob, _, _, rfl⟩ ho
                | (unfold cS at h
                   simp only [hob] at h
                   exact h)
          obtain ⟨a, e1, rfl⟩ := Option.map_eq_some_iff.mp h'
          exact gs_pre (gs_ret (hE e1).val')
    | If t a b pos =>
      unfold cS at h
      simp only at h
      split at h
      · rename_i x y z h1 h2 h3
        cases h
        exact gs_pre (gs_if (hE h1).test (cSs_ok ih h2) (cSs_ok ih h3))
      · cases h
    | While t b r pos =>
      cases r with
      | cons => unfold cS at h; cases h
      | nil =>
        unfold cS at h
        simp only at h
        split at h
        · cases h
        · rename_i hh
          have hh : Γ.hot = false := by simpa using hh
          split at h
          · rename_i x y h1 h2
            split at h
            · cases h
              exact gs_while (g.own hh) (hE h1).test (cSs_ok ih h2)
            · cases h
          · cases h
    | For t i b r pos =>
      cases r with
      | cons => unfold cS at h; cases h
      | nil =>
        unfold cS at h
        simp only at h
        split at h
        · cases h
        · rename_i hh
          have hh : Γ.hot = false := by simpa using hh
          split at h
          · rename_i x s y h1 h2 h3
            cases h
            exact gs_pre (gs_for (g.own hh) (F.calm hh) (cSrc_ok F hE' h2) (tg_ok F (.inl (F.calm hh)) 10 t x h1 fun i _ y _ _ => .inl (g.fn y)) (cSs_ok ih h3) (fsi_plain (cSrc_set h2) _))
          · cases h
    | AugAssign t op v pos =>
      cases t with
      | Name x py =>
        unfold cS at h
        simp only at h
        split at h
        · cases h
        · rename_i hop
          split at h
          · rename_i i e h1 h2
            cases h
            obtain ⟨s1, s2, s3⟩ := cStore_some h1
            have hop' : op = .Add ∨ op = .Sub := by
              simp only [Bool.not_eq_true', Bool.not_eq_false, Bool.or_eq_true, decide_eq_true_eq] at hop
              exact hop
            exact gs_pre (gs_aug hop' hND (by rw [F.N]; exact s1) (by rw [hsc]; exact isLoc_loc s2) (hE h2).val' (.inl (g.fn x)))
          · cases h
      | _ => unfold cS at h; cases h
    | Raise e c pos =>
      unfold cS at h
      split at h <;> first
        | (rename_i q; cases q; done)
        | skip
      · rename_i q
        cases q
        split at h
        · rename_i hc
          cases h
          simp only [Bool.and_eq_true, Bool.not_eq_true'] at hc
          exact gs_raise g.g hc.2.2.1 (isGl_gl F hc.1) (okName_d hc.2.1).1 (by rw [← g.g.clss]; simpa using hc.2.2.2)
        · cases h
      · cases h
    | Try b hs o f pos =>
      unfold cS at h
      split at h <;> first
        | (rename_i q; cases q; done)
        | skip
      · rename_i q
        cases q
        split at h
        · rename_i hb y i z h1 h2 hc h4
          split at h
          · rename_i hz
            cases h
            simp only [Bool.and_eq_true, Bool.not_eq_true', decide_eq_true_eq] at hc
            rw [Bool.and_eq_true, decide_eq_true_eq] at hz
            obtain ⟨s1, s2, s3⟩ := cStore_some h2
            obtain ⟨b0, suite, hbs⟩ := ne_cons hz.1
            subst hbs
            exact gs_try g hc.2.2.1 s1 (by rw [hsc]; exact hz.2) (isGl_gl F hc.1) (okName_d hc.2.1).1 (by rw [← g.g.clss]; simpa using hc.2.2.2) (fun g' => cSs_ok (cS_ok hF hC n g') h1) fun g' => cSs_ok (cS_ok hF hC n g') h4
          · cases h
        · cases h
      · cases h
    | Expr e pos =>
      unfold cS at h
      split at h <;> first
        | (rename_i q; cases q; done)
        | skip
      · rename_i q
        cases q
        cases h
        exact gs_doc
      · rename_i q
        cases q
        split at h
        · rename_i hm
          rw [Bool.and_eq_true, decide_eq_true_eq] at hm
          obtain ⟨rfl, hl⟩ := hm
          split at h
          · rename_i i e1 h1 h2
            cases h
            obtain ⟨s1, s2, s3⟩ := cSlot_some h1
            obtain ⟨d1, d2, _⟩ := okName_d s3
            exact gs_pre (gs_append (by rw [F.N]; exact s1) (by rw [hsc]; exact s2) d1 d2 (hE h2).val' (cE_ns h2) hl)
          · cases h
        · cases h
      · rename_i q
        cases q
        split at h
        · cases h
        · rename_i hc
          obtain ⟨a, e1, rfl⟩ := Option.map_eq_some_iff.mp h
          exact gs_pre (gs_expr (hE e1).val' (sw_plain (by simpa using hc) _ _ _))
      · cases h
    | Assign ts v pos =>
      unfold cS at h
      split at h <;> first
        | (rename_i q; cases q; done)
        | skip
      · rename_i q
        cases q
        split at h
        · rename_i i e h1 h2
          cases h
          exact gs_pre (set_ok hF hC g h1 h2)
        · cases h
      · rename_i q
        cases q
        split at h
        · split at h
          · cases h
          · rename_i ns hp
            split at h
            · rename_i is es h1 h2
              split at h
              · cases h
              · rename_i hh
                cases h
                exact gs_pre (par_ok hF hC g (by simpa using hh) hp h1 h2)
            · cases h
          · rename_i hp
            split at h
            · cases h
            · rename_i hh
              have hh : Γ.hot = false := by simpa using hh
              split at h
              · rename_i t e h1 h2
                cases h
                exact gs_pre (gs_asg (hE h2).val' (tg_ok F (.inl (F.calm hh)) 10 _ t h1 fun i _ y _ _ => .inl (g.fn y)) (by rfl) (sw_par F hp) (by rfl))
              · cases h
        · rename_i hnt
          split at h
          · cases h
          · rename_i hh
            simp only [Bool.or_eq_true, not_or, Bool.not_eq_true] at hh
            split at h
            · rename_i t e h1 h2
              cases h
              exact gs_pre (gs_asg (hE h2).val' (tg_ok F (.inl (F.calm hh.2)) 10 _ t h1 fun i _ y _ _ => .inl (g.fn y)) (sws_plain hh.1) (sw_none fun a b c z => hnt a b c z) (by rfl))
            · cases h
      · rename_i q
        cases q
        split at h
        · cases h
        · rename_i hcm
          split at h
          · cases h
          · rename_i hns
            split at h
            · rename_i j k' e h1 h2 h3
              cases h
              obtain ⟨s1, s2, s3⟩ := cSlot_some h1
              obtain ⟨d1, d2, _⟩ := okName_d s3
              exact gs_pre (gs_setIdx (by rw [F.N]; exact s1) (by rw [hsc]; exact s2) d1 d2 (hE h3).val' (hE h2).val' (sws_plain (by simpa using hcm)) (by rfl) fun a b c d z => hns a b c d z)
            · cases h
      · cases h
    | _ => unfold cS at h; cases h
end
end Ev

set_option maxHeartbeats 8000000
/-! EvW: the defs, the lambdas: every call at every depth. -/
namespace Ev
open PySem PySem.Spec PyProof.Rows L2
abbrev noEx : Addr → Str → Prop := fun _ _ => False
/-- a def of the program, as it stands -/
structure DefAt (D : Wd) (fn : Str) (ir : FnIR) : Prop where
  ex : ∃ (args : List Arg) (body : List Stmt) (scope : Scope) (oc : Value) (od : Option Addr) (qual : Str) (kV doc pm cdv ct : Value) (an : Option Addr) (osl : Array (Option Value)) (obj : Bool),
    D.K.lookup (D.ad fn) = some ⟨oc, od, .func (PySem.W.fnOf fn qual ⟨[], args, none, [], [], none, []⟩ body scope .none kV doc pm an cdv ct), osl⟩ ∧ PySem.W.codeIn D.K cdv qual = true ∧ (args.map (·.arg)).Nodup ∧
    cFn D.defs D.clss obj (args.map (·.arg)) scope body = some ir ∧
    (body.any (lamS 30) = true → ∃ c P, cdv = .ref c ∧ LamX.TabB D.base D.mg c P ∧ (P, (qual ++ ".<locals>.") ++ "<lambda>") ∈ D.tbs ∧ ∀ q ∈ D.tbs, q.1 = P → q.2 = (qual ++ ".<locals>.") ++ "<lambda>")
structure Wd.Defs (D : Wd) : Prop where
  ok : D.Ok
  fns : ∀ fn ir, D.T.fn fn = some ir → DefAt D fn ir
section
variable {D : Wd} {k : Nat}
theorem fnScope_of {N ps : List Str} {sc : Scope} (h : fnScopeB N ps sc = true) : FnScope N ps sc := by
  unfold fnScopeB at h
  simp only [Bool.and_eq_true, decide_eq_true_eq, Bool.not_eq_true', List.all_eq_true] at h
  obtain ⟨h1, h2, h3, h4, h5, h6, h7⟩ := h
  exact ⟨h1, h2, h3, h4, h5, fun x hx => isLoc_loc (h6 x hx), h7⟩
theorem OutS.of_out {p p' : Pm} {K : PySem.W.Frag} {W : WX} {σ : L2.St} {os : List Addr} {H : Hp} {r : SRes} {Q : VK} (ht : p'.T = p.T) (ha : p'.ad = p.ad) (hf : p'.fld = p.fld) (hx : p'.xok = p.xok)
    (h : Out p K W σ os H r.out fun d _ os' H' => ∀ v, Rep K os' H' d v → Q v H') : OutS p' K (fun cls d _ H => W cls d σ H) (Post p.T os H) (NoO H) r { nx := fun _ H' => Q .non H', rt := Q } := by
  cases r with
  | nx ρ o' => exact fun os' H' σ' A => h os' H' A.e A.at_.obs .non .mkNon
  | ret d o' => exact fun os' H' v P O _ r => h os' H' P O v r
  | brk ρ o' => exact h.elim
  | cnt ρ o' => exact h.elim
  | err c xs ρ o' =>
    intro os' H' σ' cls d A x
    refine h os' H' cls d A.e A.at_.obs ?_
    unfold ExR at x ⊢
    rw [ha, hf, hx] at x
    exact x
  | stuck => exact h.elim
theorem Out.re {α : Type} {p p' : Pm} {K : PySem.W.Frag} {W : WX} {σ σ' : L2.St} {os : List Addr} {H : Hp} {r : Res α} {Q : α → Objs → List Addr → Hp → Prop} (ht : p'.T = p.T) (ha : p'.ad = p.ad) (hf : p'.fld = p.fld) (hx : p'.xok = p.xok)
    (h : Out p K W σ os H r Q) : Out p' K (fun cls d _ H => W cls d σ H) σ' os H r Q := by
  cases r with
  | ok d o' => exact fun os' H' P O => h os' H' (by rw [← ht]; exact P) O
  | err c xs o' =>
    intro os' H' cls d P O x
    refine h os' H' cls d (by rw [← ht]; exact P) O ?_
    unfold ExR at x ⊢
    rw [ha, hf, hx] at x
    exact x
  | stuck => exact h.elim
/-- a def runs -/
theorem def_run (hok : D.Ok) (hF : CallsOk D k) (hC : CloOk D k) {fn : Str} {ir : FnIR} (ef : D.T.fn fn = some ir) {args : List Arg} {body : List Stmt} {scope : Scope} {oc : Value} {od : Option Addr} {qual : Str} {kV doc pm cdv ct : Value} {an : Option Addr} {osl : Array (Option Value)} {obj : Bool}
    (lk : D.K.lookup (D.ad fn) = some ⟨oc, od, .func (PySem.W.fnOf fn qual ⟨[], args, none, [], [], none, []⟩ body scope .none kV doc pm an cdv ct), osl⟩) (hcd : PySem.W.codeIn D.K cdv qual = true) (hcf : cFn D.defs D.clss obj (args.map (·.arg)) scope body = some ir)
    (hlam : body.any (lamS 30) = true → ∃ c P, cdv = .ref c ∧ LamX.TabB D.base D.mg c P ∧ (P, (qual ++ ".<locals>.") ++ "<lambda>") ∈ D.tbs ∧ ∀ q ∈ D.tbs, q.1 = P → q.2 = (qual ++ ".<locals>.") ++ "<lambda>")
    {A : Around} {outer : List Env} {s : Shared} {H : Hp} {as : Args} {us : List Value} {vs : List V} {sl : List Slot} {os : List Addr} {o : Objs} {Q : VK} {W : WX} {σ : L2.St} (hr : Room (k + 1) A) (e0 : Env0 D.prog D.w D.K D.mg D.base A outer s H) (hv : Vals vs us)
    (hbi : us.length = (args.map (·.arg)).length → BindsTo s (PySem.W.fnOf fn qual ⟨[], args, none, [], [], none, []⟩ body scope .none kV doc pm an cdv ct) as ((args.map (·.arg)).zip us)) (hs : SlotRs D.K (D.sp (fixed s.heap H (frs outer))) os H sl vs) (O : OOk D.K os H o) (hT : LamX.Tabs D.tbs H)
    (h : Out (D.pm D.base (k + 1)) D.K W σ os H (callF D.T D.L (k + 1) fn sl o) (fun d _ os' H' => ∀ v, Rep D.K os' H' d v → Q v H')) :
    codeAny (model D.prog D.w) A (.call (.ref (D.ad fn)) as) (CR (L2N.CX D.prog D.w) outer D.prog D.w H s Q (WE W σ)) s := by
  unfold cFn at hcf
  simp only at hcf
  split at hcf
  · rename_i hsc
    obtain ⟨is, hbody, rfl⟩ := Option.map_eq_some_iff.mp hcf
    have S := fnScope_of hsc
    have hcall : callF D.T D.L (k + 1) fn sl o = if sl.length = (args.map (·.arg)).length then (exSs (calls D.T D.L k).1 (calls D.T D.L k).2 D.T.con D.T.isa D.L (seqS is) (frame sl (scpOf D.defs D.clss obj (args.map (·.arg)) scope body).N.length) o).out else .stuck := by
      show (match D.T.fn fn with | some ir => _ | none => _) = _
      rw [ef]
    rw [hcall] at h
    split at h
    · rename_i hlen
      have hvl : vs.length = (args.map (·.arg)).length := by rw [← hs.length, hlen]
      refine LamX.run_ofS (CX := L2N.CX D.prog D.w) (N := (scpOf D.defs D.clss obj (args.map (·.arg)) scope body).N) (us := us) (vs := vs) lk hcd S hr (env0_fixed e0) (hbi (by rw [← hv.length, hvl])) hv hvl fun hr' => ?_
      have g : GoodS D k noEx (cxOf (L2N.CX D.prog D.w) D.prog D.w D.K D.mg (fixed s.heap H (frs outer)) (scpOf D.defs D.clss obj (args.map (·.arg)) scope body).N qual scope (D.ad fn) cdv A outer s H (WE W σ)) (fun cls d _ H => WE W σ cls d H) (scpOf D.defs D.clss obj (args.map (·.arg)) scope body) := by
        have ov : Over D (fixed s.heap H (frs outer)) := over_fixed (base := D.base) ⟨fun _ _ e => e, Nat.le_refl _⟩ e0
        refine ⟨⟨⟨rfl, S.nd, S.kind, rfl, hr'.units, fun _ => rfl, fun z => (by cases z), hok.blt⟩, hok, rfl, rfl, rfl, rfl, ov, L2N.takes_of rfl rfl rfl rfl, fun _ => hr', rfl, rfl, fun hl => ?_, fun _ a c' c z => z.elim⟩, rfl, rfl, fun _ => rfl, fun _ => passes_of (K := fun e s'' => L2N.CX D.prog D.w outer H s (WE W σ) e s'') rfl, fun _ _ _ z => z⟩
        obtain ⟨c, P, rfl, TB, h1, h2⟩ := hlam hl
        exact ⟨c, P, ⟨TB.code.keeps ov.keep, TB.bm.keeps ov.keep, TB.gP⟩, rfl, h1, h2, fun _ => rfl⟩
      have hb := cSs_ok (cS_ok hF hC 30 g) hbody
      refine ⟨_, hb, Post D.tbs os H, NoO H, ent_post, frame sl (scpOf D.defs D.clss obj (args.map (·.arg)) scope body).N.length, os, o, ⟨⟨?_, O, hT⟩, .refl, fun i d a e _ => ?_⟩, OutS.of_out (p := D.pm D.base (k + 1)) rfl rfl rfl rfl h⟩
      · have hN : (args.map (·.arg)).length ≤ (scpOf D.defs D.clss obj (args.map (·.arg)) scope body).N.length := by
          have := congrArg List.length S.pre
          rw [List.length_take] at this
          omega
        have q := envOk_start hs ((scpOf D.defs D.clss obj (args.map (·.arg)) scope body).N.length - sl.length)
        unfold frame L2.start
        rw [hvl, ← hlen]
        exact q
      · unfold frame at e
        by_cases hi : i < sl.length
        · rw [List.getElem?_append_left hi] at e
          obtain ⟨v, _, z⟩ := paired_get hs e
          exact z.elim
        · rw [List.getElem?_append_right (by omega), List.getElem?_replicate] at e
          split at e <;> cases e
    · exact h.elim
  · cases hcf
theorem calls_succ (hD : D.Defs) (hF : CallsOk D k) (hC : CloOk D k) : CallsOk D (k + 1) := by
  intro fn ir ef A outer s H us vs sl os o Q W σ hr e0 hv hs O hT h
  obtain ⟨args, body, scope, oc, od, qual, kV, doc, pm, cdv, ct, an, osl, obj, lk, hcd, hnd, hcf, hlam⟩ := (hD.fns fn ir ef).ex
  exact def_run hD.ok hF hC ef lk hcd hcf hlam hr e0 hv (fun hl => .of_eq (bind_all rfl rfl hnd us hl)) hs O hT h
theorem clo_succ (hD : D.Defs) (hF : CallsOk D k) (hC : CloOk D k) : CloOk D (k + 1) := by
  intro base ov f np nl b ws c' q hclo A outer s H us vs ds cap os o Q W σ hr e0 hco hv hds hcap O hT h
  obtain ⟨args, body, scope, cl, pm, ctv, Γ, n, fr, ho, S, rfl, rfl, ⟨rfl, g1, g2, g3, g4, g5⟩, hcE, hfr, hall, hinj, hhas⟩ := hclo
  have hcall : callC D.T D.L (k + 1) args.length Γ.N.length b cap ds o = if ds.length = args.length then evE (calls D.T D.L k).1 (calls D.T D.L k).2 D.T.con D.T.isa b (frame (ds.map .val ++ cap.map .val) Γ.N.length) o else .stuck := rfl
  rw [hcall] at h
  split at h
  · rename_i hlen
    have hvl : vs.length = (args.map (·.arg)).length := by rw [hds.length, hlen, List.length_map]
    have lim : s.heap.NoLimit := e0.mod.nolimit.keeps fun b o e => (e0.bs b o e).1
    have hcell : ∀ {c : Addr} {v : Option Value}, base.IsCell c v → H c = none ∧ s.heap.IsCell c v := fun {c v} ⟨oc, h1, h2⟩ => ⟨(e0.bs c oc h1).2, oc, (e0.bs c oc h1).1, h2⟩
    have C : NdefX.CellsAt cl fr (ws.map some) s.heap H := by
      refine ⟨by rw [List.length_map]; exact hfr.symm, fun y c e => ?_, hinj, fun i y e => ?_⟩
      · obtain ⟨v, z⟩ := hall y c e
        exact ⟨(hcell z).1, v, (hcell z).2⟩
      · obtain ⟨c, e1, e2⟩ := hhas i y e
        refine ⟨c, e1, fun v ev => ?_⟩
        rw [List.getElem?_map] at ev
        cases ew : ws[i]? with
        | none => rw [ew] at ev; cases ev
        | some w =>
          rw [ew] at ev
          cases ev
          obtain ⟨u, r, z⟩ := e2 _ ew
          exact ⟨u, r, (hcell z).2⟩
    obtain ⟨⟨oc, cvs, t, hoc, hdc, hvc⟩, _, _⟩ := e0.hok c' _ hco
    have ndP : (args.map (·.arg)).Nodup := by
      have z := S.nd.sublist (List.take_sublist ((args.map (·.arg)).length + fr.length) Γ.N)
      rw [S.pre] at z
      exact (List.nodup_append.mp z).1
    refine PySem.W.kla_callFunE hr.depth (e0.bs f _ ho).1 rfl S.co S.gen rfl ⟨c', oc, cvs, t, rfl, hoc, hdc, hvc⟩ ?_
    rw [bind_all (args := args) rfl rfl ndP us (by rw [← hv.length, hvl])]
    refine wpAny_pure (wpAny_newFunctionEnv S.nocell (fun ⟨x, _⟩ hy => S.par x (List.of_mem_zip hy).1) (fun h₁ hns hsb => ⟨lim.fresh _ hsb, ?_⟩) S.kind)
    have kp : ∀ b o, s.heap.get? b = some o → h₁.get? b = some o := fun b o e => hsb.extBut b o (Nat.ne_of_lt (Heap.lt_size e)) (Heap.get?_push_of_some _ e)
    let F : NdefX.NF := ⟨"<lambda>", q, ⟨[], args, none, [], [], none, []⟩, [], Γ.sc, cl, c'⟩
    show codeAny _ _ (.expr body (NdefX.envF F f s.heap.objs.size)) _ _
    have hr' : Room k (A.deeper (NdefX.envF F f s.heap.objs.size)) := hr.deeper _
    have J : Inv (NdefX.ncx (L2N.CX D.prog D.w) D.prog D.w D.K D.mg base Γ.N F f A outer s H (WE W σ)) [] (NdefX.startF Γ.N vs (ws.map some)) H { s with heap := h₁, toks := s.toks + ((args.map (·.arg)).zip us).length } := NdefX.inv_startN S hr.hd e0 hvl hv C hns kp
    have g : Good D k noEx (NdefX.ncx (L2N.CX D.prog D.w) D.prog D.w D.K D.mg base Γ.N F f A outer s H (WE W σ)) (fun cls d _ H => WE W σ cls d H) Γ :=
      ⟨⟨rfl, S.nd, S.kind, rfl, hr'.units, fun _ => rfl, fun z => (by rw [g1] at z; cases z), hD.ok.blt⟩, hD.ok, rfl, rfl, rfl, rfl, ov, L2N.takes_of rfl rfl rfl rfl, fun _ => hr', g4, g5, fun z => (by rw [g2] at z; cases z), fun z => (by rw [g3] at z; cases z)⟩
    have pe := (cE_ok hF hC n g body b hcE).val'
    have hsl : SlotRs D.K (D.sp base) os H (ds.map .val ++ cap.map .val) (vs ++ ws) := by
      have go : ∀ {ds : List Ev.D} {vs : List V}, Reps D.K os H ds vs → SlotRs D.K (D.sp base) os H (ds.map .val) vs := fun {ds} => by
        induction ds with
        | nil => intro vs r; rw [r.inv0]; exact .nil
        | cons d ds ih =>
          intro vs r
          obtain ⟨x, r', rfl, r1, r2⟩ := r.inv
          exact .cons r1 (ih r2)
      have app : ∀ {a : List Slot} {x : List V} {a' : List Slot} {x' : List V}, SlotRs D.K (D.sp base) os H a x → SlotRs D.K (D.sp base) os H a' x' → SlotRs D.K (D.sp base) os H (a ++ a') (x ++ x') := fun {a x a' x'} r r' => by
        induction r with
        | nil => exact r'
        | cons r t ih => exact .cons r ih
      exact app (go hds) (go hcap)
    have hpe : tE (pmX D k noEx (NdefX.ncx (L2N.CX D.prog D.w) D.prog D.w D.K D.mg base Γ.N F f A outer s H (WE W σ))) D.K (fun cls d _ H => WE W σ cls d H) b (NdefX.startF Γ.N vs (ws.map some)) H Q := by
      refine ⟨frame (ds.map Slot.val ++ cap.map Slot.val) Γ.N.length, os, o, ⟨?_, O, hT⟩, Out.re (p := D.pm D.base (k + 1)) rfl rfl rfl rfl h⟩
      have q := envOk_start hsl (Γ.N.length - (ds.map Slot.val ++ cap.map Slot.val).length)
      have e1 : NdefX.startF Γ.N vs (ws.map some) = (vs ++ ws).map some ++ List.replicate (Γ.N.length - (ds.map Slot.val ++ cap.map Slot.val).length) none := by
        unfold NdefX.startF
        rw [List.map_append, List.append_assoc]
        congr 2
        rw [List.length_append, List.length_map, List.length_map, List.length_map, hds.length, hcap.length, Nat.sub_sub]
      rw [e1]
      exact q
    refine PySem.W.kla_codeExpr (wpAny_mono (pe.run [] _ _ H Q J hpe) (fun v s' hq => ?_) fun e s' hq => hq)
    obtain ⟨w', H', J', rv, q⟩ := hq
    exact ⟨w', H', J'.os, J'.bare, J'.base, J'.hok, rv, q⟩
  · exact h.elim
theorem calls_zero : CallsOk D 0 := by
  intro fn ir ef A outer s H us vs sl os o Q W σ hr e0 hv hs O hT h
  exact h.elim
theorem clo_zero : CloOk D 0 := by
  intro base ov f np nl b ws c' q hclo A outer s H us vs ds cap os o Q W σ hr e0 hco hv hds hcap O hT h
  exact h.elim
theorem all_ok (hD : D.Defs) : ∀ k, CallsOk D k ∧ CloOk D k
  | 0 => ⟨calls_zero, clo_zero⟩
  | k + 1 => ⟨calls_succ hD (all_ok hD k).1 (all_ok hD k).2, clo_succ hD (all_ok hD k).1 (all_ok hD k).2⟩
end
end Ev

set_option maxHeartbeats 8000000
/-! EvX: the end: a law holds, if the meaning says so. -/
namespace Ev
open PySem PySem.Spec PyProof.Rows L2

/-- what is fixed of a law -/
structure LawSet where
  DS : List He.DefD
  tf : List He.Defn
  clss : List Str
  cons : List (Str × D)
  T : Tab
  L : Nat
def excCB (K : PySem.W.Frag) (C : Addr) : Bool :=
  He.eqO (PySem.W.findIn K (.ref C) "__getattribute__") (some (some (.builtin "BaseException.__getattribute__"))) && (He.eqO (PySem.W.findIn K (.ref C) "__getattr__") (some none) && (PySem.W.hasDictIn K C &&
    (He.eqO (PySem.W.findIn K (.ref C) "__class__") (some (some (.builtin "object.__class__"))) && (He.eqO (PySem.W.specialIn K (.builtin "object.__class__") "__get__") (some (some (.builtin "getset_descriptor.__get__"))) &&
      (decide (PySem.W.takesIn K (.builtin "object.__class__") = some true) && decide (PySem.W.mroIn K C (.type "object") = some true))))))
def conB (K : PySem.W.Frag) : Str × D → Bool
  | (x, .int i) => (He.Fa.int x i).ok K
  | (x, .str z) => (He.Fa.str x z).ok K
  | _ => false
/-- what the kernel looks at in the heap at the head -/
def LawSet.ex (S : LawSet) (K : PySem.W.Frag) : Bool :=
  (K.all fun q => decide (q.2.cls ≠ .type "list")) && (decide ((S.tf.map fun p => (He.cT K p).2).Nodup) && ((builtins.all fun x => (He.Fa.free x).ok K) && ((S.clss.all fun c => (He.Fa.exc c).ok K && ((He.Fa.glo c).ok K && excCB K (He.ga K c))) &&
    ((S.clss.all fun c' => S.clss.all fun c => (He.Fa.exm c' c (S.T.isa c' c)).ok K && decide (PySem.W.kitOne K (.ref (He.ga K c')) (.ref (He.ga K c)) = some (S.T.isa c' c))) &&
      ((S.clss.all fun c' => decide (PySem.W.kitOne K (.ref (He.ga K c')) (.type "ValueError") = some (S.T.isa c' "ValueError"))) && ((S.cons.all (conB K)) && (S.DS.all fun d => (He.Fa.glo d.name).ok K)))))))
def LawSet.wd (S : LawSet) (prog : Program) (w : World) (K : PySem.W.Frag) (mg : Str → Option Value) (base : Heap) : Wd :=
  ⟨prog, w, K, mg, base, S.T, S.L, S.tf.map fun p => ((He.cT K p).2, (p.1 ++ ".<locals>.") ++ "<lambda>"), He.ga K, fun x => x, S.DS.map (·.name), S.clss⟩
structure LawSet.Ok (S : LawSet) : Prop where
  ds : ∀ d ∈ S.DS, d.at_ = (d.name, none) ∧ d.qual = d.name ∧ d.dfl = [] ∧ d.kwd = []
  fn : ∀ fn ir, S.T.fn fn = some ir → ∃ d ∈ S.DS, d.name = fn ∧ ∃ args obj, d.params = ⟨[], args, none, [], [], none, []⟩ ∧ (args.map (·.arg)).Nodup ∧ cFn (S.DS.map (·.name)) S.clss obj (args.map (·.arg)) d.scope d.body = some ir ∧ (d.body.any (lamS 30) = true → (fn, none) ∈ S.tf)
  con : ∀ x d, S.T.con x = some d → (x, d) ∈ S.cons
theorem nodup_inj {α β : Type} {f : α → β} : ∀ {l : List α}, (l.map f).Nodup → ∀ a ∈ l, ∀ b ∈ l, f a = f b → a = b
  | [], _, a, ha, _, _, _ => absurd ha (by simp)
  | x :: l, h, a, ha, b, hb, e => by
    rw [List.map_cons, List.nodup_cons] at h
    rcases List.mem_cons.mp ha with ea | ha
    · rcases List.mem_cons.mp hb with eb | hb
      · rw [ea, eb]
      · exact absurd (List.mem_map.mpr ⟨b, hb, by rw [← e, ea]⟩) h.1
    · rcases List.mem_cons.mp hb with eb | hb
      · exact absurd (List.mem_map.mpr ⟨a, ha, by rw [e, eb]⟩) h.1
      · exact nodup_inj h.2 a ha b hb e
section
variable {S : LawSet} {prog : Program} {w : World} {K : PySem.W.Frag} {mg : Str → Option Value} {base h : Heap} {fa : List He.Fa} {ts : List He.Tab}
/-- the world's facts -/
theorem LawSet.defs (hS : S.Ok) (hM : Mod K mg base) (X : K.In h) (G : h.Ns mainGlobals mg) (c : He.SaysX fa S.DS ts S.tf S.ex w h K) (TB : ∀ p ∈ S.tf.map (He.cT K), LamX.TabB base mg p.1 p.2) : (S.wd prog w K mg base).Defs := by
  have ex := c.more
  unfold LawSet.ex at ex
  simp only [Bool.and_eq_true, List.all_eq_true, decide_eq_true_eq] at ex
  obtain ⟨e1, e2, e3, e4, e5, e6, e7, e8⟩ := ex
  have df : ∀ d ∈ S.DS, ∃ fd, L2.FunD K d.name d.name d.params d.body d.scope [] [] (He.ga K d.name) fd := fun d hd => by
    obtain ⟨fd, F⟩ := He.SaysD.defs (He.SaysT.d c.t) hd
    obtain ⟨h1, h2, h3, h4⟩ := hS.ds d hd
    unfold He.DefD.dvs He.DefD.kws at F
    rw [h1, h2, h3, h4] at F
    exact ⟨fd, F⟩
  refine ⟨⟨hM, fun f hf => ?_, fun x d e => ?_, fun x hx => He.free_ok X G (e3 x hx), fun c' hc => ?_, fun c' hc' c'' hc'' => ?_, fun c' hc' => e6 c' hc'⟩, fun fn ir e => ?_⟩
  · obtain ⟨d, hd, rfl⟩ := List.mem_map.mp hf
    obtain ⟨fd, F⟩ := df d hd
    exact ⟨He.glo_ok X G (e8 d hd), F.kp⟩
  · have z := e7 (x, d) (hS.con x d e)
    unfold conB at z
    split at z
    · rename_i q
      cases q
      obtain ⟨t, e1⟩ := He.int_ok X G z
      exact ⟨.int _, _, e1, ⟨t, rfl⟩, fun _ _ => .mkInt _⟩
    · rename_i q
      cases q
      obtain ⟨t, e1⟩ := He.str_ok X G z
      exact ⟨.str _, _, e1, ⟨t, rfl⟩, fun _ _ => .mkStr _⟩
    · cases z
  · obtain ⟨x1, x2, x3⟩ := e4 c' hc
    obtain ⟨y1, y2, y3, y4⟩ := He.exc_ok x1
    unfold excCB at x3
    simp only [Bool.and_eq_true, decide_eq_true_eq] at x3
    obtain ⟨z1, z2, z3, z4, z5, z6, z7⟩ := x3
    exact ⟨_, _, _, _, PySem.F.excBase_ValueError, y1, He.glo_ok X G x2, y2, y3, y4, ⟨He.eqO_ok z1, He.eqO_ok z2, y3, z3, He.eqO_ok z4, He.eqO_ok z5, z6, z7⟩⟩
  · obtain ⟨z1, z2⟩ := e5 c' hc' c'' hc''
    exact ⟨He.exm_ok z1, z2⟩
  · obtain ⟨d, hd, rfl, args, obj, hp, hnd, hcf, hl⟩ := hS.fn fn ir e
    obtain ⟨fd, F⟩ := df d hd
    obtain ⟨oc, od, dV, kV, doc, pm, an, cdv, ct, osl, rfl, lk, hcd, hdv, _⟩ := F.ex
    have hdV : dV = .none := by
      rcases hdv with ⟨_, z⟩ | ⟨z, _⟩
      · exact z
      · exact absurd rfl z
    subst hdV
    rw [hp] at lk
    refine ⟨args, d.body, d.scope, oc, od, d.name, kV, doc, pm, cdv, ct, an, osl, obj, lk, hcd, hnd, hcf, fun hlam => ?_⟩
    have hm := hl hlam
    obtain ⟨cc, rfl⟩ := He.codeIn_ref hcd
    have ec : (He.cT K (d.name, none)).1 = cc := He.codeOf_eq lk rfl
    have tb := TB (He.cT K (d.name, none)) (List.mem_map.mpr ⟨_, hm, rfl⟩)
    rw [ec] at tb
    refine ⟨cc, (He.cT K (d.name, none)).2, rfl, tb, List.mem_map.mpr ⟨_, hm, rfl⟩, fun q hq e => ?_⟩
    obtain ⟨p, hp', rfl⟩ := List.mem_map.mp hq
    have z := nodup_inj e2 p hp' _ hm e
    rw [z]
/-! ### the script is locked -/
theorem env0_lock {A : Around} {outer : List Env} {s : Shared} {H : Hp} {a : Addr} {xs : List V} (e0 : Env0 prog w K mg base A outer s H) (h : H a = some (.lst xs)) : ∃ ob, Env0 prog w K mg base A outer s (upd H a (.frz ob (.lst xs))) := by
  obtain ⟨z, its, n, r, e⟩ := e0.hok a _ h
  have ne : ∀ b, H b = none → b ≠ a := fun b q z => by rw [z, h] at q; cases q
  refine ⟨{ cls := .type "list", data := .seq its.toArray n }, e0.frames, e0.mod, fun b o q => ?_, e0.bsz, e0.funs, fun b hb => ?_, fun b u hq => ?_, e0.bare⟩
  · obtain ⟨q1, q2⟩ := e0.bs b o q
    exact ⟨q1, by rw [upd_ne (ne b q2)]; exact q2⟩
  · have q := e0.frf b hb
    rw [upd_ne (ne b q)]
    exact q
  · have st : ∀ {c : Addr} {u : HO}, ObjOk prog w H s.heap c u → ObjOk prog w (upd H a (.frz { cls := .type "list", data := .seq its.toArray n } (.lst xs))) s.heap c u := fun {c u} x =>
      x.stay (fun _ _ _ q => q) (fun d q => by rw [upd_ne (ne_of q h (fun z => by cases z))]; exact q) fun d ys q => by rw [upd_ne (ne_of q h (fun z => by cases z))]; exact q
    by_cases hb : b = a
    · subst hb
      rw [upd_same] at hq
      cases hq
      exact ⟨e, st ⟨z, its, n, r, e⟩⟩
    · rw [upd_ne hb] at hq
      exact st (e0.hok b u hq)
theorem ce_unlock {outer : List Env} {s s' : Shared} {H : Hp} {a : Addr} {ob : Obj} {xs : List V} {Q : VK} {u : Value} (h : H a = some (.lst xs)) (hQ : ∀ v H' H2, Q v H' → Q v H2) (c : CE outer prog w (upd H a (.frz ob (.lst xs))) s Q u s') : CE outer prog w H s Q u s' := by
  obtain ⟨v, H', os, bare, un, hok, r, q⟩ := c
  have ne : ∀ b, H b = none → b ≠ a := fun b q z => by rw [z, h] at q; cases q
  have nu : ∀ {b : Addr} {o : HO}, H b = some o → o ≠ .lst xs → b ≠ a := fun {b o} q n z => by rw [z, h] at q; exact n (Option.some.inj q).symm
  have hfr := un.frzs a ob _ upd_same
  have up : ∀ b, b ≠ a → upd H a (.frz ob (.lst xs)) b = H b := fun b n => upd_ne n
  obtain ⟨ge, gok⟩ := hok a _ hfr
  refine ⟨v, upd H' a (.lst xs), os, bare, ⟨fun b o e n hb hx => un.keep b o e (by rw [up b (ne b n)]; exact n) hb hx, fun b o e n hb hx => un.slot b o e (by rw [up b (ne b n)]; exact n) hb hx, fun b o e n hx => ?_, un.there, fun b ys e => ?_, fun b o ys e => ?_, fun b ps e => ?_⟩, fun b u e => ?_, r, hQ v H' _ q⟩
  · rw [upd_ne (ne b n)]
    exact un.free b o e (by rw [up b (ne b n)]; exact n) hx
  · have nb := nu e (fun z => by cases z)
    rw [upd_ne nb]
    exact un.tups b ys (by rw [up b nb]; exact e)
  · have nb := nu e (fun z => by cases z)
    rw [upd_ne nb]
    exact un.frzs b o ys (by rw [up b nb]; exact e)
  · have nb := nu e (fun z => by cases z)
    obtain ⟨more, z⟩ := un.tbls b ps (by rw [up b nb]; exact e)
    exact ⟨more, by rw [upd_ne nb]; exact z⟩
  · have st : ∀ {c : Addr} {u : HO}, ObjOk prog w H' s'.heap c u → ObjOk prog w (upd H' a (.lst xs)) s'.heap c u := fun {c u} x =>
      x.stay (fun _ _ _ q => q) (fun d q => by rw [upd_ne (by rintro rfl; rw [hfr] at q; cases q)]; exact q) fun d ys q => by rw [upd_ne (by rintro rfl; rw [hfr] at q; cases q)]; exact q
    by_cases hb : b = a
    · subst hb
      rw [upd_same] at e
      cases e
      exact st gok
    · rw [upd_ne hb] at e
      exact st (hok b u e)
/-! ### the law -/
def scriptD (ns : List Int) : D := .lst (ns.map D.int)
/-- what is asked of the law's input -/
def GoodNs (n : Nat) (ns : List Int) : Prop := ns.length ≤ n ∧ ∀ z ∈ ns, Builtin.Int.intBits z ≤ 1048576
def LawSet.Says (S : LawSet) (k n : Nat) (nm : Str) : Prop := ∀ ns, GoodNs n ns → ∃ o', callF S.T S.L k nm [.val (scriptD ns)] [] = .ok (.bl true) o'
def spLaw (K : PySem.W.Frag) (n : Nat) (cs : List (Addr × Addr)) : Sp := fun vs H Q _ => ∃ (a : Addr) (ns : List Int), vs = [.ref a] ∧ SqL K H a (ns.map V.int) ∧ GoodNs n ns ∧ (∀ p ∈ cs, H p.2 = some (.tbl #[])) ∧ ∀ H', Q (.bl true) H'
theorem reps_ints {os : List Addr} {H : Hp} : ∀ ns : List Int, Reps K os H (ns.map D.int) (ns.map V.int)
  | [] => .nil
  | n :: ns => .cons (.mkInt n) (reps_ints ns)
theorem no_lst (c : He.SaysX fa S.DS ts S.tf S.ex w h K) {a : Addr} {o : Obj} (e : K.lookup a = some o) : o.cls ≠ .type "list" := by
  have ex := c.more
  unfold LawSet.ex at ex
  simp only [Bool.and_eq_true, List.all_eq_true, decide_eq_true_eq] at ex
  have m : ∀ {l : List (Addr × Obj)}, l.lookup a = some o → (a, o) ∈ l := fun {l} => by
    induction l with
    | nil => intro z; cases z
    | cons p l ih =>
      intro z
      rw [List.lookup_cons] at z
      split at z
      · rename_i q
        have q' := eq_of_beq q
        cases z
        obtain ⟨p1, p2⟩ := p
        cases q'
        exact List.mem_cons_self
      · exact List.mem_cons_of_mem _ (ih z)
  exact ex.1 (a, o) (m e)
theorem law_frz {k n : Nat} {nm : Str} (D : Wd) (hT : D.T = S.T) (hL : D.L = S.L) {ns : List Int} (hg : GoodNs n ns) (hsay : S.Says k n nm) {W : WX} {σ : L2.St} {os : List Addr} {H : Hp} {Q : VK} (hQ : ∀ H', Q (.bl true) H') :
    Out (D.pm D.base k) D.K W σ os H (callF D.T D.L k nm [.val (scriptD ns)] []) (fun d _ os' H' => ∀ v, Rep D.K os' H' d v → Q v H') := by
  obtain ⟨o', e⟩ := hsay ns hg
  rw [hT, hL, e]
  intro os' H' _ _ v r
  unfold Rep at r
  rw [r]
  exact hQ H'
theorem law_at {l : PySem.W.OpenLaw} {f : Addr} {k n : Nat} {nm x : Str} (hS : S.Ok) (X : K.In h) (G : h.Ns mainGlobals mg) (c : He.SaysX fa S.DS ts S.tf S.ex w h K) (hsay : S.Says (k + 1) n nm)
    (hx : ∃ d ∈ S.DS, d.name = nm ∧ ∃ a, d.params = ⟨[], [a], none, [], [], none, []⟩ ∧ a.arg = x ∧ (S.T.fn nm).isSome = true) (hm : mg nm = some (.ref f)) (hC : ∀ p ∈ S.tf.map (He.cT K), PySem.W.CodeHd h p.1 p.2) :
    LamX.LawAtS l w K (L2N.CX l.prog w) (k + 1) n x mg f h := by
  obtain ⟨d, hd, rfl, a, hp, rfl, hsome⟩ := hx
  obtain ⟨ir, hir⟩ := Option.isSome_iff_exists.mp hsome
  obtain ⟨fd, F⟩ := He.SaysD.defs (He.SaysT.d c.t) hd
  obtain ⟨h1, h2, h3, h4⟩ := hS.ds d hd
  unfold He.DefD.dvs He.DefD.kws at F
  rw [h1, h2, h3, h4] at F
  have ex := c.more
  unfold LawSet.ex at ex
  simp only [Bool.and_eq_true, List.all_eq_true, decide_eq_true_eq] at ex
  have hf : f = He.ga K d.name := by
    have e := He.glo_ok X G (ex.2.2.2.2.2.2.2 d hd)
    rw [hm] at e
    exact Value.ref.inj (Option.some.inj e)
  obtain ⟨oc, od, dV, kV, doc, pm, an, cdv, ct, osl, rfl, lk, hcd, hdv, _⟩ := F.ex
  have hdV : dV = .none := by
    rcases hdv with ⟨_, z⟩ | ⟨z, _⟩
    · exact z
    · exact absurd rfl z
  subst hdV
  refine ⟨PySem.W.fnOf d.name d.name d.params d.body d.scope .none kV doc pm an cdv ct, S.tf.map (He.cT K), spLaw K n (S.tf.map (He.cT K)), fun p hp => ?_, fun p hp => ?_, hC, fun s u => .of_eq (bind_all (args := [a]) hp rfl (by simp) [u] rfl), fun H b ns g1 g2 g3 g4 => ⟨b, ns, rfl, g4, ⟨g1, g2⟩, g3, fun _ => rfl⟩, fun base B1 B2 TB => ⟨fun vs H Q E q => ?_, fun A outer s H args us vs Q E hr e0 hb hv q => ?_⟩⟩
  · obtain ⟨q, hq, rfl⟩ := List.mem_map.mp hp
    exact c.empty q hq
  · obtain ⟨q, hq, rfl⟩ := List.mem_map.mp hp
    exact c.out q hq
  · obtain ⟨b, ns, rfl, _⟩ := q
    rfl
  · obtain ⟨b, ns, rfl, hsq, hg, htab, hQ⟩ := q
    have hD : (S.wd l.prog w K mg base).Defs := LawSet.defs hS e0.mod X G c TB
    obtain ⟨args', body', scope', oc', od', qual', kV', doc', pm', cdv', ct', an', osl', obj', lk', hcd', hnd', hcf', hlam'⟩ := (hD.fns d.name ir hir).ex
    have lk2 := lk'.symm.trans lk
    have ef : PySem.W.fnOf d.name qual' ⟨[], args', none, [], [], none, []⟩ body' scope' .none kV' doc' pm' an' cdv' ct' = PySem.W.fnOf d.name d.name d.params d.body d.scope .none kV doc pm an cdv ct := by
      have z := congrArg (fun o : Obj => o.data) (Option.some.inj lk2)
      exact Data.func.inj z
    have ea : args' = [a] := by
      have z : (⟨[], args', none, [], [], none, []⟩ : Arguments) = d.params := congrArg (fun q : FuncData => q.params) ef
      rw [hp] at z
      exact congrArg (fun q : Arguments => q.args) z
    have hb' : BindsTo s (PySem.W.fnOf d.name qual' ⟨[], args', none, [], [], none, []⟩ body' scope' .none kV' doc' pm' an' cdv' ct') args ((args'.map (·.arg)).zip us) := by
      rw [ef, ea]
      exact hb
    have hok := hD.ok
    have hall := all_ok hD k
    have tabs : ∀ {H' : Hp}, (∀ p ∈ S.tf.map (He.cT K), H' p.2 = some (.tbl #[])) → LamX.Tabs (S.wd l.prog w K mg base).tbs H' := fun {H'} ht p hp => by
      obtain ⟨q, hq, rfl⟩ := List.mem_map.mp hp
      exact LamX.TabS.nil (ht _ (List.mem_map.mpr ⟨q, hq, rfl⟩))
    have go : ∀ {H' : Hp}, Env0 l.prog w K mg base A outer s H' → SqF K H' b (ns.map V.int) → (∀ p ∈ S.tf.map (He.cT K), H' p.2 = some (.tbl #[])) → codeAny (model l.prog w) A (.call (.ref (He.ga K d.name)) args) (CR (L2N.CX l.prog w) outer l.prog w H' s (fun v _ => v = .bl true) (WE (fun _ _ _ _ => False) [])) s := fun {H'} e0' hsf ht => by
      refine def_run (D := S.wd l.prog w K mg base) hok hall.1 hall.2 hir lk' hcd' hcf' hlam' (o := []) (os := []) (sl := [.val (scriptD ns)]) hr e0' hv (fun _ => hb') ?_ ⟨rfl, fun i so z => by simp at z, List.nodup_nil⟩ (tabs ht) (law_frz _ rfl rfl hg hsay fun _ => rfl)
      refine .cons ?_ .nil
      show Rep K [] H' (scriptD ns) (.ref b)
      unfold scriptD Rep
      exact ⟨b, _, rfl, hsf, reps_ints ns⟩
    have fin : ∀ {H' : Hp} {r : Result} {s' : Shared}, CR (L2N.CX l.prog w) outer l.prog w H' s (fun v _ => v = .bl true) (WE (fun _ _ _ _ => False) []) r s' → ∃ u, r = .ok (.ret u) ∧ CE outer l.prog w H' s (fun v _ => v = .bl true) u s' := fun {H' r s'} z => by
      cases r with
      | error e =>
        obtain ⟨_, _, _, _, _, _, _, _, _, _, _, _, z⟩ := z
        exact z.elim
      | ok q =>
        cases q with
        | ret u => exact ⟨u, rfl, z⟩
        | _ => exact z.elim
    have toQ : ∀ {H' : Hp} {u : Value} {s' : Shared}, CE outer l.prog w H' s (fun v _ => v = .bl true) u s' → CE outer l.prog w H' s Q u s' := fun {H' u s'} ⟨v, H2, z1, z2, z3, z4, z5, z6⟩ => ⟨v, H2, z1, z2, z3, z4, z5, by rw [z6]; exact hQ H2⟩
    rw [hf]
    rcases hsq with (hl | ⟨ob, hl⟩) | ⟨o, its, m, z1, z2, _⟩
    · obtain ⟨ob, e1⟩ := env0_lock e0 hl
      refine codeAny_mono (go e1 ⟨ob, upd_same⟩ fun p hp => ?_) fun r s' z => ?_
      · rw [upd_ne (ne_of (htab p hp) hl fun z => by cases z)]
        exact htab p hp
      · obtain ⟨u, rfl, z⟩ := fin z
        exact toQ (ce_unlock hl (fun _ _ _ z => z) z)
    · refine codeAny_mono (go e0 ⟨ob, hl⟩ htab) fun r s' z => ?_
      obtain ⟨u, rfl, z⟩ := fin z
      exact toQ z
    · exact absurd z2 (no_lst c z1)
end
end Ev

set_option maxHeartbeats 2000000
/-! EvY: the law's parts, read off the program's top. -/
namespace Ev
open PySem PySem.Spec PyProof.Rows L2

def topDefs (b : List Stmt) : List Str := b.filterMap fun s => match s with
  | .FunctionDef n _ _ _ _ _ _ _ _ _ => some n
  | _ => none
def topClss (b : List Stmt) : List Str := b.filterMap fun s => match s with
  | .ClassDef n .. => some n
  | _ => none
def topCons (b : List Stmt) : List (Str × D) := b.filterMap fun s => match s with
  | .Assign [.Name x _] (.Constant (.int i) _ _) _ => some (x, .int i)
  | _ => none
def topDS (b : List Stmt) : List He.DefD := b.filterMap fun s => match s with
  | .FunctionDef n a bd _ _ _ sc _ _ _ => some ⟨(n, none), n, n, a, bd, sc, [], []⟩
  | _ => none
def topTf (b : List Stmt) : List He.Defn := b.filterMap fun s => match s with
  | .FunctionDef n _ bd _ _ _ _ _ _ _ => if bd.any (lamS 30) then some (n, none) else none
  | _ => none
def topIR (objs : List Str) (b : List Stmt) : List (Str × FnIR) := b.filterMap (cDef (topDefs b) (topClss b) objs)
/-- fns: the defs' code, as it is written out -/
def lawSet (b : List Stmt) (fns : List (Str × FnIR)) (isa : Str → Str → Bool) (L : Nat) : LawSet := ⟨topDS b, topTf b, topClss b, topCons b, ⟨fun x => fns.lookup x, fun x => (topCons b).lookup x, isa⟩, L⟩
theorem look_mem {α : Type} {x : Str} {v : α} : ∀ {l : List (Str × α)}, l.lookup x = some v → (x, v) ∈ l
  | [], h => by cases h
  | (y, u) :: l, h => by
    rw [List.lookup_cons] at h
    split at h
    · rename_i q
      cases h
      rw [eq_of_beq q]
      exact List.mem_cons_self
    · exact List.mem_cons_of_mem _ (look_mem h)
theorem topDefs_eq (b : List Stmt) : (topDS b).map (·.name) = topDefs b := by
  unfold topDS topDefs
  rw [List.map_filterMap]
  congr 1
  funext s
  cases s <;> rfl
theorem lawSet_ok {b : List Stmt} {objs : List Str} {isa : Str → Str → Bool} {L : Nat} {fns : List (Str × FnIR)} (hf : fns = topIR objs b) (nd : ((topDS b).all fun d => decide (d.params.args.map (·.arg)).Nodup) = true) : (lawSet b fns isa L).Ok where
  ds := fun d hd => by
    obtain ⟨s, _, e⟩ := List.mem_filterMap.mp (show d ∈ topDS b from hd)
    cases s <;> first
      | (cases e; done)
      | (cases e; exact ⟨rfl, rfl, rfl, rfl⟩)
  fn := fun fn ir e => by
    have e : fns.lookup fn = some ir := e
    rw [hf] at e
    obtain ⟨s, hs, e⟩ := List.mem_filterMap.mp (look_mem e)
    unfold cDef at e
    split at e
    · rename_i name a bd sc bind pos
      split at e
      · rename_i ps hps
        obtain ⟨ir', e1, e2⟩ := Option.map_eq_some_iff.mp e
        cases e2
        unfold lamParams at hps
        split at hps
        · rename_i args
          cases hps
          have hd : (⟨(fn, none), fn, fn, ⟨[], args, none, [], [], none, []⟩, bd, sc, [], []⟩ : He.DefD) ∈ topDS b := List.mem_filterMap.mpr ⟨_, hs, rfl⟩
          refine ⟨_, hd, rfl, args, objs.contains fn, rfl, ?_, ?_, fun hl => ?_⟩
          · have z := List.all_eq_true.mp nd _ hd
            exact of_decide_eq_true z
          · show cFn ((topDS b).map (·.name)) (topClss b) _ _ sc bd = some ir
            rw [topDefs_eq]
            exact e1
          · refine List.mem_filterMap.mpr ⟨_, hs, ?_⟩
            show (if bd.any (lamS 30) then some (fn, none) else none) = some (fn, none)
            rw [if_pos hl]
        · cases hps
      · cases e
    · cases e
  con := fun x d e => look_mem e
/-- the law's def, of one parameter -/
def LawSet.one (S : LawSet) (nm x : Str) : Bool := S.DS.any fun d => decide (d.name = nm) && (match d.params with
  | ⟨[], [a], none, [], [], none, []⟩ => decide (a.arg = x) && (S.T.fn nm).isSome
  | _ => false)
theorem LawSet.one_ok {S : LawSet} {nm x : Str} (h : S.one nm x = true) : ∃ d ∈ S.DS, d.name = nm ∧ ∃ a, d.params = ⟨[], [a], none, [], [], none, []⟩ ∧ a.arg = x ∧ (S.T.fn nm).isSome = true := by
  obtain ⟨d, hd, h⟩ := List.any_eq_true.mp h
  rw [Bool.and_eq_true] at h
  obtain ⟨h1, h2⟩ := h
  split at h2
  · rename_i a q
    rw [Bool.and_eq_true] at h2
    exact ⟨d, hd, of_decide_eq_true h1, a, q, of_decide_eq_true h2.1, h2.2⟩
  · cases h2
/-- the law's promise, where the head says its facts -/
theorem law_walk {l : PySem.W.OpenLaw} {S : LawSet} {k n m : Nat} {x nm : Str} {q : Program} {loose : List Str} {XP : (Str → Option Value) → Heap → Prop} {d : DefRec} {fa : List He.Fa} {ts : List He.Tab} (hS : S.Ok) (hn : l.most = some n) (hn2 : n ≤ sizeLine) (hdf : d.params.defaults = []) (hr : Room (k + 1) callerA)
    (hnm : d.name = nm) (hx : S.one nm x = true) (hsay : S.Says (k + 1) n nm) :
    PySem.W.WalkO q loose XP (He.hookX m fa S.DS ts S.tf S.ex).says l.row.toRowW d [] (fun f vs => PySem.call f vs) := by
  refine LamX.walk_ofTsE (l := l) (n := n) (k := k + 1) (x := x) (CX := fun w => L2N.CX l.prog w) hn hn2 hdf hr (fun w mg fa' h Y G hmg => ?_) fun w H s e s' z => ?_
  · obtain ⟨K, KX, c⟩ := Y
    rw [hnm] at hmg
    refine ⟨K, KX, law_at hS KX G c hsay (LawSet.one_ok hx) hmg fun p hp => ?_⟩
    obtain ⟨p', hp', rfl⟩ := List.mem_map.mp hp
    exact PySem.W.codeHd_of_K KX (c.hd p' hp')
  · obtain ⟨_, _, _, _, _, _, _, _, _, _, _, _, z⟩ := z
    exact z
end Ev

set_option maxHeartbeats 2000000
/-! K00a: the code of k00, as irout.lean printed it. -/
namespace K00
open PySem Ev
def s_is_integer_1 : IS := (.ret (.and (.isi (.bor 0) "int") (.not (.isi (.bor 0) "bool"))))
def i_is_integer : FnIR := ⟨1, 1, (.cons s_is_integer_1 .nil)⟩
def s_is_within_1 : IS := (.ret (.and (.call "is_integer" (.val (.var 0) .nil)) (.chain .LtE .LtE (.var 1) (.var 0) (.var 2))))
def i_is_within : FnIR := ⟨3, 3, (.cons s_is_within_1 .nil)⟩
def s_is_sized_1 : IS := (.ret (.and (.isi (.bor 0) "tuple") (.chain .LtE .LtE (.var 1) (.bif .len (.cons (.bor 0) .nil)) (.var 2))))
def i_is_sized : FnIR := ⟨3, 3, (.cons s_is_sized_1 .nil)⟩
def e_are_rising_1 : IE := (.comp (.cmp .Lt (.bor 1) (.bor 2)) (.tup [(.name 1), (.name 2)]) (.zip (.bor 0) (.slc (.bor 0) (.some (.int 1)) .none)) .none [1, 2])
def s_are_rising_2 : IS := (.ret (.bif .all (.cons e_are_rising_1 .nil)))
def i_are_rising : FnIR := ⟨1, 3, (.cons s_are_rising_2 .nil)⟩
def e_is_lot_1 : IE := (.comp (.call "is_within" (.val (.var 2) (.val (.int 0) (.val (.bin .Sub (.bor 1) (.int 1)) .nil)))) (.name 2) (.seq (.bor 0)) .none [2])
def s_is_lot_2 : IS := (.ret (.bl false))
def s_is_lot_3 : IS := (.ife (.or (.not (.isi (.bor 0) "tuple")) (.not (.bif .all (.cons e_is_lot_1 .nil)))) (.cons s_is_lot_2 .nil) .nil)
def s_is_lot_4 : IS := (.ret (.call "are_rising" (.val (.var 0) .nil)))
def i_is_lot : FnIR := ⟨2, 3, (.cons s_is_lot_3 (.cons s_is_lot_4 .nil))⟩
def s_is_leap_rule_1 : IS := (.ret (.bl false))
def s_is_leap_rule_2 : IS := (.ife (.or (.not (.call "is_sized" (.val (.var 1) (.val (.int 4) (.val (.int 4) .nil))))) (.or (.not (.call "is_within" (.val (.idx (.bor 1) (.int 0)) (.val (.int 1) (.val (.glob "MOST_CYCLE") .nil))))) (.not (.call "is_lot" (.val (.idx (.bor 1) (.int 1)) (.val (.idx (.bor 1) (.int 0)) .nil)))))) (.cons s_is_leap_rule_1 .nil) .nil)
def s_is_leap_rule_3 : IS := (.ret (.and (.call "is_within" (.val (.idx (.bor 1) (.int 2)) (.val (.int 0) (.val (.bin .Sub (.bor 0) (.int 1)) .nil)))) (.call "is_within" (.val (.idx (.bor 1) (.int 3)) (.val (.int 1) (.val (.glob "MOST_MORE") .nil))))))
def i_is_leap_rule : FnIR := ⟨2, 2, (.cons s_is_leap_rule_2 (.cons s_is_leap_rule_3 .nil))⟩
def s_is_calendar_1 : IS := (.ret (.bl false))
def s_is_calendar_2 : IS := (.ife (.or (.not (.call "is_sized" (.val (.var 0) (.val (.int 3) (.val (.int 3) .nil))))) (.or (.not (.call "is_within" (.val (.idx (.bor 0) (.int 0)) (.val (.int 1) (.val (.glob "MOST_WEEK") .nil))))) (.not (.call "is_sized" (.val (.idx (.bor 0) (.int 1)) (.val (.int 1) (.val (.glob "MOST_MONTHS") .nil))))))) (.cons s_is_calendar_1 .nil) .nil)
def e_is_calendar_3 : IE := (.comp (.call "is_within" (.val (.var 1) (.val (.int 1) (.val (.glob "MOST_MONTH") .nil)))) (.name 1) (.seq (.idx (.bor 0) (.int 1))) .none [1])
def s_is_calendar_4 : IS := (.ret (.bl false))
def s_is_calendar_5 : IS := (.ife (.not (.bif .all (.cons e_is_calendar_3 .nil))) (.cons s_is_calendar_4 .nil) .nil)
def s_is_calendar_6 : IS := (.ret (.call "is_leap_rule" (.val (.bif .len (.cons (.idx (.bor 0) (.int 1)) .nil)) (.val (.idx (.bor 0) (.int 2)) .nil))))
def i_is_calendar : FnIR := ⟨1, 2, (.cons s_is_calendar_2 (.cons s_is_calendar_5 (.cons s_is_calendar_6 .nil)))⟩
def s_check_calendar_1 : IS := (.raise "NoCalendar" .none)
def s_check_calendar_2 : IS := (.ife (.not (.call "is_calendar" (.val (.var 0) .nil))) (.cons s_check_calendar_1 .nil) .nil)
def i_check_calendar : FnIR := ⟨1, 1, (.cons s_check_calendar_2 .nil)⟩
def s_is_number_1 : IS := (.ret (.and (.call "is_integer" (.val (.var 0) .nil)) (.cmp .GtE (.bor 0) (.int 0))))
def i_is_number : FnIR := ⟨1, 1, (.cons s_is_number_1 .nil)⟩
def s_raw_is_leap_1 : IS := (.ret (.cmp .In (.bin .Mod (.bor 1) (.idx (.idx (.bor 0) (.int 2)) (.int 0))) (.idx (.idx (.bor 0) (.int 2)) (.int 1))))
def i_raw_is_leap : FnIR := ⟨2, 2, (.cons s_raw_is_leap_1 .nil)⟩
def s_raw_year_days_1 : IS := (.ret (.bin .Add (.bif .sum (.cons (.idx (.bor 0) (.int 1)) .nil)) (.ite (.call "raw_is_leap" (.val (.var 0) (.val (.var 1) .nil))) (.idx (.idx (.bor 0) (.int 2)) (.int 3)) (.int 0))))
def i_raw_year_days : FnIR := ⟨2, 2, (.cons s_raw_year_days_1 .nil)⟩
def s_raw_month_days_1 : IS := (.set (.name 3) (.ite (.and (.cmp .Eq (.bor 2) (.idx (.idx (.bor 0) (.int 2)) (.int 2))) (.call "raw_is_leap" (.val (.var 0) (.val (.var 1) .nil)))) (.idx (.idx (.bor 0) (.int 2)) (.int 3)) (.int 0)))
def s_raw_month_days_2 : IS := (.ret (.bin .Add (.idx (.idx (.bor 0) (.int 1)) (.var 2)) (.bor 3)))
def i_raw_month_days : FnIR := ⟨3, 4, (.cons s_raw_month_days_1 (.cons s_raw_month_days_2 .nil))⟩
def s_check_year_1 : IS := (.expr (.call "check_calendar" (.val (.var 0) .nil)))
def s_check_year_2 : IS := (.raise "NoYear" .none)
def s_check_year_3 : IS := (.ife (.not (.call "is_number" (.val (.var 1) .nil))) (.cons s_check_year_2 .nil) .nil)
def i_check_year : FnIR := ⟨2, 2, (.cons s_check_year_1 (.cons s_check_year_3 .nil))⟩
def s_check_month_1 : IS := (.expr (.call "check_year" (.val (.var 0) (.val (.var 1) .nil))))
def s_check_month_2 : IS := (.raise "NoMonth" .none)
def s_check_month_3 : IS := (.ife (.not (.call "is_within" (.val (.var 2) (.val (.int 0) (.val (.bin .Sub (.bif .len (.cons (.idx (.bor 0) (.int 1)) .nil)) (.int 1)) .nil))))) (.cons s_check_month_2 .nil) .nil)
def i_check_month : FnIR := ⟨3, 3, (.cons s_check_month_1 (.cons s_check_month_3 .nil))⟩
def s_is_leap_1 : IS := (.expr (.call "check_year" (.val (.var 0) (.val (.var 1) .nil))))
def s_is_leap_2 : IS := (.ret (.call "raw_is_leap" (.val (.var 0) (.val (.var 1) .nil))))
def i_is_leap : FnIR := ⟨2, 2, (.cons s_is_leap_1 (.cons s_is_leap_2 .nil))⟩
def s_year_days_1 : IS := (.expr (.call "check_year" (.val (.var 0) (.val (.var 1) .nil))))
def s_year_days_2 : IS := (.ret (.call "raw_year_days" (.val (.var 0) (.val (.var 1) .nil))))
def i_year_days : FnIR := ⟨2, 2, (.cons s_year_days_1 (.cons s_year_days_2 .nil))⟩
def s_month_days_1 : IS := (.expr (.call "check_month" (.val (.var 0) (.val (.var 1) (.val (.var 2) .nil)))))
def s_month_days_2 : IS := (.ret (.call "raw_month_days" (.val (.var 0) (.val (.var 1) (.val (.var 2) .nil)))))
def i_month_days : FnIR := ⟨3, 3, (.cons s_month_days_1 (.cons s_month_days_2 .nil))⟩
def s_raw_cycle_days_1 : IS := (.ret (.bin .Add (.bin .Mult (.idx (.idx (.bor 0) (.int 2)) (.int 0)) (.bif .sum (.cons (.idx (.bor 0) (.int 1)) .nil))) (.bin .Mult (.bif .len (.cons (.idx (.idx (.bor 0) (.int 2)) (.int 1)) .nil)) (.idx (.idx (.bor 0) (.int 2)) (.int 3)))))
def i_raw_cycle_days : FnIR := ⟨1, 1, (.cons s_raw_cycle_days_1 .nil)⟩
def s_cycle_days_1 : IS := (.expr (.call "check_calendar" (.val (.var 0) .nil)))
def s_cycle_days_2 : IS := (.ret (.call "raw_cycle_days" (.val (.var 0) .nil)))
def i_cycle_days : FnIR := ⟨1, 1, (.cons s_cycle_days_1 (.cons s_cycle_days_2 .nil))⟩
def s_raw_year_begins_1 : IS := (.set (.tup [(.name 2), (.name 3)]) (.tup (.cons (.bin .FloorDiv (.bor 1) (.idx (.idx (.bor 0) (.int 2)) (.int 0))) (.cons (.bin .Mod (.bor 1) (.idx (.idx (.bor 0) (.int 2)) (.int 0))) .nil))))
def e_raw_year_begins_2 : IE := (.comp (.var 5) (.name 5) (.seq (.idx (.idx (.bor 0) (.int 2)) (.int 1))) (.some (.cmp .Lt (.bor 5) (.bor 3))) [5])
def s_raw_year_begins_3 : IS := (.set (.name 4) (.bif .len (.cons e_raw_year_begins_2 .nil)))
def s_raw_year_begins_4 : IS := (.ret (.bin .Add (.bin .Add (.bin .Mult (.bor 2) (.call "raw_cycle_days" (.val (.var 0) .nil))) (.bin .Mult (.bor 3) (.bif .sum (.cons (.idx (.bor 0) (.int 1)) .nil)))) (.bin .Mult (.bor 4) (.idx (.idx (.bor 0) (.int 2)) (.int 3)))))
def i_raw_year_begins : FnIR := ⟨2, 6, (.cons s_raw_year_begins_1 (.cons s_raw_year_begins_3 (.cons s_raw_year_begins_4 .nil)))⟩
def e_raw_month_begins_1 : IE := (.comp (.call "raw_month_days" (.val (.var 0) (.val (.var 1) (.val (.var 3) .nil)))) (.name 3) (.range1 (.var 2)) .none [3])
def s_raw_month_begins_2 : IS := (.ret (.bin .Add (.call "raw_year_begins" (.val (.var 0) (.val (.var 1) .nil))) (.bif .sum (.cons e_raw_month_begins_1 .nil))))
def i_raw_month_begins : FnIR := ⟨3, 4, (.cons s_raw_month_begins_2 .nil)⟩
def s_year_begins_1 : IS := (.expr (.call "check_year" (.val (.var 0) (.val (.var 1) .nil))))
def s_year_begins_2 : IS := (.ret (.call "raw_year_begins" (.val (.var 0) (.val (.var 1) .nil))))
def i_year_begins : FnIR := ⟨2, 2, (.cons s_year_begins_1 (.cons s_year_begins_2 .nil))⟩
def s_month_begins_1 : IS := (.expr (.call "check_month" (.val (.var 0) (.val (.var 1) (.val (.var 2) .nil)))))
def s_month_begins_2 : IS := (.ret (.call "raw_month_begins" (.val (.var 0) (.val (.var 1) (.val (.var 2) .nil)))))
def i_month_begins : FnIR := ⟨3, 3, (.cons s_month_begins_1 (.cons s_month_begins_2 .nil))⟩
def e__law_hand_1 : IE := (.comp (.bin .Mod (.bif .int (.cons (.bif .abs (.cons (.bif .int (.cons (.bor 2) .nil)) .nil)) .nil)) (.bin .Pow (.int 10) (.int 36))) (.name 2) (.seq (.slc (.bor 0) .none (.some (.int 60)))) .none [2])
def s__law_hand_2 : IS := (.set (.name 1) e__law_hand_1)
def s__law_hand_3 : IS := (.retObj (.cons (.var 1) (.cons (.int 0) (.cons (.int 0) (.cons (.bin .Add (.int 29) (.bin .Mult (.int 3) (.bif .len (.cons (.bor 1) .nil)))) (.cons (.int 0) .nil))))))
def i__law_hand : FnIR := ⟨1, 3, (.cons s__law_hand_2 (.cons s__law_hand_3 .nil))⟩
def s__law_draw_1 : IS := (.set (.name 2) (.idx (.idx (.bor 0) (.int 0)) (.idx (.bor 0) (.int 1))))
def s__law_draw_2 : IS := (.setIdx (.bor 0) (.int 1) (.bin .Add (.idx (.bor 0) (.int 1)) (.int 1)))
def s__law_draw_3 : IS := (.setIdx (.bor 0) (.int 3) (.bin .Mod (.bif .int (.cons (.bin .Add (.bin .Add (.bif .int (.cons (.bin .Mult (.idx (.bor 0) (.int 3)) (.int 48271)) .nil)) (.bor 2)) (.int 17)) .nil)) (.int 2147483647)))
def s__law_draw_4 : IS := (.setIdx (.bor 0) (.int 2) (.ite (.cmp .GtE (.bor 2) (.bin .Pow (.int 10) (.int 18))) (.var 2) (.int 0)))
def s__law_draw_5 : IS := (.ife (.and (.cmp .Eq (.idx (.bor 0) (.int 2)) (.int 0)) (.cmp .Lt (.idx (.bor 0) (.int 1)) (.bif .len (.cons (.idx (.bor 0) (.int 0)) .nil)))) (.cons s__law_draw_1 (.cons s__law_draw_2 (.cons s__law_draw_3 (.cons s__law_draw_4 .nil)))) .nil)
def s__law_draw_6 : IS := (.set (.name 3) (.bin .Mod (.bif .int (.cons (.idx (.bor 0) (.int 2)) .nil)) (.bor 1)))
def s__law_draw_7 : IS := (.setIdx (.bor 0) (.int 2) (.bin .FloorDiv (.idx (.bor 0) (.int 2)) (.bif .max2 (.cons (.int 2) (.cons (.bor 1) .nil)))))
def s__law_draw_8 : IS := (.ret (.var 3))
def s__law_draw_9 : IS := (.ife (.cmp .Gt (.idx (.bor 0) (.int 2)) (.int 0)) (.cons s__law_draw_6 (.cons s__law_draw_7 (.cons s__law_draw_8 .nil))) .nil)
def s__law_draw_10 : IS := (.setIdx (.bor 0) (.int 4) (.bin .Add (.idx (.bor 0) (.int 4)) (.int 1)))
def s__law_draw_11 : IS := (.set (.name 4) (.bin .Mod (.bif .int (.cons (.bin .Mult (.bif .int (.cons (.bin .Add (.idx (.bor 0) (.int 3)) (.bin .Mult (.int 7919) (.idx (.bor 0) (.int 4)))) .nil)) (.int 48271)) .nil)) (.int 2147483647)))
def s__law_draw_12 : IS := (.set (.name 4) (.bin .Mod (.bif .int (.cons (.bin .Mult (.bor 4) (.bin .Add (.bin .FloorDiv (.bor 4) (.int 1009)) (.int 69621))) .nil)) (.int 2147483647)))
def s__law_draw_13 : IS := (.set (.name 4) (.bin .Mod (.bif .int (.cons (.bin .Mult (.bor 4) (.bin .Add (.bin .FloorDiv (.bor 4) (.int 2003)) (.int 40692))) .nil)) (.int 2147483399)))
def s__law_draw_14 : IS := (.ret (.bin .Mod (.bif .int (.cons (.bin .FloorDiv (.bor 4) (.int 16)) .nil)) (.bor 1)))
def i__law_draw : FnIR := ⟨2, 5, (.cons s__law_draw_5 (.cons s__law_draw_9 (.cons s__law_draw_10 (.cons s__law_draw_11 (.cons s__law_draw_12 (.cons s__law_draw_13 (.cons s__law_draw_14 .nil)))))))⟩
def s__law_any_1 : IS := (.ret (.idx (.bor 1) (.call "_law_draw" (.val (.var 0) (.val (.bif .len (.cons (.bor 1) .nil)) .nil)))))
def i__law_any : FnIR := ⟨2, 2, (.cons s__law_any_1 .nil)⟩
def e__law_lot_1 : IE := (.comp (.var 2) (.name 2) (.range1 (.var 1)) (.some (.cmp .Eq (.call "_law_draw" (.val (.var 0) (.val (.int 2) .nil))) (.int 0))) [2])
def s__law_lot_2 : IS := (.ret (.bif .tuple (.cons e__law_lot_1 .nil)))
def i__law_lot : FnIR := ⟨2, 3, (.cons s__law_lot_2 .nil)⟩
def s__law_word_1 : IS := (.expr (.callv 0 .nil))
def b__law_word_2 : ISs := (.cons s__law_word_1 .nil)
def s__law_word_3 : IS := (.set (.name 2) (.lst (.cons (.tup (.cons (.str "NoCalendar") (.cons (.isx 1 "NoCalendar") .nil))) (.cons (.tup (.cons (.str "NoMonth") (.cons (.isx 1 "NoMonth") .nil))) (.cons (.tup (.cons (.str "NoYear") (.cons (.isx 1 "NoYear") .nil))) .nil)))))
def e__law_word_4 : IE := (.comp (.var 4) (.tup [(.name 4), (.name 5)]) (.seq (.bor 2)) (.some (.var 5)) [4, 5])
def s__law_word_5 : IS := (.set (.name 3) e__law_word_4)
def s__law_word_6 : IS := (.ret (.ite (.and (.cmp .Eq (.bif .len (.cons (.bor 3) .nil)) (.int 1)) (.isx 1 "ValueError")) (.idx (.bor 3) (.int 0)) (.str "other")))
def b__law_word_7 : ISs := (.cons s__law_word_3 (.cons s__law_word_5 (.cons s__law_word_6 .nil)))
def s__law_word_8 : IS := (.tryAs b__law_word_2 "DateError" 1 b__law_word_7)
def s__law_word_9 : IS := (.ret (.str "told"))
def i__law_word : FnIR := ⟨1, 6, (.cons s__law_word_8 (.cons s__law_word_9 .nil))⟩
def e__law_made_1 : IE := (.comp (.bin .Add (.int 1) (.call "_law_draw" (.val (.var 0) (.val (.call "_law_any" (.val (.var 0) (.val (.lst (.cons (.int 4) (.cons (.int 31) .nil))) .nil))) .nil)))) (.name 4) (.range1 (.bin .Add (.int 1) (.call "_law_draw" (.val (.var 0) (.val (.int 4) .nil))))) .none [4])
def s__law_made_2 : IS := (.set (.name 1) (.bif .tuple (.cons e__law_made_1 .nil)))
def s__law_made_3 : IS := (.set (.name 2) (.bin .Add (.int 1) (.call "_law_draw" (.val (.var 0) (.val (.call "_law_any" (.val (.var 0) (.val (.lst (.cons (.int 4) (.cons (.int 28) .nil))) .nil))) .nil)))))
def s__law_made_4 : IS := (.set (.name 3) (.tup (.cons (.var 2) (.cons (.call "_law_lot" (.val (.var 0) (.val (.var 2) .nil))) (.cons (.call "_law_draw" (.val (.var 0) (.val (.bif .len (.cons (.bor 1) .nil)) .nil))) (.cons (.bin .Add (.int 1) (.call "_law_draw" (.val (.var 0) (.val (.int 3) .nil)))) .nil))))))
def s__law_made_5 : IS := (.ret (.tup (.cons (.bin .Add (.int 1) (.call "_law_draw" (.val (.var 0) (.val (.int 10) .nil)))) (.cons (.var 1) (.cons (.var 3) .nil)))))
def i__law_made : FnIR := ⟨1, 5, (.cons s__law_made_2 (.cons s__law_made_3 (.cons s__law_made_4 (.cons s__law_made_5 .nil))))⟩
def s__law_bent_1 : IS := (.set (.tup [(.name 2), (.name 3), (.name 4)]) (.var 1))
def s__law_bent_2 : IS := (.set (.tup [(.name 5), (.name 6), (.name 7), (.name 8)]) (.var 4))
def s__law_bent_3 : IS := (.set (.name 9) (.lst (.cons (.tup (.cons (.int 0) (.cons (.tup .nil) (.cons (.var 7) (.cons (.var 8) .nil))))) (.cons (.tup (.cons (.int 29) (.cons (.var 6) (.cons (.var 7) (.cons (.var 8) .nil))))) (.cons (.tup (.cons (.var 5) (.cons (.tup (.cons (.var 5) .nil)) (.cons (.var 7) (.cons (.var 8) .nil))))) (.cons (.tup (.cons (.var 5) (.cons .non (.cons (.var 7) (.cons (.var 8) .nil))))) .nil))))))
def s__law_bent_4 : IS := (.set (.name 9) (.bin .Add (.bor 9) (.lst (.cons (.tup (.cons (.var 5) (.cons (.var 6) (.cons (.bif .len (.cons (.bor 3) .nil)) (.cons (.var 8) .nil))))) (.cons (.tup (.cons (.var 5) (.cons (.var 6) (.cons (.neg (.int 1)) (.cons (.var 8) .nil))))) (.cons (.tup (.cons (.var 5) (.cons (.var 6) (.cons (.var 7) (.cons (.int 4) .nil))))) (.cons (.slc (.bor 4) .none (.some (.int 3))) .nil)))))))
def s__law_bent_5 : IS := (.set (.name 9) (.bin .Add (.bor 9) (.lst (.cons (.tup (.cons (.var 5) (.cons (.var 6) (.cons (.var 7) (.cons (.int 0) .nil))))) (.cons (.tup (.cons (.var 5) (.cons (.bif .list (.cons (.bor 6) .nil)) (.cons (.var 7) (.cons (.var 8) .nil))))) (.cons (.tup (.cons (.var 5) (.cons (.tup (.cons (.int 0) (.cons (.int 0) .nil))) (.cons (.var 7) (.cons (.var 8) .nil))))) (.cons .non .nil)))))))
def e__law_bent_6 : IE := (.comp (.tup (.cons (.var 2) (.cons (.var 3) (.cons (.var 11) .nil)))) (.name 11) (.seq (.bor 9)) .none [11])
def s__law_bent_7 : IS := (.set (.name 10) e__law_bent_6)
def s__law_bent_8 : IS := (.set (.name 10) (.bin .Add (.bor 10) (.lst (.cons (.tup (.cons (.int 0) (.cons (.var 3) (.cons (.var 4) .nil)))) (.cons (.tup (.cons (.int 11) (.cons (.var 3) (.cons (.var 4) .nil)))) (.cons (.tup (.cons (.bl true) (.cons (.var 3) (.cons (.var 4) .nil)))) (.cons (.tup (.cons (.str "?") (.cons (.var 3) (.cons (.var 4) .nil)))) (.cons (.tup (.cons (.var 2) (.cons (.tup .nil) (.cons (.var 4) .nil)))) .nil))))))))
def s__law_bent_9 : IS := (.set (.name 10) (.bin .Add (.bor 10) (.lst (.cons (.tup (.cons (.var 2) (.cons (.bin .Add (.tup (.cons (.int 0) .nil)) (.bor 3)) (.cons (.var 4) .nil)))) (.cons (.tup (.cons (.var 2) (.cons (.bin .Mult (.tup (.cons (.int 32) .nil)) (.bif .len (.cons (.bor 3) .nil))) (.cons (.var 4) .nil)))) (.cons (.tup (.cons (.var 2) (.cons (.bif .list (.cons (.bor 3) .nil)) (.cons (.var 4) .nil)))) (.cons .non .nil)))))))
def s__law_bent_10 : IS := (.set (.name 10) (.bin .Add (.bor 10) (.lst (.cons (.tup (.cons (.var 2) (.cons (.bin .Mult (.tup (.cons (.int 5) .nil)) (.int 13)) (.cons (.var 4) .nil)))) (.cons (.tup (.cons (.var 2) (.cons (.var 3) .nil))) (.cons (.bif .list (.cons (.bor 1) .nil)) (.cons (.str "?") (.cons .dnew (.cons (.bin .Add (.bor 1) (.tup (.cons (.int 1) .nil))) .nil)))))))))
def s__law_bent_11 : IS := (.ret (.call "_law_any" (.val (.var 0) (.val (.var 10) .nil))))
def i__law_bent : FnIR := ⟨2, 12, (.cons s__law_bent_1 (.cons s__law_bent_2 (.cons s__law_bent_3 (.cons s__law_bent_4 (.cons s__law_bent_5 (.cons s__law_bent_7 (.cons s__law_bent_8 (.cons s__law_bent_9 (.cons s__law_bent_10 (.cons s__law_bent_11 .nil))))))))))⟩
def s__law_length_1 : IS := (.set (.tup [(.name 3), (.name 4), (.name 5), (.name 6)]) (.idx (.bor 0) (.int 2)))
def s__law_length_2 : IS := (.ret (.bin .Add (.idx (.idx (.bor 0) (.int 1)) (.var 2)) (.ite (.and (.cmp .Eq (.bor 2) (.bor 5)) (.cmp .In (.bin .Mod (.bif .int (.cons (.bor 1) .nil)) (.bor 3)) (.bor 4))) (.var 6) (.int 0))))
def i__law_length : FnIR := ⟨3, 7, (.cons s__law_length_1 (.cons s__law_length_2 .nil))⟩
def s__law_year_right_1 : IS := (.set (.name 2) (.bif .len (.cons (.idx (.bor 0) (.int 1)) .nil)))
def e__law_year_right_2 : IE := (.comp (.call "_law_length" (.val (.var 0) (.val (.var 1) (.val (.var 7) .nil)))) (.name 7) (.range1 (.var 2)) .none [7])
def s__law_year_right_3 : IS := (.set (.name 3) e__law_year_right_2)
def e__law_year_right_4 : IE := (.comp (.call "month_days" (.val (.var 0) (.val (.var 1) (.val (.var 7) .nil)))) (.name 7) (.range1 (.var 2)) .none [7])
def s__law_year_right_5 : IS := (.ret (.bl false))
def s__law_year_right_6 : IS := (.ife (.cmp .NotEq e__law_year_right_4 (.bor 3)) (.cons s__law_year_right_5 .nil) .nil)
def s__law_year_right_7 : IS := (.set (.name 4) (.bin .Mod (.bif .int (.cons (.bor 1) .nil)) (.idx (.idx (.bor 0) (.int 2)) (.int 0))))
def s__law_year_right_8 : IS := (.ret (.bl false))
def s__law_year_right_9 : IS := (.ife (.cmp .NotEq (.call "is_leap" (.val (.var 0) (.val (.var 1) .nil))) (.cmp .In (.bor 4) (.idx (.idx (.bor 0) (.int 2)) (.int 1)))) (.cons s__law_year_right_8 .nil) .nil)
def e__law_year_right_10 : IE := (.comp (.call "month_begins" (.val (.var 0) (.val (.var 1) (.val (.var 7) .nil)))) (.name 7) (.range1 (.var 2)) .none [7])
def s__law_year_right_11 : IS := (.set (.name 5) (.bin .Add e__law_year_right_10 (.lst (.cons (.call "year_begins" (.val (.var 0) (.val (.bin .Add (.bor 1) (.int 1)) .nil))) .nil))))
def e__law_year_right_12 : IE := (.comp (.bin .Sub (.bor 9) (.bor 8)) (.tup [(.name 8), (.name 9)]) (.zip (.bor 5) (.slc (.bor 5) (.some (.int 1)) .none)) .none [8, 9])
def s__law_year_right_13 : IS := (.set (.name 6) e__law_year_right_12)
def s__law_year_right_14 : IS := (.ret (.and (.cmp .Eq (.call "year_days" (.val (.var 0) (.val (.var 1) .nil))) (.bif .sum (.cons (.bor 3) .nil))) (.and (.cmp .Eq (.bor 6) (.bor 3)) (.cmp .Eq (.idx (.bor 5) (.int 0)) (.call "year_begins" (.val (.var 0) (.val (.var 1) .nil)))))))
def i__law_year_right : FnIR := ⟨2, 10, (.cons s__law_year_right_1 (.cons s__law_year_right_3 (.cons s__law_year_right_6 (.cons s__law_year_right_7 (.cons s__law_year_right_9 (.cons s__law_year_right_11 (.cons s__law_year_right_13 (.cons s__law_year_right_14 .nil))))))))⟩
def s__law_cycle_right_1 : IS := (.set (.name 1) (.idx (.idx (.bor 0) (.int 2)) (.int 0)))
def s__law_cycle_right_2 : IS := (.set (.name 2) (.int 0))
def e__law_cycle_right_3 : IE := (.comp (.call "_law_length" (.val (.var 0) (.val (.var 3) (.val (.var 4) .nil)))) (.name 4) (.range1 (.bif .len (.cons (.idx (.bor 0) (.int 1)) .nil))) .none [4])
def s__law_cycle_right_4 : IS := (.set (.name 2) (.bin .Add (.bor 2) (.bif .sum (.cons e__law_cycle_right_3 .nil))))
def b__law_cycle_right_5 : ISs := (.cons s__law_cycle_right_4 .nil)
def s__law_cycle_right_6 : IS := (.for (.name 3) (.range1 (.var 1)) b__law_cycle_right_5)
def s__law_cycle_right_7 : IS := (.ret (.and (.cmp .Eq (.call "cycle_days" (.val (.var 0) .nil)) (.bor 2)) (.and (.cmp .Eq (.call "year_begins" (.val (.var 0) (.val (.var 1) .nil))) (.bor 2)) (.cmp .Eq (.call "year_begins" (.val (.var 0) (.val (.int 0) .nil))) (.int 0)))))
def i__law_cycle_right : FnIR := ⟨1, 5, (.cons s__law_cycle_right_1 (.cons s__law_cycle_right_2 (.cons s__law_cycle_right_6 (.cons s__law_cycle_right_7 .nil))))⟩
def s__law_first_refused_1 : IS := (.set (.tup [(.name 5), (.name 4)]) (.tup (.cons (.call "_law_any" (.val (.var 0) (.val (.lst (.cons (.neg (.int 1)) (.cons .non (.cons (.str "?") (.cons (.bl true) (.cons (.tup (.cons (.int 0) .nil)) (.cons .dnew .nil))))))) .nil))) (.cons (.call "_law_any" (.val (.var 0) (.val (.lst (.cons (.neg (.int 1)) (.cons (.int 99) (.cons .non (.cons (.str "?") (.cons (.bl true) (.cons (.tup (.cons (.int 0) .nil)) .nil))))))) .nil))) .nil))))
def s__law_first_refused_2 : IS := (.setOwn 3 (.lst (.cons (.call "_law_word" (.lam 0 3 (.call "month_days" (.val (.var 0) (.val (.var 2) (.val (.var 1) .nil)))) [2, 4, 5] .nil)) .nil)))
def s__law_first_refused_3 : IS := (.append 3 (.call "_law_word" (.lam 0 2 (.call "is_leap" (.val (.var 0) (.val (.var 1) .nil))) [2, 5] .nil)))
def s__law_first_refused_4 : IS := (.append 3 (.call "_law_word" (.lam 0 3 (.call "month_days" (.val (.var 0) (.val (.var 2) (.val (.var 1) .nil)))) [1, 4, 5] .nil)))
def s__law_first_refused_5 : IS := (.append 3 (.call "_law_word" (.lam 0 2 (.call "year_days" (.val (.var 0) (.val (.var 1) .nil))) [1, 5] .nil)))
def s__law_first_refused_6 : IS := (.append 3 (.call "_law_word" (.lam 0 2 (.call "month_days" (.val (.var 0) (.val (.int 3) (.val (.var 1) .nil)))) [1, 4] .nil)))
def s__law_first_refused_7 : IS := (.append 3 (.call "_law_word" (.lam 0 1 (.call "month_begins" (.val (.var 0) (.val (.bin .Pow (.int 10) (.int 20)) (.val (.bif .len (.cons (.idx (.bor 0) (.int 1)) .nil)) .nil)))) [1] .nil)))
def s__law_first_refused_8 : IS := (.ret (.cmp .Eq (.bor 3) (.bin .Add (.bin .Add (.bin .Mult (.lst (.cons (.str "NoCalendar") .nil)) (.int 2)) (.bin .Mult (.lst (.cons (.str "NoYear") .nil)) (.int 2))) (.bin .Mult (.lst (.cons (.str "NoMonth") .nil)) (.int 2)))))
def i__law_first_refused : FnIR := ⟨3, 6, (.cons s__law_first_refused_1 (.cons s__law_first_refused_2 (.cons s__law_first_refused_3 (.cons s__law_first_refused_4 (.cons s__law_first_refused_5 (.cons s__law_first_refused_6 (.cons s__law_first_refused_7 (.cons s__law_first_refused_8 .nil))))))))⟩
def s_law_1 : IS := (.set (.name 1) (.call "_law_hand" (.val (.var 0) .nil)))
def s_law_2 : IS := (.set (.name 2) (.tup (.cons (.int 7) (.cons (.tup (.cons (.int 3) (.cons (.int 2) .nil))) (.cons (.tup (.cons (.int 2) (.cons (.tup (.cons (.int 1) .nil)) (.cons (.int 1) (.cons (.int 1) .nil))))) .nil)))))
def s_law_3 : IS := (.ret (.bl false))
def s_law_4 : IS := (.ife (.cmp .NotEq (.lst (.cons (.call "cycle_days" (.val (.var 2) .nil)) (.cons (.call "year_days" (.val (.var 2) (.val (.int 1) .nil))) (.cons (.call "year_days" (.val (.var 2) (.val (.bin .Pow (.int 10) (.int 30)) .nil))) .nil)))) (.lst (.cons (.int 11) (.cons (.int 6) (.cons (.int 5) .nil))))) (.cons s_law_3 .nil) .nil)
def s_law_5 : IS := (.set (.name 4) (.call "_law_made" (.val (.var 1) .nil)))
def s_law_6 : IS := (.set (.name 5) (.call "_law_bent" (.val (.var 1) (.val (.var 4) .nil))))
def s_law_7 : IS := (.ret (.bl false))
def s_law_8 : IS := (.ife (.or (.cmp .IsNot (.call "is_calendar" (.val (.var 4) .nil)) (.bl true)) (.or (.cmp .IsNot (.call "is_calendar" (.val (.var 5) .nil)) (.bl false)) (.not (.call "_law_cycle_right" (.val (.var 4) .nil))))) (.cons s_law_7 .nil) .nil)
def s_law_9 : IS := (.ret (.bl false))
def s_law_10 : IS := (.ife (.not (.call "_law_year_right" (.val (.var 4) (.val (.var 6) .nil)))) (.cons s_law_9 .nil) .nil)
def b_law_11 : ISs := (.cons s_law_10 .nil)
def s_law_12 : IS := (.for (.name 6) (.seq (.tup (.cons (.call "_law_draw" (.val (.var 1) (.val (.int 30) .nil))) (.cons (.call "_law_draw" (.val (.var 1) (.val (.bin .Pow (.int 10) (.int 20)) .nil))) .nil)))) b_law_11)
def s_law_13 : IS := (.ret (.bl false))
def s_law_14 : IS := (.ife (.not (.call "_law_first_refused" (.val (.var 1) (.val (.var 4) (.val (.var 5) .nil))))) (.cons s_law_13 .nil) .nil)
def b_law_15 : ISs := (.cons s_law_5 (.cons s_law_6 (.cons s_law_8 (.cons s_law_12 (.cons s_law_14 .nil)))))
def s_law_16 : IS := (.for (.name 3) (.range1 (.int 6)) b_law_15)
def s_law_17 : IS := (.ret (.bl true))
def i_law : FnIR := ⟨1, 7, (.cons s_law_1 (.cons s_law_2 (.cons s_law_4 (.cons s_law_16 (.cons s_law_17 .nil)))))⟩
def fns : List (Str × FnIR) := [(("is_integer" : Str), i_is_integer), (("is_within" : Str), i_is_within), (("is_sized" : Str), i_is_sized), (("are_rising" : Str), i_are_rising), (("is_lot" : Str), i_is_lot), (("is_leap_rule" : Str), i_is_leap_rule), (("is_calendar" : Str), i_is_calendar), (("check_calendar" : Str), i_check_calendar), (("is_number" : Str), i_is_number), (("raw_is_leap" : Str), i_raw_is_leap), (("raw_year_days" : Str), i_raw_year_days), (("raw_month_days" : Str), i_raw_month_days), (("check_year" : Str), i_check_year), (("check_month" : Str), i_check_month), (("is_leap" : Str), i_is_leap), (("year_days" : Str), i_year_days), (("month_days" : Str), i_month_days), (("raw_cycle_days" : Str), i_raw_cycle_days), (("cycle_days" : Str), i_cycle_days), (("raw_year_begins" : Str), i_raw_year_begins), (("raw_month_begins" : Str), i_raw_month_begins), (("year_begins" : Str), i_year_begins), (("month_begins" : Str), i_month_begins), (("_law_hand" : Str), i__law_hand), (("_law_draw" : Str), i__law_draw), (("_law_any" : Str), i__law_any), (("_law_lot" : Str), i__law_lot), (("_law_word" : Str), i__law_word), (("_law_made" : Str), i__law_made), (("_law_bent" : Str), i__law_bent), (("_law_length" : Str), i__law_length), (("_law_year_right" : Str), i__law_year_right), (("_law_cycle_right" : Str), i__law_cycle_right), (("_law_first_refused" : Str), i__law_first_refused), (("law" : Str), i_law)]
def cons0 : List (Str × D) := [(("MOST_WEEK" : Str), .int 10), (("MOST_MONTHS" : Str), .int 12), (("MOST_MONTH" : Str), .int 31), (("MOST_CYCLE" : Str), .int 28), (("MOST_MORE" : Str), .int 3)]
def isa (c' c : Str) : Bool := decide (c = "ValueError") || (decide (c = "DateError") || decide (c' = c))
def T : Tab := ⟨fun x => fns.lookup x, fun x => cons0.lookup x, isa⟩
abbrev cf (k : Nat) : FnT := callF T 100 k
abbrev cc (k : Nat) : CloT := callC T 100 k
theorem cf_succ {k : Nat} {f : Str} {ir : FnIR} {sl : List Slot} {o : Objs} (h : T.fn f = some ir) (hl : sl.length = ir.np) : cf (k + 1) f sl o = (exSs (cf k) (cc k) T.con T.isa 100 ir.body (frame sl ir.nl) o).out := by
  show (match T.fn f with | some ir => if sl.length = ir.np then _ else _ | none => _) = _
  rw [h]
  exact if_pos hl
theorem cc_succ {k np nl : Nat} {b : IE} {cap ds : List D} {o : Objs} (hl : ds.length = np) : cc (k + 1) np nl b cap ds o = evE (cf k) (cc k) T.con T.isa b (frame (ds.map .val ++ cap.map .val) nl) o := if_pos hl
theorem f_is_integer : T.fn "is_integer" = some i_is_integer := by kernel_rfl
theorem f_is_within : T.fn "is_within" = some i_is_within := by kernel_rfl
theorem f_is_sized : T.fn "is_sized" = some i_is_sized := by kernel_rfl
theorem f_are_rising : T.fn "are_rising" = some i_are_rising := by kernel_rfl
theorem f_is_lot : T.fn "is_lot" = some i_is_lot := by kernel_rfl
theorem f_is_leap_rule : T.fn "is_leap_rule" = some i_is_leap_rule := by kernel_rfl
theorem f_is_calendar : T.fn "is_calendar" = some i_is_calendar := by kernel_rfl
theorem f_check_calendar : T.fn "check_calendar" = some i_check_calendar := by kernel_rfl
theorem f_is_number : T.fn "is_number" = some i_is_number := by kernel_rfl
theorem f_raw_is_leap : T.fn "raw_is_leap" = some i_raw_is_leap := by kernel_rfl
theorem f_raw_year_days : T.fn "raw_year_days" = some i_raw_year_days := by kernel_rfl
theorem f_raw_month_days : T.fn "raw_month_days" = some i_raw_month_days := by kernel_rfl
theorem f_check_year : T.fn "check_year" = some i_check_year := by kernel_rfl
theorem f_check_month : T.fn "check_month" = some i_check_month := by kernel_rfl
theorem f_is_leap : T.fn "is_leap" = some i_is_leap := by kernel_rfl
theorem f_year_days : T.fn "year_days" = some i_year_days := by kernel_rfl
theorem f_month_days : T.fn "month_days" = some i_month_days := by kernel_rfl
theorem f_raw_cycle_days : T.fn "raw_cycle_days" = some i_raw_cycle_days := by kernel_rfl
theorem f_cycle_days : T.fn "cycle_days" = some i_cycle_days := by kernel_rfl
theorem f_raw_year_begins : T.fn "raw_year_begins" = some i_raw_year_begins := by kernel_rfl
theorem f_raw_month_begins : T.fn "raw_month_begins" = some i_raw_month_begins := by kernel_rfl
theorem f_year_begins : T.fn "year_begins" = some i_year_begins := by kernel_rfl
theorem f_month_begins : T.fn "month_begins" = some i_month_begins := by kernel_rfl
theorem f__law_hand : T.fn "_law_hand" = some i__law_hand := by kernel_rfl
theorem f__law_draw : T.fn "_law_draw" = some i__law_draw := by kernel_rfl
theorem f__law_any : T.fn "_law_any" = some i__law_any := by kernel_rfl
theorem f__law_lot : T.fn "_law_lot" = some i__law_lot := by kernel_rfl
theorem f__law_word : T.fn "_law_word" = some i__law_word := by kernel_rfl
theorem f__law_made : T.fn "_law_made" = some i__law_made := by kernel_rfl
theorem f__law_bent : T.fn "_law_bent" = some i__law_bent := by kernel_rfl
theorem f__law_length : T.fn "_law_length" = some i__law_length := by kernel_rfl
theorem f__law_year_right : T.fn "_law_year_right" = some i__law_year_right := by kernel_rfl
theorem f__law_cycle_right : T.fn "_law_cycle_right" = some i__law_cycle_right := by kernel_rfl
theorem f__law_first_refused : T.fn "_law_first_refused" = some i__law_first_refused := by kernel_rfl
theorem f_law : T.fn "law" = some i_law := by kernel_rfl
theorem c_w : T.con "MOST_WEEK" = some (.int 10) := by kernel_rfl
theorem c_ms : T.con "MOST_MONTHS" = some (.int 12) := by kernel_rfl
theorem c_m : T.con "MOST_MONTH" = some (.int 31) := by kernel_rfl
theorem c_c : T.con "MOST_CYCLE" = some (.int 28) := by kernel_rfl
theorem c_mo : T.con "MOST_MORE" = some (.int 3) := by kernel_rfl
end K00

set_option maxHeartbeats 2000000
/-! K00b: what the program's functions compute. -/
namespace K00
open PySem Ev
/-- an int that is no bool -/
def isI : D → Bool
  | .int _ => true
  | _ => false
section
variable {k : Nat} {o : Objs}
/-- what a value of one's own may be -/
def okD : D → Bool
  | .obj _ => false
  | _ => true
theorem v_is_integer (d : D) (h : okD d = true) : cf (k + 1) "is_integer" [.val d] o = .ok (.bl (isI d)) o := by
  rw [cf_succ f_is_integer rfl]
  cases d <;> first
    | (cases h; done)
    | rfl
def wi (d : D) (a b : Int) : Bool := match d with
  | .int i => decide (a ≤ i) && decide (i ≤ b)
  | _ => false
theorem v_is_within (d : D) (a b : Int) (h : okD d = true) : cf (k + 2) "is_within" [.val d, .val (.int a), .val (.int b)] o = .ok (.bl (wi d a b)) o := by
  rw [cf_succ f_is_within rfl]
  simp only [s_is_within_1, i_is_within, exSs, exS, evE, evEs, evAs, evEo, evC, evSrc, evT, frame, getV, getB, Res.ofO, Res.bind, Res.st, SRes.seq, SRes.out, List.getElem?_cons_zero, List.getElem?_cons_succ, List.cons_append, List.nil_append, List.replicate, List.length_cons, List.length_nil, bindT, bindTs, List.set_cons_zero, List.set_cons_succ, frzF, wipeF, v_is_integer d h]
  cases d <;> first
    | (cases h; done)
    | rfl
    | (rename_i i; simp only [isI, cmpD, leD, Option.map, wi]; cases decide (a ≤ i) <;> simp)
def szT (d : D) (a b : Int) : Bool := match d with
  | .tup ds => decide (a ≤ ds.length) && decide ((ds.length : Int) ≤ b)
  | _ => false
theorem v_is_sized (d : D) (a b : Int) (h : okD d = true) : cf (k + 1) "is_sized" [.val d, .val (.int a), .val (.int b)] o = .ok (.bl (szT d a b)) o := by
  rw [cf_succ f_is_sized rfl]
  cases d <;> first
    | (cases h; done)
    | rfl
    | skip
  rename_i ds
  have e : isiD (.tup ds) "tuple" = some true := by rfl
  simp only [s_is_sized_1, i_is_sized, exSs, exS, evE, evEs, evAs, evEo, evC, evSrc, evT, frame, getV, getB, Res.ofO, Res.bind, Res.st, SRes.seq, SRes.out, List.getElem?_cons_zero, List.getElem?_cons_succ, List.cons_append, List.nil_append, List.replicate, List.length_cons, List.length_nil, bindT, bindTs, List.set_cons_zero, List.set_cons_succ, frzF, wipeF, e, Option.map, bifD, cmpD, leD, szT]
  cases decide (a ≤ (ds.length : Int)) <;> simp
theorem compL_pure {bd : D → Option Frm} {cnd : Frm → Objs → Res Bool} {el : Frm → Objs → Res D} {o : Objs} {f : D → D} {p : D → Bool} : ∀ {ds : List D}, (∀ d ∈ ds, ∃ ρ, bd d = some ρ ∧ cnd ρ o = .ok (p d) o ∧ (p d = true → el ρ o = .ok (f d) o)) → compL bd cnd el ds o = .ok ((ds.filter p).map f) o
  | [], _ => rfl
  | d :: ds, h => by
    obtain ⟨ρ, h1, h2, h3⟩ := h d List.mem_cons_self
    have ih := compL_pure fun d' hd => h d' (List.mem_cons_of_mem _ hd)
    unfold compL
    simp only [h1, h2, Res.bind]
    cases hp : p d with
    | false =>
      rw [if_neg Bool.false_ne_true, ih, List.filter_cons_of_neg (by rw [hp]; exact Bool.false_ne_true)]
    | true =>
      simp only [if_true, h3 hp, Res.bind, ih]
      rw [List.filter_cons_of_pos hp]
      rfl
theorem comp_ok {F : FnT} {C : CloT} {G : Str → Option D} {is : Str → Str → Bool} {elt : IE} {tg : Tg} {src : ISrc} {c : IEo} {own : List Nat} {ρ : Frm} {o1 o2 : Objs} {ds xs : List D} (h1 : evSrc F C G is src ρ o = .ok ds o1)
    (h2 : compL (fun d => bindT tg d (wipeF ρ own)) (fun ρ' o' => evC F C G is c ρ' o') (fun ρ' o' => evE F C G is elt ρ' o') ds o1 = .ok xs o2) (hz : xs.length ≤ sizeLine) : evE F C G is (.comp elt tg src c own) ρ o = .ok (.lst xs) o2 := by
  unfold evE
  rw [h1]
  show ((compL _ _ _ ds o1).calm).bind _ = _
  rw [h2]
  show (if sz xs.length then Res.ok (D.lst xs) o2 else .stuck) = _
  exact if_pos (decide_eq_true hz)
theorem compL_map {bd : D → Option Frm} {cnd : Frm → Objs → Res Bool} {el : Frm → Objs → Res D} {o : Objs} {f : D → D} {ds : List D} (h : ∀ d ∈ ds, ∃ ρ, bd d = some ρ ∧ cnd ρ o = .ok true o ∧ el ρ o = .ok (f d) o) : compL bd cnd el ds o = .ok (ds.map f) o := by
  have z := compL_pure (p := fun _ => true) (f := f) fun d hd => by
    obtain ⟨ρ, h1, h2, h3⟩ := h d hd
    exact ⟨ρ, h1, h2, fun _ => h3⟩
  rw [z, List.filter_eq_self.mpr fun _ _ => rfl]
theorem blsD_map {α : Type} (f : α → Bool) : ∀ l : List α, blsD (l.map fun x => .bl (f x)) = some (l.map f)
  | [] => rfl
  | a :: l => by
    show (blsD (l.map fun x => .bl (f x))).map (f a :: ·) = _
    rw [blsD_map f l]
    rfl
theorem intsD_map {α : Type} (f : α → Int) : ∀ l : List α, intsD (l.map fun x => .int (f x)) = some (l.map f)
  | [] => rfl
  | a :: l => by
    show (intsD (l.map fun x => .int (f x))).map (f a :: ·) = _
    rw [intsD_map f l]
    rfl
theorem inD_ints (i : Int) (l : List Int) : inD (.int i) (.tup (l.map D.int)) = some (decide (i ∈ l)) := by
  have h1 : ((l.map D.int).all flatD) = true := by
    rw [List.all_eq_true]
    rintro x hx
    obtain ⟨j, _, rfl⟩ := List.mem_map.mp hx
    rfl
  have h2 : ((l.map D.int).any fun y => eqF y (.int i)) = decide (i ∈ l) := by
    rw [List.any_map, Bool.eq_iff_iff, List.any_eq_true, decide_eq_true_eq]
    constructor
    · rintro ⟨j, hj, e⟩
      have e : (j == i) = true := e
      rw [← eq_of_beq e]
      exact hj
    · exact fun h => ⟨i, h, beq_self_eq_true i⟩
  show (if (flatD (.int i) && (l.map D.int).all flatD) = true then some ((l.map D.int).any fun y => eqF y (.int i)) else none) = _
  rw [h1, h2]
  rfl
theorem mulOk_of {i j : Int} (h1 : i.natAbs < 2 ^ 400) (h2 : j.natAbs < 2 ^ 400) : mulOk i j = true := by
  have g : ∀ {n : Nat}, n < 2 ^ 400 → n.log2 < 400 := fun {n} h => by
    by_cases z : n = 0
    · subst z
      decide
    · exact (Nat.log2_lt z).mpr h
  unfold mulOk
  have a := g h1
  have b := g h2
  exact decide_eq_true (by omega)
/-! ### calendars -/
structure Cal where
  w : Int
  ms : List Int
  cy : Int
  ls : List Int
  mo : Int
  mr : Int
def iT (l : List Int) : D := .tup (l.map D.int)
def Cal.leap (c : Cal) : D := .tup [.int c.cy, iT c.ls, .int c.mo, .int c.mr]
def Cal.d (c : Cal) : D := .tup [.int c.w, iT c.ms, c.leap]
def ris (l : List Int) : Bool := ((l.zip (l.drop 1)).map fun p => decide (p.1 < p.2)).all id
structure Cal.Ok (c : Cal) : Prop where
  w1 : 1 ≤ c.w
  w2 : c.w ≤ 10
  m1 : 1 ≤ c.ms.length
  m2 : c.ms.length ≤ 4
  mm : ∀ m ∈ c.ms, 1 ≤ m ∧ m ≤ 31
  c1 : 1 ≤ c.cy
  c2 : c.cy ≤ 28
  lr : ris c.ls = true
  ll : ∀ y ∈ c.ls, 0 ≤ y ∧ y < c.cy
  ln : c.ls.length ≤ 28
  o1 : 0 ≤ c.mo
  o2 : c.mo < c.ms.length
  r1 : 1 ≤ c.mr
  r2 : c.mr ≤ 3
variable {c : Cal} {y m : Int}
def lpB (c : Cal) (y : Int) : Bool := decide (y % c.cy ∈ c.ls)
theorem at3 {a b d : D} : L2.atI [a, b, d] 0 = some a ∧ L2.atI [a, b, d] 1 = some b ∧ L2.atI [a, b, d] 2 = some d := ⟨rfl, rfl, rfl⟩
theorem at4 {a b d e : D} : L2.atI [a, b, d, e] 0 = some a ∧ L2.atI [a, b, d, e] 1 = some b ∧ L2.atI [a, b, d, e] 2 = some d ∧ L2.atI [a, b, d, e] 3 = some e := ⟨rfl, rfl, rfl, rfl⟩
theorem v_raw_is_leap (C : c.Ok) : cf (k + 1) "raw_is_leap" [.val c.d, .val (.int y)] o = .ok (.bl (lpB c y)) o := by
  have h : decide (0 < c.cy) = true := decide_eq_true (by have := C.c1; omega)
  rw [cf_succ f_raw_is_leap rfl]
  simp only [s_raw_is_leap_1, i_raw_is_leap, exSs, exS, evE, evEs, evAs, evEo, evC, evSrc, evT, frame, getV, getB, Res.ofO, Res.bind, Res.st, SRes.seq, SRes.out, List.getElem?_cons_zero, List.getElem?_cons_succ, List.cons_append, List.nil_append, List.replicate, List.length_cons, List.length_nil, bindT, bindTs, List.set_cons_zero, List.set_cons_succ, frzF, wipeF, Cal.d, Cal.leap, idxD, at3, at4, binD, h, if_true, iT, cmpD, inD_ints, Option.map, lpB]
theorem sumD (l : List Int) : bifD .sum [iT l] = some (.int l.sum) := by
  have z := intsD_map (fun i : Int => i) l
  rw [List.map_id'] at z
  show (intsD (l.map D.int)).map _ = _
  rw [z]
  rfl
theorem v_raw_year_days (C : c.Ok) : cf (k + 2) "raw_year_days" [.val c.d, .val (.int y)] o = .ok (.int (c.ms.sum + if lpB c y then c.mr else 0)) o := by
  rw [cf_succ f_raw_year_days rfl]
  have e : (Cal.d c) = .tup [.int c.w, iT c.ms, c.leap] := rfl
  simp only [s_raw_year_days_1, i_raw_year_days, exSs, exS, evE, evEs, evAs, evEo, evC, evSrc, evT, frame, getV, getB, Res.ofO, Res.bind, Res.st, SRes.seq, SRes.out, List.getElem?_cons_zero, List.getElem?_cons_succ, List.cons_append, List.nil_append, List.replicate, List.length_cons, List.length_nil, bindT, bindTs, List.set_cons_zero, List.set_cons_succ, frzF, wipeF, v_raw_is_leap C]
  simp only [e, Cal.leap, idxD, at3, at4, sumD]
  cases lpB c y <;> rfl
end
end K00

set_option maxHeartbeats 2000000
/-! K00c: is_calendar of anything. -/
namespace K00
open PySem Ev
mutual
/-- no shared object within -/
def nO : D → Bool
  | .obj _ => false
  | .tup ds => nOs ds
  | .lst ds => nOs ds
  | _ => true
def nOs : List D → Bool
  | [] => true
  | d :: ds => nO d && nOs ds
end
theorem nOs_mem : ∀ {ds : List D}, nOs ds = true → ∀ d ∈ ds, nO d = true
  | [], _, d, hd => absurd hd (by simp)
  | a :: ds, h, d, hd => by
    unfold nOs at h
    rw [Bool.and_eq_true] at h
    rcases List.mem_cons.mp hd with rfl | hd
    · exact h.1
    · exact nOs_mem h.2 d hd
theorem nO_ok {d : D} (h : nO d = true) : okD d = true := by
  cases d <;> first
    | rfl
    | (unfold nO at h; cases h)
theorem nO_tup {ds : List D} (h : nO (.tup ds) = true) : nOs ds = true := by
  unfold nO at h
  exact h
section
variable {k : Nat} {o : Objs}
theorem cut1 (l : List D) : cutD l (some 1) none = l.drop 1 := by
  unfold cutD HT.sIx
  cases l with
  | nil => rfl
  | cons a l => simp
theorem cutN (l : List D) (n : Nat) : cutD l none (some (n : Int)) = l.take n := by
  unfold cutD HT.sIx
  have h : ¬ ((n : Int) < 0) := by omega
  simp [h]
theorem zipE {xs ys : List Int} : ((xs.map D.int).zip (ys.map D.int)).map (fun p => D.tup [p.1, p.2]) = (xs.zip ys).map fun p => D.tup [.int p.1, .int p.2] := by
  rw [List.zip_map, List.map_map]
  rfl
theorem len_zip (l : List Int) {α : Type} (f : Int × Int → α) : ((l.zip (l.drop 1)).map f).length ≤ l.length := by
  rw [List.length_map, List.length_zip]
  omega
theorem v_are_rising (l : List Int) (hl : l.length ≤ sizeLine) : cf (k + 1) "are_rising" [.val (iT l)] o = .ok (.bl (ris l)) o := by
  have hc : evE (cf k) (cc k) T.con T.isa e_are_rising_1 [.val (iT l), .none, .none] o = .ok (.lst ((l.zip (l.drop 1)).map fun p => D.bl (decide (p.1 < p.2)))) o := by
    refine comp_ok (ds := (l.zip (l.drop 1)).map fun p => D.tup [.int p.1, .int p.2]) (o1 := o) ?_ ?_ (Nat.le_trans (len_zip l _) hl)
    · simp only [exSs, exS, evE, evEs, evAs, evEo, evC, evSrc, evT, frame, getV, getB, Res.ofO, Res.bind, Res.st, SRes.seq, SRes.out, List.getElem?_cons_zero, List.getElem?_cons_succ, List.cons_append, List.nil_append, List.replicate, List.length_cons, List.length_nil, bindT, bindTs, List.set_cons_zero, List.set_cons_succ, frzF, wipeF, slcD, iT, cut1, ← List.map_drop, zipE]
    · have z := compL_map (o := o) (f := fun d => match d with
        | .tup [.int a, .int b] => D.bl (decide (a < b))
        | _ => .non) (ds := (l.zip (l.drop 1)).map fun p => D.tup [.int p.1, .int p.2]) (bd := fun d => bindT (.tup [(.name 1), (.name 2)]) d (wipeF [.val (iT l), .none, .none] [1, 2])) (cnd := fun ρ' o' => evC (cf k) (cc k) T.con T.isa .none ρ' o') (el := fun ρ' o' => evE (cf k) (cc k) T.con T.isa (.cmp .Lt (.bor 1) (.bor 2)) ρ' o') fun d hd => by
        obtain ⟨p, _, rfl⟩ := List.mem_map.mp hd
        exact ⟨_, rfl, rfl, rfl⟩
      rw [List.map_map] at z
      exact z
  have hb : blsD ((l.zip (l.drop 1)).map fun p => D.bl (decide (p.1 < p.2))) = some ((l.zip (l.drop 1)).map fun p => decide (p.1 < p.2)) := blsD_map _ _
  rw [cf_succ f_are_rising rfl]
  simp only [s_are_rising_2, i_are_rising, exSs, exS, evE, evEs, evAs, evEo, evC, evSrc, evT, frame, getV, getB, Res.ofO, Res.bind, Res.st, SRes.seq, SRes.out, List.getElem?_cons_zero, List.getElem?_cons_succ, List.cons_append, List.nil_append, List.replicate, List.length_cons, List.length_nil, bindT, bindTs, List.set_cons_zero, List.set_cons_succ, frzF, wipeF, hc, bifD, hb, Option.map, ris]
theorem ints_of {a b : Int} : ∀ {ds : List D}, ds.all (fun d => wi d a b) = true → ∃ l : List Int, ds = l.map D.int ∧ ∀ i ∈ l, a ≤ i ∧ i ≤ b
  | [], _ => ⟨[], rfl, fun _ h => absurd h (by simp)⟩
  | d :: ds, h => by
    rw [List.all_cons, Bool.and_eq_true] at h
    obtain ⟨l, rfl, hl⟩ := ints_of h.2
    cases d <;> first
      | (cases h.1; done)
      | skip
    rename_i i
    have z : (decide (a ≤ i) && decide (i ≤ b)) = true := h.1
    rw [Bool.and_eq_true, decide_eq_true_eq, decide_eq_true_eq] at z
    refine ⟨i :: l, rfl, fun j hj => ?_⟩
    rcases List.mem_cons.mp hj with rfl | hj
    · exact z
    · exact hl j hj
/-- all are within -/
theorem e_within {F : FnT} {C : CloT} {G : Str → Option D} {is : Str → Str → Bool} {ds : List D} {o : Objs} {a b : Int} (h : nOs ds = true) {bd : D → Option Frm} {cnd : Frm → Objs → Res Bool} {el : Frm → Objs → Res D} (hb : ∀ d ∈ ds, ∃ ρ, bd d = some ρ ∧ cnd ρ o = .ok true o ∧ el ρ o = .ok (.bl (wi d a b)) o) :
    compL bd cnd el ds o = .ok (ds.map fun d => D.bl (wi d a b)) o := compL_map hb
def asI : D → Option Int
  | .int i => some i
  | _ => none
def lotB (d : D) (many : Int) : Bool := match d with
  | .tup ds => ds.all (fun d => wi d 0 (many - 1)) && ris (ds.filterMap asI)
  | _ => false
theorem fm_ints (l : List Int) : (l.map D.int).filterMap asI = l := by
  rw [List.filterMap_map]
  exact List.filterMap_some
theorem v_is_lot (d : D) (many : Int) (h : nO d = true) (hl : ∀ ds, d = .tup ds → ds.length ≤ sizeLine) : cf (k + 3) "is_lot" [.val d, .val (.int many)] o = .ok (.bl (lotB d many)) o := by
  rw [cf_succ f_is_lot rfl]
  cases d with
  | tup ds =>
    have hn := nO_tup h
    have hc : evE (cf (k + 2)) (cc (k + 2)) T.con T.isa e_is_lot_1 [.val (.tup ds), .val (.int many), .none] o = .ok (.lst (ds.map fun d => D.bl (wi d 0 (many - 1)))) o := by
      refine comp_ok (ds := ds) (o1 := o) rfl (compL_map fun d hd => ⟨[.val (.tup ds), .val (.int many), .val d], rfl, rfl, ?_⟩) (by rw [List.length_map]; exact hl ds rfl)
      have e : binD .Sub (.int many) (.int 1) = some (.int (many - 1)) := rfl
      simp only [exSs, exS, evE, evEs, evAs, evEo, evC, evSrc, evT, frame, getV, getB, Res.ofO, Res.bind, Res.st, SRes.seq, SRes.out, List.getElem?_cons_zero, List.getElem?_cons_succ, List.cons_append, List.nil_append, List.replicate, List.length_cons, List.length_nil, bindT, bindTs, List.set_cons_zero, List.set_cons_succ, frzF, wipeF, e, v_is_within d 0 (many - 1) (nO_ok (nOs_mem hn d hd))]
    have hb : blsD (ds.map fun d => D.bl (wi d 0 (many - 1))) = some (ds.map fun d => wi d 0 (many - 1)) := blsD_map _ _
    have ha : (ds.map fun d => wi d 0 (many - 1)).all id = ds.all fun d => wi d 0 (many - 1) := by
      rw [List.all_map]
      rfl
    have et : isiD (.tup ds) "tuple" = some true := by rfl
    cases q : ds.all fun d => wi d 0 (many - 1) with
    | false =>
      simp only [s_is_lot_2, s_is_lot_3, s_is_lot_4, i_is_lot, exSs, exS, evE, evEs, evAs, evEo, evC, evSrc, evT, frame, getV, getB, Res.ofO, Res.bind, Res.st, SRes.seq, SRes.out, List.getElem?_cons_zero, List.getElem?_cons_succ, List.cons_append, List.nil_append, List.replicate, List.length_cons, List.length_nil, bindT, bindTs, List.set_cons_zero, List.set_cons_succ, frzF, wipeF, hc, bifD, hb, Option.map, ha, q, et, lotB, Bool.not_true, Bool.not_false, Bool.false_and, if_true]
    | true =>
      obtain ⟨l, rfl, _⟩ := ints_of q
      have hr := v_are_rising (k := k + 1) (o := o) l (by have := hl _ rfl; rwa [List.length_map] at this)
      unfold iT at hr
      simp only [s_is_lot_2, s_is_lot_3, s_is_lot_4, i_is_lot, exSs, exS, evE, evEs, evAs, evEo, evC, evSrc, evT, frame, getV, getB, Res.ofO, Res.bind, Res.st, SRes.seq, SRes.out, List.getElem?_cons_zero, List.getElem?_cons_succ, List.cons_append, List.nil_append, List.replicate, List.length_cons, List.length_nil, bindT, bindTs, List.set_cons_zero, List.set_cons_succ, frzF, wipeF, hc, bifD, hb, Option.map, ha, q, et, lotB, Bool.not_true, Bool.not_false, hr, Bool.true_and, fm_ints, Bool.false_eq_true, if_false]
  | obj => cases h
  | _ => rfl
end
end K00

set_option maxHeartbeats 2000000
/-! K00d: is_calendar of anything; the checks. -/
namespace K00
open PySem Ev
def toI : D → Int
  | .int i => i
  | _ => 0
/-- no long tuple -/
def smB : D → Bool
  | .tup ds => decide (ds.length ≤ 1000)
  | _ => true
def sm1 : D → Bool
  | .tup ds => ds.all smB
  | _ => true
theorem smB_le {d : D} (h : smB d = true) : ∀ ds, d = .tup ds → ds.length ≤ sizeLine := fun ds e => by
  subst e
  have z := of_decide_eq_true h
  unfold sizeLine
  omega
theorem wi_int {d : D} {a b : Int} (h : wi d a b = true) : d = .int (toI d) ∧ a ≤ toI d ∧ toI d ≤ b := by
  cases d <;> first
    | (cases h; done)
    | skip
  have z : (decide (a ≤ _) && decide (_ ≤ b)) = true := h
  rw [Bool.and_eq_true, decide_eq_true_eq, decide_eq_true_eq] at z
  exact ⟨rfl, z⟩
def lpR (n : Int) (d : D) : Bool := match d with
  | .tup [a, b, c, e] => (wi a 1 28 && lotB b (toI a)) && (wi c 0 (n - 1) && wi e 1 3)
  | _ => false
theorem sz4 {ds : List D} (h : szT (.tup ds) 4 4 = true) : ∃ a b c e, ds = [a, b, c, e] := by
  have z : (decide ((4 : Int) ≤ ds.length) && decide ((ds.length : Int) ≤ 4)) = true := h
  rw [Bool.and_eq_true, decide_eq_true_eq, decide_eq_true_eq] at z
  match ds, z with
  | [a, b, c, e], _ => exact ⟨a, b, c, e, rfl⟩
  | [], z => simp at z
  | [_], z => simp at z
  | [_, _], z => simp at z
  | [_, _, _], z => simp at z
  | _ :: _ :: _ :: _ :: _ :: _, z => simp only [List.length_cons] at z; omega
theorem sz3 {ds : List D} (h : szT (.tup ds) 3 3 = true) : ∃ a b c, ds = [a, b, c] := by
  have z : (decide ((3 : Int) ≤ ds.length) && decide ((ds.length : Int) ≤ 3)) = true := h
  rw [Bool.and_eq_true, decide_eq_true_eq, decide_eq_true_eq] at z
  match ds, z with
  | [a, b, c], _ => exact ⟨a, b, c, rfl⟩
  | [], z => simp at z
  | [_], z => simp at z
  | [_, _], z => simp at z
  | _ :: _ :: _ :: _ :: _, z => simp only [List.length_cons] at z; omega
section
variable {k : Nat} {o : Objs}
theorem v_is_leap_rule (n : Int) (d : D) (h : nO d = true) (hm : sm1 d = true) : cf (k + 4) "is_leap_rule" [.val (.int n), .val d] o = .ok (.bl (lpR n d)) o := by
  have hz := v_is_sized (k := k + 2) (o := o) d 4 4 (nO_ok h)
  have cn := c_c
  have cm := c_mo
  rw [cf_succ f_is_leap_rule rfl]
  cases q : szT d 4 4 with
  | false =>
    rw [q] at hz
    have e : lpR n d = false := by
      unfold lpR
      split
      · exact absurd q (by simp [szT])
      · rfl
    simp only [s_is_leap_rule_1, s_is_leap_rule_2, s_is_leap_rule_3, i_is_leap_rule, exSs, exS, evE, evEs, evAs, evEo, evC, evSrc, evT, frame, getV, getB, Res.ofO, Res.bind, Res.st, SRes.seq, SRes.out, List.getElem?_cons_zero, List.getElem?_cons_succ, List.cons_append, List.nil_append, List.replicate, List.length_cons, List.length_nil, bindT, bindTs, List.set_cons_zero, List.set_cons_succ, frzF, wipeF, hz, Bool.not_false, if_true, e]
  | true =>
    rw [q] at hz
    cases d with
    | tup ds =>
      obtain ⟨a, b, c, e, rfl⟩ := sz4 q
      have hn := nOs_mem (nO_tup h)
      have na := hn a (by simp)
      have nb := hn b (by simp)
      have nc := hn c (by simp)
      have ne := hn e (by simp)
      have m4 : smB b = true := List.all_eq_true.mp hm b (by simp)
      have h1 := v_is_within (k := k + 1) (o := o) a 1 28 (nO_ok na)
      have h3 := v_is_within (k := k + 1) (o := o) c 0 (n - 1) (nO_ok nc)
      have h4 := v_is_within (k := k + 1) (o := o) e 1 3 (nO_ok ne)
      have es : binD .Sub (.int n) (.int 1) = some (.int (n - 1)) := rfl
      cases q1 : wi a 1 28 with
      | false =>
        rw [q1] at h1
        simp only [s_is_leap_rule_1, s_is_leap_rule_2, s_is_leap_rule_3, i_is_leap_rule, exSs, exS, evE, evEs, evAs, evEo, evC, evSrc, evT, frame, getV, getB, Res.ofO, Res.bind, Res.st, SRes.seq, SRes.out, List.getElem?_cons_zero, List.getElem?_cons_succ, List.cons_append, List.nil_append, List.replicate, List.length_cons, List.length_nil, bindT, bindTs, List.set_cons_zero, List.set_cons_succ, frzF, wipeF, hz, Bool.not_false, Bool.not_true, if_true, idxD, at4, cn, h1, lpR, q1, Bool.false_and]
      | true =>
        rw [q1] at h1
        obtain ⟨ea, _, _⟩ := wi_int q1
        have h2 := v_is_lot (k := k) (o := o) b (toI a) nb (smB_le m4)
        rw [← ea] at h2
        cases q2 : lotB b (toI a) with
        | false =>
          rw [q2] at h2
          simp only [s_is_leap_rule_1, s_is_leap_rule_2, s_is_leap_rule_3, i_is_leap_rule, exSs, exS, evE, evEs, evAs, evEo, evC, evSrc, evT, frame, getV, getB, Res.ofO, Res.bind, Res.st, SRes.seq, SRes.out, List.getElem?_cons_zero, List.getElem?_cons_succ, List.cons_append, List.nil_append, List.replicate, List.length_cons, List.length_nil, bindT, bindTs, List.set_cons_zero, List.set_cons_succ, frzF, wipeF, hz, Bool.not_false, Bool.not_true, if_true, idxD, at4, cn, h1, h2, lpR, q1, q2, Bool.false_and, Bool.and_false]
        | true =>
          rw [q2] at h2
          cases q3 : wi c 0 (n - 1) with
          | false =>
            rw [q3] at h3
            simp only [s_is_leap_rule_1, s_is_leap_rule_2, s_is_leap_rule_3, i_is_leap_rule, exSs, exS, evE, evEs, evAs, evEo, evC, evSrc, evT, frame, getV, getB, Res.ofO, Res.bind, Res.st, SRes.seq, SRes.out, List.getElem?_cons_zero, List.getElem?_cons_succ, List.cons_append, List.nil_append, List.replicate, List.length_cons, List.length_nil, bindT, bindTs, List.set_cons_zero, List.set_cons_succ, frzF, wipeF, hz, Bool.not_false, Bool.not_true, Bool.false_eq_true, if_false, idxD, at4, cn, cm, h1, h2, h3, es, lpR, q1, q2, q3, Bool.false_and, Bool.and_false]
          | true =>
            rw [q3] at h3
            simp only [s_is_leap_rule_1, s_is_leap_rule_2, s_is_leap_rule_3, i_is_leap_rule, exSs, exS, evE, evEs, evAs, evEo, evC, evSrc, evT, frame, getV, getB, Res.ofO, Res.bind, Res.st, SRes.seq, SRes.out, List.getElem?_cons_zero, List.getElem?_cons_succ, List.cons_append, List.nil_append, List.replicate, List.length_cons, List.length_nil, bindT, bindTs, List.set_cons_zero, List.set_cons_succ, frzF, wipeF, hz, Bool.not_false, Bool.not_true, Bool.false_eq_true, if_false, idxD, at4, cn, cm, h1, h2, h3, h4, es, lpR, q1, q2, q3, Bool.true_and]
    | _ => cases q
end
end K00

set_option maxHeartbeats 2000000
/-! K00e: is_calendar of anything; the checks. -/
namespace K00
open PySem Ev
def itm : D → List D
  | .tup ds => ds
  | _ => []
def calB (d : D) : Bool := match d with
  | .tup [a, b, c] => (wi a 1 10 && szT b 1 12) && (((itm b).all fun m => wi m 1 31) && lpR ((itm b).length : Int) c)
  | _ => false
/-- no long tuple, deeper -/
def sm2 : D → Bool
  | .tup ds => ds.all fun x => smB x && sm1 x
  | _ => true
section
variable {k : Nat} {o : Objs}
theorem v_is_calendar (d : D) (h : nO d = true) (hm : sm2 d = true) : cf (k + 5) "is_calendar" [.val d] o = .ok (.bl (calB d)) o := by
  have hz := v_is_sized (k := k + 3) (o := o) d 3 3 (nO_ok h)
  have g1 := c_w
  have g2 := c_ms
  have g3 := c_m
  rw [cf_succ f_is_calendar rfl]
  cases q : szT d 3 3 with
  | false =>
    rw [q] at hz
    have e : calB d = false := by
      unfold calB
      split
      · exact absurd q (by simp [szT])
      · rfl
    simp only [s_is_calendar_1, s_is_calendar_2, s_is_calendar_4, s_is_calendar_5, s_is_calendar_6, i_is_calendar, exSs, exS, evE, evEs, evAs, evEo, evC, evSrc, evT, frame, getV, getB, Res.ofO, Res.bind, Res.st, SRes.seq, SRes.out, List.getElem?_cons_zero, List.getElem?_cons_succ, List.cons_append, List.nil_append, List.replicate, List.length_cons, List.length_nil, bindT, bindTs, List.set_cons_zero, List.set_cons_succ, frzF, wipeF, hz, Bool.not_false, if_true, e]
  | true =>
    rw [q] at hz
    cases d with
    | tup ds =>
      obtain ⟨a, b, c, rfl⟩ := sz3 q
      have hn := nOs_mem (nO_tup h)
      have na := hn a (by simp)
      have nb := hn b (by simp)
      have nc := hn c (by simp)
      have mb := List.all_eq_true.mp hm b (by simp)
      have mc := List.all_eq_true.mp hm c (by simp)
      rw [Bool.and_eq_true] at mb mc
      have h1 := v_is_within (k := k + 2) (o := o) a 1 10 (nO_ok na)
      have h2 := v_is_sized (k := k + 3) (o := o) b 1 12 (nO_ok nb)
      cases q1 : wi a 1 10 with
      | false =>
        rw [q1] at h1
        simp only [s_is_calendar_1, s_is_calendar_2, s_is_calendar_4, s_is_calendar_5, s_is_calendar_6, i_is_calendar, exSs, exS, evE, evEs, evAs, evEo, evC, evSrc, evT, frame, getV, getB, Res.ofO, Res.bind, Res.st, SRes.seq, SRes.out, List.getElem?_cons_zero, List.getElem?_cons_succ, List.cons_append, List.nil_append, List.replicate, List.length_cons, List.length_nil, bindT, bindTs, List.set_cons_zero, List.set_cons_succ, frzF, wipeF, hz, Bool.not_false, Bool.not_true, if_true, idxD, at3, g1, h1, calB, q1, Bool.false_and]
      | true =>
        rw [q1] at h1
        cases q2 : szT b 1 12 with
        | false =>
          rw [q2] at h2
          simp only [s_is_calendar_1, s_is_calendar_2, s_is_calendar_4, s_is_calendar_5, s_is_calendar_6, i_is_calendar, exSs, exS, evE, evEs, evAs, evEo, evC, evSrc, evT, frame, getV, getB, Res.ofO, Res.bind, Res.st, SRes.seq, SRes.out, List.getElem?_cons_zero, List.getElem?_cons_succ, List.cons_append, List.nil_append, List.replicate, List.length_cons, List.length_nil, bindT, bindTs, List.set_cons_zero, List.set_cons_succ, frzF, wipeF, hz, Bool.not_false, Bool.not_true, if_true, idxD, at3, g1, g2, h1, h2, calB, q1, q2, Bool.false_and, Bool.and_false]
        | true =>
          rw [q2] at h2
          cases b with
          | tup ms =>
            have hms := nOs_mem (nO_tup nb)
            have lms : ms.length ≤ sizeLine := smB_le mb.1 ms rfl
            have hc : evE (cf (k + 4)) (cc (k + 4)) T.con T.isa e_is_calendar_3 [.val (.tup [a, .tup ms, c]), .none] o = .ok (.lst (ms.map fun d => D.bl (wi d 1 31))) o := by
              refine comp_ok (ds := ms) (o1 := o) rfl (compL_map fun d hd => ⟨[.val (.tup [a, .tup ms, c]), .val d], rfl, rfl, ?_⟩) (by rw [List.length_map]; exact lms)
              simp only [exSs, exS, evE, evEs, evAs, evEo, evC, evSrc, evT, frame, getV, getB, Res.ofO, Res.bind, Res.st, SRes.seq, SRes.out, List.getElem?_cons_zero, List.getElem?_cons_succ, List.cons_append, List.nil_append, List.replicate, List.length_cons, List.length_nil, bindT, bindTs, List.set_cons_zero, List.set_cons_succ, frzF, wipeF, g3, v_is_within d 1 31 (nO_ok (hms d hd))]
            have hb : blsD (ms.map fun d => D.bl (wi d 1 31)) = some (ms.map fun d => wi d 1 31) := blsD_map _ _
            have ha : (ms.map fun d => wi d 1 31).all id = ms.all fun d => wi d 1 31 := by
              rw [List.all_map]
              rfl
            have h5 := v_is_leap_rule (k := k) (o := o) (ms.length : Int) c nc mc.2
            cases q3 : ms.all fun d => wi d 1 31 with
            | false =>
              simp only [s_is_calendar_1, s_is_calendar_2, s_is_calendar_4, s_is_calendar_5, s_is_calendar_6, i_is_calendar, exSs, exS, evE, evEs, evAs, evEo, evC, evSrc, evT, frame, getV, getB, Res.ofO, Res.bind, Res.st, SRes.seq, SRes.out, List.getElem?_cons_zero, List.getElem?_cons_succ, List.cons_append, List.nil_append, List.replicate, List.length_cons, List.length_nil, bindT, bindTs, List.set_cons_zero, List.set_cons_succ, frzF, wipeF, hz, Bool.not_false, Bool.not_true, if_true, Bool.false_eq_true, if_false, idxD, at3, g1, g2, h1, h2, hc, bifD, hb, Option.map, ha, q3, calB, q1, q2, itm, Bool.false_and, Bool.and_false]
            | true =>
              simp only [s_is_calendar_1, s_is_calendar_2, s_is_calendar_4, s_is_calendar_5, s_is_calendar_6, i_is_calendar, exSs, exS, evE, evEs, evAs, evEo, evC, evSrc, evT, frame, getV, getB, Res.ofO, Res.bind, Res.st, SRes.seq, SRes.out, List.getElem?_cons_zero, List.getElem?_cons_succ, List.cons_append, List.nil_append, List.replicate, List.length_cons, List.length_nil, bindT, bindTs, List.set_cons_zero, List.set_cons_succ, frzF, wipeF, hz, Bool.not_false, Bool.not_true, if_true, Bool.false_eq_true, if_false, idxD, at3, g1, g2, h1, h2, hc, bifD, hb, Option.map, ha, q3, calB, q1, q2, itm, h5, Bool.true_and]
          | _ => cases q2
    | _ => cases q
def isN : D → Bool
  | .int i => decide (0 ≤ i)
  | _ => false
theorem v_is_number (d : D) (h : okD d = true) : cf (k + 2) "is_number" [.val d] o = .ok (.bl (isN d)) o := by
  rw [cf_succ f_is_number rfl]
  simp only [s_is_number_1, i_is_number, exSs, exS, evE, evEs, evAs, evEo, evC, evSrc, evT, frame, getV, getB, Res.ofO, Res.bind, Res.st, SRes.seq, SRes.out, List.getElem?_cons_zero, List.getElem?_cons_succ, List.cons_append, List.nil_append, List.replicate, List.length_cons, List.length_nil, bindT, bindTs, List.set_cons_zero, List.set_cons_succ, frzF, wipeF, v_is_integer d h]
  cases d <;> first
    | (cases h; done)
    | rfl
theorem v_check_calendar (d : D) (h : nO d = true) (hm : sm2 d = true) : cf (k + 6) "check_calendar" [.val d] o = if calB d then .ok .non o else .err "NoCalendar" [] o := by
  rw [cf_succ f_check_calendar rfl]
  simp only [s_check_calendar_1, s_check_calendar_2, i_check_calendar, exSs, exS, evE, evEs, evAs, evEo, evC, evSrc, evT, frame, getV, getB, Res.ofO, Res.bind, Res.st, SRes.seq, SRes.out, List.getElem?_cons_zero, List.getElem?_cons_succ, List.cons_append, List.nil_append, List.replicate, List.length_cons, List.length_nil, bindT, bindTs, List.set_cons_zero, List.set_cons_succ, frzF, wipeF, v_is_calendar d h hm]
  cases calB d <;> rfl
theorem v_check_year (d y : D) (h : nO d = true) (hm : sm2 d = true) (hy : okD y = true) : cf (k + 7) "check_year" [.val d, .val y] o = if calB d then (if isN y then .ok .non o else .err "NoYear" [] o) else .err "NoCalendar" [] o := by
  have z := v_check_calendar (k := k) (o := o) d h hm
  have z2 := v_is_number (k := k + 4) (o := o) y hy
  rw [cf_succ f_check_year rfl]
  cases q : calB d with
  | false =>
    rw [q] at z
    simp only [Bool.false_eq_true, if_false] at z
    simp only [s_check_year_1, s_check_year_2, s_check_year_3, i_check_year, exSs, exS, evE, evEs, evAs, evEo, evC, evSrc, evT, frame, getV, getB, Res.ofO, Res.bind, Res.st, SRes.seq, SRes.out, List.getElem?_cons_zero, List.getElem?_cons_succ, List.cons_append, List.nil_append, List.replicate, List.length_cons, List.length_nil, bindT, bindTs, List.set_cons_zero, List.set_cons_succ, frzF, wipeF, z, Bool.false_eq_true, if_false]
  | true =>
    rw [q] at z
    simp only [if_true] at z
    simp only [s_check_year_1, s_check_year_2, s_check_year_3, i_check_year, exSs, exS, evE, evEs, evAs, evEo, evC, evSrc, evT, frame, getV, getB, Res.ofO, Res.bind, Res.st, SRes.seq, SRes.out, List.getElem?_cons_zero, List.getElem?_cons_succ, List.cons_append, List.nil_append, List.replicate, List.length_cons, List.length_nil, bindT, bindTs, List.set_cons_zero, List.set_cons_succ, frzF, wipeF, z, z2, if_true]
    cases isN y <;> rfl
/-- what the last check asks -/
def moB (d m : D) : Bool := match d with
  | .tup [_, b, _] => wi m 0 ((itm b).length - 1)
  | _ => false
theorem v_check_month (d y m : D) (h : nO d = true) (hm : sm2 d = true) (hy : okD y = true) (hmo : okD m = true) : cf (k + 8) "check_month" [.val d, .val y, .val m] o = if calB d then (if isN y then (if moB d m then .ok .non o else .err "NoMonth" [] o) else .err "NoYear" [] o) else .err "NoCalendar" [] o := by
  have z := v_check_year (k := k) (o := o) d y h hm hy
  rw [cf_succ f_check_month rfl]
  cases q : calB d with
  | false =>
    rw [q] at z
    simp only [Bool.false_eq_true, if_false] at z
    simp only [s_check_month_1, s_check_month_2, s_check_month_3, i_check_month, exSs, exS, evE, evEs, evAs, evEo, evC, evSrc, evT, frame, getV, getB, Res.ofO, Res.bind, Res.st, SRes.seq, SRes.out, List.getElem?_cons_zero, List.getElem?_cons_succ, List.cons_append, List.nil_append, List.replicate, List.length_cons, List.length_nil, bindT, bindTs, List.set_cons_zero, List.set_cons_succ, frzF, wipeF, z, Bool.false_eq_true, if_false]
  | true =>
    rw [q] at z
    simp only [if_true] at z
    cases q2 : isN y with
    | false =>
      rw [q2] at z
      simp only [Bool.false_eq_true, if_false] at z
      simp only [s_check_month_1, s_check_month_2, s_check_month_3, i_check_month, exSs, exS, evE, evEs, evAs, evEo, evC, evSrc, evT, frame, getV, getB, Res.ofO, Res.bind, Res.st, SRes.seq, SRes.out, List.getElem?_cons_zero, List.getElem?_cons_succ, List.cons_append, List.nil_append, List.replicate, List.length_cons, List.length_nil, bindT, bindTs, List.set_cons_zero, List.set_cons_succ, frzF, wipeF, z, Bool.false_eq_true, if_false, if_true]
    | true =>
      rw [q2] at z
      simp only [if_true] at z
      have q' := q
      unfold calB at q'
      split at q'
      · rename_i a b c
        rw [Bool.and_eq_true, Bool.and_eq_true] at q'
        cases b with
        | tup ms =>
          have w := v_is_within (k := k + 5) (o := o) m 0 ((ms.length : Int) - 1) hmo
          have es : binD .Sub (.int ms.length) (.int 1) = some (.int ((ms.length : Int) - 1)) := rfl
          cases q3 : wi m 0 ((ms.length : Int) - 1) with
          | false =>
            rw [q3] at w
            simp only [s_check_month_1, s_check_month_2, s_check_month_3, i_check_month, exSs, exS, evE, evEs, evAs, evEo, evC, evSrc, evT, frame, getV, getB, Res.ofO, Res.bind, Res.st, SRes.seq, SRes.out, List.getElem?_cons_zero, List.getElem?_cons_succ, List.cons_append, List.nil_append, List.replicate, List.length_cons, List.length_nil, bindT, bindTs, List.set_cons_zero, List.set_cons_succ, frzF, wipeF, z, if_true, idxD, at3, bifD, es, w, moB, itm, q3, Bool.not_false, Bool.false_eq_true, if_false]
          | true =>
            rw [q3] at w
            simp only [s_check_month_1, s_check_month_2, s_check_month_3, i_check_month, exSs, exS, evE, evEs, evAs, evEo, evC, evSrc, evT, frame, getV, getB, Res.ofO, Res.bind, Res.st, SRes.seq, SRes.out, List.getElem?_cons_zero, List.getElem?_cons_succ, List.cons_append, List.nil_append, List.replicate, List.length_cons, List.length_nil, bindT, bindTs, List.set_cons_zero, List.set_cons_succ, frzF, wipeF, z, if_true, idxD, at3, bifD, es, w, moB, itm, q3, Bool.not_true, Bool.false_eq_true, if_false]
        | _ => cases q'.1.2
      · cases q'
end
end K00

set_option maxHeartbeats 2000000
/-! K00f: years and months of a calendar. -/
namespace K00
open PySem Ev
theorem eqI (a b : Int) : eqD (.int a) (.int b) = some (decide (a = b)) := by
  show (if (SeqAt.shaped (.int a) && SeqAt.shaped (.int b)) = true then some (PyData.eqv (.int a) (.int b)) else none) = _
  have s : ∀ i : Int, SeqAt.shaped (.int i) = true := fun i => by rfl
  rw [s, s]
  show some (PyData.eqv (.int a) (.int b)) = _
  congr 1
theorem atI_nat {α : Type} {l : List α} {i : Nat} (h : i < l.length) : L2.atI l (i : Int) = some l[i] := by
  unfold L2.atI L2.ixN
  rw [if_pos (by omega), if_pos (by omega)]
  simp [h]
section
variable {k : Nat} {o : Objs} {c : Cal} {y : Int} {i : Nat}
def mlen (c : Cal) (y : Int) (i : Nat) : Int := c.ms.getD i 0 + if ((i : Int) = c.mo) ∧ lpB c y = true then c.mr else 0
theorem at_ms (h : i < c.ms.length) : L2.atI (c.ms.map D.int) (i : Int) = some (.int (c.ms.getD i 0)) := by
  rw [atI_nat (by rw [List.length_map]; exact h)]
  simp [List.getD, h]
theorem v_raw_month_days (C : c.Ok) (h : i < c.ms.length) : cf (k + 2) "raw_month_days" [.val c.d, .val (.int y), .val (.int (i : Int))] o = .ok (.int (mlen c y i)) o := by
  have z := v_raw_is_leap (k := k) (o := o) (y := y) C
  have e : (Cal.d c) = .tup [.int c.w, iT c.ms, c.leap] := rfl
  have el : c.leap = .tup [.int c.cy, iT c.ls, .int c.mo, .int c.mr] := rfl
  have em := at_ms h
  rw [cf_succ f_raw_month_days rfl]
  cases q : decide ((i : Int) = c.mo) with
  | false =>
    have hne : ¬ ((i : Int) = c.mo) := of_decide_eq_false q
    have ev : mlen c y i = c.ms.getD i 0 + 0 := by
      unfold mlen
      rw [if_neg fun z => hne z.1]
    rw [ev]
    simp only [s_raw_month_days_1, s_raw_month_days_2, i_raw_month_days, exSs, exS, evE, evEs, evAs, evEo, evC, evSrc, evT, frame, getV, getB, Res.ofO, Res.bind, Res.st, SRes.seq, SRes.out, List.getElem?_cons_zero, List.getElem?_cons_succ, List.cons_append, List.nil_append, List.replicate, List.length_cons, List.length_nil, bindT, bindTs, List.set_cons_zero, List.set_cons_succ, frzF, wipeF, e, el, idxD, at3, at4, cmpD, eqI, Option.map, q, iT, em, binD]
  | true =>
    have heq : (i : Int) = c.mo := of_decide_eq_true q
    rw [e, el] at z
    unfold iT at z
    cases q2 : lpB c y with
    | false =>
      rw [q2] at z
      have ev : mlen c y i = c.ms.getD i 0 + 0 := by
        unfold mlen
        rw [if_neg fun z => by rw [q2] at z; exact absurd z.2 Bool.false_ne_true]
      rw [ev]
      simp only [s_raw_month_days_1, s_raw_month_days_2, i_raw_month_days, exSs, exS, evE, evEs, evAs, evEo, evC, evSrc, evT, frame, getV, getB, Res.ofO, Res.bind, Res.st, SRes.seq, SRes.out, List.getElem?_cons_zero, List.getElem?_cons_succ, List.cons_append, List.nil_append, List.replicate, List.length_cons, List.length_nil, bindT, bindTs, List.set_cons_zero, List.set_cons_succ, frzF, wipeF, e, el, idxD, at3, at4, cmpD, eqI, Option.map, q, iT, em, binD, z]
    | true =>
      rw [q2] at z
      have ev : mlen c y i = c.ms.getD i 0 + c.mr := by
        unfold mlen
        rw [if_pos ⟨heq, q2⟩]
      rw [ev]
      simp only [s_raw_month_days_1, s_raw_month_days_2, i_raw_month_days, exSs, exS, evE, evEs, evAs, evEo, evC, evSrc, evT, frame, getV, getB, Res.ofO, Res.bind, Res.st, SRes.seq, SRes.out, List.getElem?_cons_zero, List.getElem?_cons_succ, List.cons_append, List.nil_append, List.replicate, List.length_cons, List.length_nil, bindT, bindTs, List.set_cons_zero, List.set_cons_succ, frzF, wipeF, e, el, idxD, at3, at4, cmpD, eqI, Option.map, q, iT, em, binD, z]
theorem sum_bd : ∀ {l : List Int}, (∀ m ∈ l, 1 ≤ m ∧ m ≤ 31) → 0 ≤ l.sum ∧ l.sum ≤ 31 * l.length
  | [], _ => by simp
  | a :: l, h => by
    have h1 := h a List.mem_cons_self
    have h2 := sum_bd fun m hm => h m (List.mem_cons_of_mem _ hm)
    rw [List.sum_cons, List.length_cons]
    omega
theorem small {i : Int} (h1 : -(10 ^ 60) ≤ i) (h2 : i ≤ 10 ^ 60) : i.natAbs < 2 ^ 400 := by
  have : (10 ^ 60 : Nat) < 2 ^ 400 := by decide
  omega
def cyd (c : Cal) : Int := c.cy * c.ms.sum + c.ls.length * c.mr
theorem Cal.Ok.sum (C : c.Ok) : 0 ≤ c.ms.sum ∧ c.ms.sum ≤ 124 := by
  have z := sum_bd C.mm
  have := C.m2
  omega
theorem cyd_bd (C : c.Ok) : 0 ≤ cyd c ∧ cyd c ≤ 4000 := by
  unfold cyd
  have z := C.sum
  have h1 := C.c1
  have h2 := C.c2
  have h3 := C.ln
  have h4 := C.r1
  have h5 := C.r2
  have a1 : 0 ≤ c.cy * c.ms.sum := Int.mul_nonneg (by omega) z.1
  have a2 : c.cy * c.ms.sum ≤ 28 * 124 := Int.mul_le_mul h2 z.2 z.1 (by omega)
  have b1 : 0 ≤ (c.ls.length : Int) * c.mr := Int.mul_nonneg (by omega) (by omega)
  have b2 : (c.ls.length : Int) * c.mr ≤ 28 * 3 := Int.mul_le_mul (by omega) h5 (by omega) (by omega)
  omega
theorem len_iT (l : List Int) : bifD .len [iT l] = some (.int l.length) := by
  unfold iT
  simp only [bifD, List.length_map]
theorem v_raw_cycle_days (C : c.Ok) : cf (k + 1) "raw_cycle_days" [.val c.d] o = .ok (.int (cyd c)) o := by
  have e : (Cal.d c) = .tup [.int c.w, iT c.ms, c.leap] := rfl
  have el : c.leap = .tup [.int c.cy, iT c.ls, .int c.mo, .int c.mr] := rfl
  have z := C.sum
  have h1 := C.c1
  have h2 := C.c2
  have h3 := C.ln
  have h4 := C.r1
  have h5 := C.r2
  have m1 : mulOk c.cy c.ms.sum = true := mulOk_of (small (by omega) (by omega)) (small (by omega) (by omega))
  have m2 : mulOk (c.ls.length : Int) c.mr = true := mulOk_of (small (by omega) (by omega)) (small (by omega) (by omega))
  rw [cf_succ f_raw_cycle_days rfl]
  simp only [s_raw_cycle_days_1, i_raw_cycle_days, exSs, exS, evE, evEs, evAs, evEo, evC, evSrc, evT, frame, getV, getB, Res.ofO, Res.bind, Res.st, SRes.seq, SRes.out, List.getElem?_cons_zero, List.getElem?_cons_succ, List.cons_append, List.nil_append, List.replicate, List.length_cons, List.length_nil, bindT, bindTs, List.set_cons_zero, List.set_cons_succ, frzF, wipeF, e, el, idxD, at3, at4, sumD, len_iT, binD, m1, m2, if_true, cyd]
def leaps (c : Cal) (r : Int) : Int := (c.ls.filter fun l => decide (l < r)).length
def ybg (c : Cal) (y : Int) : Int := y / c.cy * cyd c + y % c.cy * c.ms.sum + leaps c (y % c.cy) * c.mr
theorem v_raw_year_begins (C : c.Ok) (h0 : 0 ≤ y) (hy : y ≤ 10 ^ 40) : cf (k + 2) "raw_year_begins" [.val c.d, .val (.int y)] o = .ok (.int (ybg c y)) o := by
  have e : (Cal.d c) = .tup [.int c.w, iT c.ms, c.leap] := rfl
  have el : c.leap = .tup [.int c.cy, iT c.ls, .int c.mo, .int c.mr] := rfl
  have z := C.sum
  have h1 := C.c1
  have h2 := C.c2
  have h3 := C.ln
  have h4 := C.r1
  have h5 := C.r2
  have g1 : decide (0 < c.cy) = true := decide_eq_true (by omega)
  have g2 : divOk c.cy = true := by
    have l : c.cy.natAbs.log2 < 9000 := (Nat.log2_lt (by omega)).mpr (by
      have : (28 : Nat) < 2 ^ 9000 := Nat.lt_of_lt_of_le (show 28 < 2 ^ 5 by decide) (Nat.pow_le_pow_right (by decide) (by decide))
      omega)
    unfold divOk
    rw [g1, decide_eq_true l]
    rfl
  have r1 := Int.emod_nonneg y (show c.cy ≠ 0 by omega)
  have r2 := Int.emod_lt_of_pos y (show 0 < c.cy by omega)
  have d1 : 0 ≤ y / c.cy := Int.ediv_nonneg h0 (by omega)
  have d2 : y / c.cy ≤ y := Int.ediv_le_self _ h0
  have bl := cyd_bd C
  have lf : (c.ls.filter fun l => decide (l < y % c.cy)).length ≤ 28 := Nat.le_trans (List.length_filter_le _ _) h3
  have m1 : mulOk (y / c.cy) (cyd c) = true := mulOk_of (small (by omega) (by omega)) (small (by omega) (by omega))
  have m2 : mulOk (y % c.cy) c.ms.sum = true := mulOk_of (small (by omega) (by omega)) (small (by omega) (by omega))
  have m3 : mulOk (leaps c (y % c.cy)) c.mr = true := mulOk_of (small (by unfold leaps; omega) (by unfold leaps; omega)) (small (by omega) (by omega))
  have hc : evE (cf (k + 1)) (cc (k + 1)) T.con T.isa e_raw_year_begins_2 [.val c.d, .val (.int y), .val (.int (y / c.cy)), .val (.int (y % c.cy)), .none, .none] o = .ok (.lst ((c.ls.filter fun l => decide (l < y % c.cy)).map D.int)) o := by
    refine comp_ok (ds := c.ls.map D.int) (o1 := o) ?_ ?_ (by rw [List.length_map]; unfold sizeLine; omega)
    · simp only [exSs, exS, evE, evEs, evAs, evEo, evC, evSrc, evT, frame, getV, getB, Res.ofO, Res.bind, Res.st, SRes.seq, SRes.out, List.getElem?_cons_zero, List.getElem?_cons_succ, List.cons_append, List.nil_append, List.replicate, List.length_cons, List.length_nil, bindT, bindTs, List.set_cons_zero, List.set_cons_succ, frzF, wipeF, e, el, idxD, at3, at4, iT]
    · have z := compL_pure (o := o) (f := id) (p := fun d => decide (toI d < y % c.cy)) (ds := c.ls.map D.int) (bd := fun d => bindT (.name 5) d (wipeF [.val c.d, .val (.int y), .val (.int (y / c.cy)), .val (.int (y % c.cy)), .none, .none] [5])) (cnd := fun ρ' o' => evC (cf (k + 1)) (cc (k + 1)) T.con T.isa (.some (.cmp .Lt (.bor 5) (.bor 3))) ρ' o') (el := fun ρ' o' => evE (cf (k + 1)) (cc (k + 1)) T.con T.isa (.var 5) ρ' o') fun d hd => by
        obtain ⟨l, _, rfl⟩ := List.mem_map.mp hd
        exact ⟨_, rfl, rfl, fun _ => rfl⟩
      rw [List.map_id, List.filter_map] at z
      exact z
  have ll : bifD .len [.lst ((c.ls.filter fun l => decide (l < y % c.cy)).map D.int)] = some (.int (leaps c (y % c.cy))) := by
    simp only [bifD, List.length_map, leaps]
  have zc := v_raw_cycle_days (k := k) (o := o) C
  have s1 : exS (cf (k + 1)) (cc (k + 1)) T.con T.isa 100 s_raw_year_begins_1 [.val c.d, .val (.int y), .none, .none, .none, .none] o = .nx [.val c.d, .val (.int y), .val (.int (y / c.cy)), .val (.int (y % c.cy)), .none, .none] o := by
    have s2 : sz 2 = true := by decide
    simp only [s_raw_year_begins_1, exSs, exS, evE, evEs, evAs, evEo, evC, evSrc, evT, frame, getV, getB, Res.ofO, Res.bind, Res.st, SRes.seq, SRes.out, List.getElem?_cons_zero, List.getElem?_cons_succ, List.cons_append, List.nil_append, List.replicate, List.length_cons, List.length_nil, bindT, bindTs, List.set_cons_zero, List.set_cons_succ, frzF, wipeF, e, el, idxD, at3, at4, binD, g1, g2, if_true, s2]
  rw [cf_succ f_raw_year_begins rfl]
  show ((exSs (cf (k + 1)) (cc (k + 1)) T.con T.isa 100 (.cons s_raw_year_begins_1 (.cons s_raw_year_begins_3 (.cons s_raw_year_begins_4 .nil))) [.val c.d, .val (.int y), .none, .none, .none, .none] o).out) = _
  rw [exSs, s1]
  have s3 : exS (cf (k + 1)) (cc (k + 1)) T.con T.isa 100 s_raw_year_begins_3 [.val c.d, .val (.int y), .val (.int (y / c.cy)), .val (.int (y % c.cy)), .none, .none] o = .nx [.val c.d, .val (.int y), .val (.int (y / c.cy)), .val (.int (y % c.cy)), .val (.int (leaps c (y % c.cy))), .none] o := by
    simp only [s_raw_year_begins_3, exSs, exS, evE, evEs, evAs, evEo, evC, evSrc, evT, frame, getV, getB, Res.ofO, Res.bind, Res.st, SRes.seq, SRes.out, List.getElem?_cons_zero, List.getElem?_cons_succ, List.cons_append, List.nil_append, List.replicate, List.length_cons, List.length_nil, bindT, bindTs, List.set_cons_zero, List.set_cons_succ, frzF, wipeF, hc, ll]
  show ((exSs (cf (k + 1)) (cc (k + 1)) T.con T.isa 100 (.cons s_raw_year_begins_3 (.cons s_raw_year_begins_4 .nil)) [.val c.d, .val (.int y), .val (.int (y / c.cy)), .val (.int (y % c.cy)), .none, .none] o).out) = _
  rw [exSs, s3]
  show ((exSs (cf (k + 1)) (cc (k + 1)) T.con T.isa 100 (.cons s_raw_year_begins_4 .nil) [.val c.d, .val (.int y), .val (.int (y / c.cy)), .val (.int (y % c.cy)), .val (.int (leaps c (y % c.cy))), .none] o).out) = _
  rw [e, el] at zc
  simp only [s_raw_year_begins_4, exSs, exS, evE, evEs, evAs, evEo, evC, evSrc, evT, frame, getV, getB, Res.ofO, Res.bind, Res.st, SRes.seq, SRes.out, List.getElem?_cons_zero, List.getElem?_cons_succ, List.cons_append, List.nil_append, List.replicate, List.length_cons, List.length_nil, bindT, bindTs, List.set_cons_zero, List.set_cons_succ, frzF, wipeF, e, el, idxD, at3, at4, zc, sumD, binD, m1, m2, m3, if_true, ybg]
end
end K00

set_option maxHeartbeats 2000000
/-! K00g: the program's functions on a good calendar. -/
namespace K00
open PySem Ev
section
variable {k : Nat} {o : Objs} {c : Cal} {y : Int} {i : Nat}
theorem range0 {j : Nat} : rangeD 0 (j : Int) = (List.range j).map fun (n : Nat) => D.int (n : Int) := by
  unfold rangeD
  simp
theorem rng_ok {j : Nat} (h : j ≤ 1000) : rngOk (j : Int) = true := by
  unfold rngOk
  have a : (-(2 ^ 62) : Int) ≤ 0 := by decide
  have b : (1000 : Int) < 2 ^ 62 := by decide
  rw [Bool.and_eq_true, decide_eq_true_eq, decide_eq_true_eq]
  exact ⟨Int.le_trans a (Int.natCast_nonneg j), Int.lt_of_le_of_lt (Int.ofNat_le.mpr h) b⟩
theorem lt_ms (C : c.Ok) (hi : i ≤ c.ms.length) : i ≤ 1000 ∧ i ≤ sizeLine := by
  have hm := C.m2
  have z : (4 : Nat) ≤ sizeLine := Nat.le_of_ble_eq_true rfl
  exact ⟨by omega, Nat.le_trans (Nat.le_trans hi hm) z⟩
/-! ### it is a calendar -/
theorem nOs_iT : ∀ l : List Int, nOs (l.map D.int) = true
  | [] => by unfold nOs; rfl
  | a :: l => by
    rw [List.map_cons]
    unfold nOs nO
    exact nOs_iT l
theorem nO_iT (l : List Int) : nO (iT l) = true := by
  unfold iT nO
  exact nOs_iT l
theorem nO_int (i : Int) : nO (.int i) = true := by unfold nO; rfl
theorem nO_tup_of {ds : List D} (h : ∀ d ∈ ds, nO d = true) : nO (.tup ds) = true := by
  unfold nO
  induction ds with
  | nil => unfold nOs; rfl
  | cons a ds ih =>
    unfold nOs
    rw [h a List.mem_cons_self, ih fun d hd => h d (List.mem_cons_of_mem _ hd)]
    rfl
theorem nO_d (c : Cal) : nO c.d = true := nO_tup_of fun d hd => by
  simp only [List.mem_cons, List.not_mem_nil, or_false] at hd
  rcases hd with rfl | rfl | rfl
  · exact nO_int _
  · exact nO_iT _
  · refine nO_tup_of fun d hd => ?_
    simp only [List.mem_cons, List.not_mem_nil, or_false] at hd
    rcases hd with rfl | rfl | rfl | rfl
    · exact nO_int _
    · exact nO_iT _
    · exact nO_int _
    · exact nO_int _
theorem sm_int (i : Int) : smB (.int i) = true := rfl
theorem sm_iT {l : List Int} (h : l.length ≤ 1000) : smB (iT l) = true := by
  show decide ((l.map D.int).length ≤ 1000) = true
  rw [List.length_map]
  exact decide_eq_true h
theorem sm1_iT (l : List Int) : sm1 (iT l) = true := by
  show ((l.map D.int).all smB) = true
  rw [List.all_map]
  exact List.all_eq_true.mpr fun _ _ => rfl
theorem sm2_d (C : c.Ok) : sm2 c.d = true := by
  have h1 := C.m2
  have h2 := C.ln
  have a := sm_iT (l := c.ms) (by omega)
  have b := sm_iT (l := c.ls) (by omega)
  have l1 : smB c.leap = true := rfl
  have l2 : sm1 c.leap = true := by
    show (smB (.int c.cy) && (smB (iT c.ls) && (smB (.int c.mo) && (smB (.int c.mr) && true)))) = true
    rw [b]
    rfl
  show ((smB (.int c.w) && sm1 (.int c.w)) && ((smB (iT c.ms) && sm1 (iT c.ms)) && ((smB c.leap && sm1 c.leap) && true))) = true
  rw [a, sm1_iT, l1, l2]
  rfl
theorem all_wi {l : List Int} {a b : Int} (h : ∀ i ∈ l, a ≤ i ∧ i ≤ b) : ((l.map D.int).all fun d => wi d a b) = true := by
  rw [List.all_map, List.all_eq_true]
  intro i hi
  show (decide (a ≤ i) && decide (i ≤ b)) = true
  rw [decide_eq_true (h i hi).1, decide_eq_true (h i hi).2]
  rfl
theorem wi_of {i a b : Int} (h1 : a ≤ i) (h2 : i ≤ b) : wi (.int i) a b = true := by
  show (decide (a ≤ i) && decide (i ≤ b)) = true
  rw [decide_eq_true h1, decide_eq_true h2]
  rfl
theorem calB_d (C : c.Ok) : calB c.d = true := by
  have e1 := wi_of C.w1 C.w2
  have e2 : szT (iT c.ms) 1 12 = true := by
    have h1 := C.m1
    have h2 := C.m2
    show (decide ((1 : Int) ≤ ((c.ms.map D.int).length : Int)) && decide (((c.ms.map D.int).length : Int) ≤ 12)) = true
    rw [List.length_map, decide_eq_true (by omega), decide_eq_true (by omega)]
    rfl
  have e3 := all_wi C.mm
  have e4 := wi_of C.c1 C.c2
  have e5 : ((c.ls.map D.int).all fun d => wi d 0 (c.cy - 1)) = true := all_wi fun i hi => by
    have := C.ll i hi
    omega
  have e6 : lotB (iT c.ls) c.cy = true := by
    show (((c.ls.map D.int).all fun d => wi d 0 (c.cy - 1)) && ris ((c.ls.map D.int).filterMap asI)) = true
    rw [e5, fm_ints, C.lr]
    rfl
  have e7 : wi (.int c.mo) 0 ((((c.ms.map D.int).length : Nat) : Int) - 1) = true := by
    have := C.o2
    rw [List.length_map]
    exact wi_of C.o1 (by omega)
  have e8 := wi_of C.r1 C.r2
  show ((wi (.int c.w) 1 10 && szT (iT c.ms) 1 12) && (((c.ms.map D.int).all fun m => wi m 1 31) && ((wi (.int c.cy) 1 28 && lotB (iT c.ls) c.cy) && (wi (.int c.mo) 0 ((((c.ms.map D.int).length : Nat) : Int) - 1) && wi (.int c.mr) 1 3)))) = true
  rw [e1, e2, e3, e4, e6, e7, e8]
  rfl
end
end K00

set_option maxHeartbeats 2000000
/-! K00j: the hand that draws. -/
namespace K00
open PySem Ev
theorem at5 {a b c d e : D} : L2.atI [a, b, c, d, e] 0 = some a ∧ L2.atI [a, b, c, d, e] 1 = some b ∧ L2.atI [a, b, c, d, e] 2 = some c ∧ L2.atI [a, b, c, d, e] 3 = some d ∧ L2.atI [a, b, c, d, e] 4 = some e := ⟨rfl, rfl, rfl, rfl, rfl⟩
theorem put5 {a b c d e v : D} : putD [a, b, c, d, e] 1 v = some [a, v, c, d, e] ∧ putD [a, b, c, d, e] 2 v = some [a, b, v, d, e] ∧ putD [a, b, c, d, e] 3 v = some [a, b, c, v, e] ∧ putD [a, b, c, d, e] 4 v = some [a, b, c, d, v] := ⟨rfl, rfl, rfl, rfl⟩
def hnd (cs : List Int) (ix : Nat) (cu se cn : Int) : SObj := .lst [.lst (cs.map D.int), .int (ix : Int), .int cu, .int se, .int cn]
/-- the hand stands; n drawings are left at least -/
structure HdOk (n : Nat) (cs : List Int) (ix : Nat) (cu se cn : Int) : Prop where
  ix : ix ≤ cs.length
  len : cs.length ≤ 60
  cs : ∀ c ∈ cs, 0 ≤ c ∧ c < 10 ^ 36
  cu : 0 ≤ cu ∧ cu < 10 ^ 36
  se : 0 ≤ se ∧ se < 10 ^ 12
  cn : 0 ≤ cn ∧ cn + n ≤ 10 ^ 9
def Hd (n : Nat) (o : Objs) : Prop := ∃ (cs : List Int) (ix : Nat) (cu se cn : Int), o = [hnd cs ix cu se cn] ∧ HdOk n cs ix cu se cn
theorem Hd.le {n m : Nat} {o : Objs} (h : Hd n o) (hm : m ≤ n) : Hd m o := by
  obtain ⟨cs, ix, cu, se, cn, e, z⟩ := h
  have := z.cn
  exact ⟨cs, ix, cu, se, cn, e, z.ix, z.len, z.cs, z.cu, z.se, by omega⟩
section
variable {k n : Nat} {o : Objs} {m : Int}
theorem mulOk_lit {i j : Int} (h1 : 0 ≤ i) (h2 : i ≤ 10 ^ 40) (h3 : 0 ≤ j) (h4 : j ≤ 10 ^ 40) : mulOk i j = true := mulOk_of (small (by omega) (by omega)) (small (by omega) (by omega))
theorem divOk_lit {j : Int} (h1 : 0 < j) (h2 : j ≤ 10 ^ 40) : divOk j = true := by
  have l : j.natAbs.log2 < 9000 := (Nat.log2_lt (by omega)).mpr (by
    have : (10 ^ 40 : Nat) < 2 ^ 9000 := Nat.lt_of_lt_of_le (show 10 ^ 40 < 2 ^ 140 by decide) (Nat.pow_le_pow_right (by decide) (by decide))
    omega)
  unfold divOk
  rw [decide_eq_true h1, decide_eq_true l]
  rfl
def tl9 : ISs := (.cons s__law_draw_9 (.cons s__law_draw_10 (.cons s__law_draw_11 (.cons s__law_draw_12 (.cons s__law_draw_13 (.cons s__law_draw_14 .nil))))))
def tl10 : ISs := (.cons s__law_draw_10 (.cons s__law_draw_11 (.cons s__law_draw_12 (.cons s__law_draw_13 (.cons s__law_draw_14 .nil)))))
theorem p18 : binD .Pow (.int 10) (.int 18) = some (.int (10 ^ 18)) := by rfl
theorem draw_mix {cs : List Int} {x : Slot} {ix : Nat} {cu se cn : Int} (H : HdOk (n + 1) cs ix cu se cn) (h1 : 1 ≤ m) (h2 : m ≤ 10 ^ 40) : ∃ (d : Int) (o' : Objs), (exSs (cf k) (cc k) T.con T.isa 100 tl10 [.val (.obj 0), .val (.int m), x, .none, .none] [hnd cs ix cu se cn]).out = .ok (.int d) o' ∧ (0 ≤ d ∧ d < m) ∧ Hd n o' := by
  have hse := H.se
  have hcn := H.cn
  have e10 : exS (cf k) (cc k) T.con T.isa 100 s__law_draw_10 [.val (.obj 0), .val (.int m), x, .none, .none] [hnd cs ix cu se cn] = .nx [.val (.obj 0), .val (.int m), x, .none, .none] [hnd cs ix cu se (cn + 1)] := by
    simp only [s__law_draw_10, exSs, exS, evE, evEs, evAs, evEo, evC, evSrc, evT, frame, getV, getB, Res.ofO, Res.bind, Res.st, SRes.seq, SRes.out, List.getElem?_cons_zero, List.getElem?_cons_succ, List.cons_append, List.nil_append, List.replicate, List.length_cons, List.length_nil, bindT, bindTs, List.set_cons_zero, List.set_cons_succ, frzF, wipeF, hnd, idxD, at5, binD, put5]
  have a1 : mulOk 7919 (cn + 1) = true := mulOk_lit (by omega) (by omega) (by omega) (by omega)
  have a2 : mulOk (se + 7919 * (cn + 1)) 48271 = true := mulOk_lit (by omega) (by omega) (by omega) (by omega)
  have a3 : decide ((0 : Int) < 2147483647) = true := by decide
  have a4 : decide ((0 : Int) < 2147483399) = true := by decide
  have b1 : 0 ≤ ((se + 7919 * (cn + 1)) * 48271) % 2147483647 ∧ ((se + 7919 * (cn + 1)) * 48271) % 2147483647 < 2147483647 := ⟨Int.emod_nonneg _ (by omega), Int.emod_lt_of_pos _ (by omega)⟩
  generalize hg1 : ((se + 7919 * (cn + 1)) * 48271) % 2147483647 = n1 at b1
  have e11 : exS (cf k) (cc k) T.con T.isa 100 s__law_draw_11 [.val (.obj 0), .val (.int m), x, .none, .none] [hnd cs ix cu se (cn + 1)] = .nx [.val (.obj 0), .val (.int m), x, .none, .val (.int n1)] [hnd cs ix cu se (cn + 1)] := by
    simp only [s__law_draw_11, exSs, exS, evE, evEs, evAs, evEo, evC, evSrc, evT, frame, getV, getB, Res.ofO, Res.bind, Res.st, SRes.seq, SRes.out, List.getElem?_cons_zero, List.getElem?_cons_succ, List.cons_append, List.nil_append, List.replicate, List.length_cons, List.length_nil, bindT, bindTs, List.set_cons_zero, List.set_cons_succ, frzF, wipeF, hnd, idxD, at5, binD, bifD, a1, a2, a3, if_true, hg1]
  have c0 : 0 ≤ n1 / 1009 ∧ n1 / 1009 ≤ n1 := by omega
  have c1 : mulOk n1 (n1 / 1009 + 69621) = true := mulOk_lit (by omega) (by omega) (by omega) (by omega)
  have c2 : divOk 1009 = true := divOk_lit (by omega) (by omega)
  have c3 : divOk 2003 = true := divOk_lit (by omega) (by omega)
  have c4 : divOk 16 = true := divOk_lit (by omega) (by omega)
  have b2 : 0 ≤ (n1 * (n1 / 1009 + 69621)) % 2147483647 ∧ (n1 * (n1 / 1009 + 69621)) % 2147483647 < 2147483647 := ⟨Int.emod_nonneg _ (by omega), Int.emod_lt_of_pos _ (by omega)⟩
  generalize hg2 : (n1 * (n1 / 1009 + 69621)) % 2147483647 = n2 at b2
  have e12 : exS (cf k) (cc k) T.con T.isa 100 s__law_draw_12 [.val (.obj 0), .val (.int m), x, .none, .val (.int n1)] [hnd cs ix cu se (cn + 1)] = .nx [.val (.obj 0), .val (.int m), x, .none, .val (.int n2)] [hnd cs ix cu se (cn + 1)] := by
    simp only [s__law_draw_12, exSs, exS, evE, evEs, evAs, evEo, evC, evSrc, evT, frame, getV, getB, Res.ofO, Res.bind, Res.st, SRes.seq, SRes.out, List.getElem?_cons_zero, List.getElem?_cons_succ, List.cons_append, List.nil_append, List.replicate, List.length_cons, List.length_nil, bindT, bindTs, List.set_cons_zero, List.set_cons_succ, frzF, wipeF, binD, bifD, c1, c2, a3, if_true, hg2]
  have d0 : 0 ≤ n2 / 2003 ∧ n2 / 2003 ≤ n2 := by omega
  have d1 : mulOk n2 (n2 / 2003 + 40692) = true := mulOk_lit (by omega) (by omega) (by omega) (by omega)
  generalize hg3 : (n2 * (n2 / 2003 + 40692)) % 2147483399 = n3
  have e13 : exS (cf k) (cc k) T.con T.isa 100 s__law_draw_13 [.val (.obj 0), .val (.int m), x, .none, .val (.int n2)] [hnd cs ix cu se (cn + 1)] = .nx [.val (.obj 0), .val (.int m), x, .none, .val (.int n3)] [hnd cs ix cu se (cn + 1)] := by
    simp only [s__law_draw_13, exSs, exS, evE, evEs, evAs, evEo, evC, evSrc, evT, frame, getV, getB, Res.ofO, Res.bind, Res.st, SRes.seq, SRes.out, List.getElem?_cons_zero, List.getElem?_cons_succ, List.cons_append, List.nil_append, List.replicate, List.length_cons, List.length_nil, bindT, bindTs, List.set_cons_zero, List.set_cons_succ, frzF, wipeF, binD, bifD, d1, c3, a4, if_true, hg3]
  have a5 : decide (0 < m) = true := decide_eq_true (by omega)
  have e14 : exS (cf k) (cc k) T.con T.isa 100 s__law_draw_14 [.val (.obj 0), .val (.int m), x, .none, .val (.int n3)] [hnd cs ix cu se (cn + 1)] = .ret (.int (n3 / 16 % m)) [hnd cs ix cu se (cn + 1)] := by
    simp only [s__law_draw_14, exSs, exS, evE, evEs, evAs, evEo, evC, evSrc, evT, frame, getV, getB, Res.ofO, Res.bind, Res.st, SRes.seq, SRes.out, List.getElem?_cons_zero, List.getElem?_cons_succ, List.cons_append, List.nil_append, List.replicate, List.length_cons, List.length_nil, bindT, bindTs, List.set_cons_zero, List.set_cons_succ, frzF, wipeF, binD, bifD, c4, a5, if_true]
  refine ⟨n3 / 16 % m, [hnd cs ix cu se (cn + 1)], ?_, ⟨Int.emod_nonneg _ (by omega), Int.emod_lt_of_pos _ (by omega)⟩, cs, ix, cu, se, cn + 1, rfl, H.ix, H.len, H.cs, H.cu, H.se, by omega, by omega⟩
  rw [tl10, exSs, e10]
  simp only [SRes.seq]
  rw [exSs, e11]
  simp only [SRes.seq]
  rw [exSs, e12]
  simp only [SRes.seq]
  rw [exSs, e13]
  simp only [SRes.seq]
  rw [exSs, e14]
  rfl
theorem draw_tail {cs : List Int} {x : Slot} {ix : Nat} {cu se cn : Int} (H : HdOk (n + 1) cs ix cu se cn) (h1 : 1 ≤ m) (h2 : m ≤ 10 ^ 40) : ∃ (d : Int) (o' : Objs), (exSs (cf k) (cc k) T.con T.isa 100 tl9 [.val (.obj 0), .val (.int m), x, .none, .none] [hnd cs ix cu se cn]).out = .ok (.int d) o' ∧ (0 ≤ d ∧ d < m) ∧ Hd n o' := by
  have hcu := H.cu
  have hcn := H.cn
  have a5 : decide (0 < m) = true := decide_eq_true (by omega)
  by_cases q : 0 < cu
  · have g1 : decide (0 < cu) = true := decide_eq_true q
    have hm2 : 2 ≤ (if m > 2 then m else 2) ∧ (if m > 2 then m else 2) ≤ 10 ^ 40 := by
      split <;> omega
    have g2 : divOk (if m > 2 then m else 2) = true := divOk_lit (by omega) (by omega)
    have e9 : exS (cf k) (cc k) T.con T.isa 100 s__law_draw_9 [.val (.obj 0), .val (.int m), x, .none, .none] [hnd cs ix cu se cn] = .ret (.int (cu % m)) [hnd cs ix (cu / (if m > 2 then m else 2)) se cn] := by
      simp only [s__law_draw_9, s__law_draw_6, s__law_draw_7, s__law_draw_8, exSs, exS, evE, evEs, evAs, evEo, evC, evSrc, evT, frame, getV, getB, Res.ofO, Res.bind, Res.st, SRes.seq, SRes.out, List.getElem?_cons_zero, List.getElem?_cons_succ, List.cons_append, List.nil_append, List.replicate, List.length_cons, List.length_nil, bindT, bindTs, List.set_cons_zero, List.set_cons_succ, frzF, wipeF, hnd, idxD, at5, cmpD, ltD, Option.map, g1, binD, bifD, a5, g2, if_true, put5]
    have q1 : 0 ≤ cu / (if m > 2 then m else 2) := Int.ediv_nonneg hcu.1 (by omega)
    have q2 : cu / (if m > 2 then m else 2) ≤ cu := Int.ediv_le_self _ hcu.1
    refine ⟨cu % m, _, ?_, ⟨Int.emod_nonneg _ (by omega), Int.emod_lt_of_pos _ (by omega)⟩, cs, ix, _, se, cn, rfl, H.ix, H.len, H.cs, ⟨q1, by omega⟩, H.se, by omega, by omega⟩
    rw [tl9, exSs, e9]
    rfl
  · have g1 : decide (0 < cu) = false := decide_eq_false q
    have e9 : exS (cf k) (cc k) T.con T.isa 100 s__law_draw_9 [.val (.obj 0), .val (.int m), x, .none, .none] [hnd cs ix cu se cn] = .nx [.val (.obj 0), .val (.int m), x, .none, .none] [hnd cs ix cu se cn] := by
      simp only [s__law_draw_9, exSs, exS, evE, evEs, evAs, evEo, evC, evSrc, evT, frame, getV, getB, Res.ofO, Res.bind, Res.st, SRes.seq, SRes.out, List.getElem?_cons_zero, List.getElem?_cons_succ, List.cons_append, List.nil_append, List.replicate, List.length_cons, List.length_nil, bindT, bindTs, List.set_cons_zero, List.set_cons_succ, frzF, wipeF, hnd, idxD, at5, cmpD, ltD, Option.map, g1, Bool.false_eq_true, if_false]
    obtain ⟨d, o', z⟩ := draw_mix (k := k) (x := x) H h1 h2
    refine ⟨d, o', ?_, z.2⟩
    rw [tl9, exSs, e9]
    exact z.1
theorem v_draw (h : Hd (n + 1) o) (h1 : 1 ≤ m) (h2 : m ≤ 10 ^ 40) : ∃ (d : Int) (o' : Objs), cf (k + 1) "_law_draw" [.val (.obj 0), .val (.int m)] o = .ok (.int d) o' ∧ (0 ≤ d ∧ d < m) ∧ Hd n o' := by
  obtain ⟨cs, ix, cu, se, cn, rfl, H⟩ := h
  have hse := H.se
  have hcu := H.cu
  rw [cf_succ f__law_draw rfl]
  show ∃ (d : Int) (o' : Objs), (exSs (cf k) (cc k) T.con T.isa 100 (.cons s__law_draw_5 tl9) [.val (.obj 0), .val (.int m), .none, .none, .none] [hnd cs ix cu se cn]).out = .ok (.int d) o' ∧ (0 ≤ d ∧ d < m) ∧ Hd n o'
  rw [exSs]
  by_cases q : cu = 0
  · have g1 : decide (cu = 0) = true := decide_eq_true q
    by_cases q2 : ix < cs.length
    · have g2 : decide ((ix : Int) < (cs.length : Int)) = true := decide_eq_true (by omega)
      have ga : L2.atI (cs.map D.int) (ix : Int) = some (.int cs[ix]) := by
        rw [atI_nat (by rw [List.length_map]; exact q2), List.getElem_map]
      have gc := H.cs cs[ix] (List.getElem_mem q2)
      generalize cs[ix] = c at ga gc
      have a1 : mulOk se 48271 = true := mulOk_lit (by omega) (by omega) (by omega) (by omega)
      have a3 : decide ((0 : Int) < 2147483647) = true := by decide
      have e1 : exS (cf k) (cc k) T.con T.isa 100 s__law_draw_1 [.val (.obj 0), .val (.int m), .none, .none, .none] [hnd cs ix cu se cn] = .nx [.val (.obj 0), .val (.int m), .val (.int c), .none, .none] [hnd cs ix cu se cn] := by
        simp only [s__law_draw_1, exSs, exS, evE, evEs, evAs, evEo, evC, evSrc, evT, frame, getV, getB, Res.ofO, Res.bind, Res.st, SRes.seq, SRes.out, List.getElem?_cons_zero, List.getElem?_cons_succ, List.cons_append, List.nil_append, List.replicate, List.length_cons, List.length_nil, bindT, bindTs, List.set_cons_zero, List.set_cons_succ, frzF, wipeF, hnd, idxD, at5, ga]
      have e2 : exS (cf k) (cc k) T.con T.isa 100 s__law_draw_2 [.val (.obj 0), .val (.int m), .val (.int c), .none, .none] [hnd cs ix cu se cn] = .nx [.val (.obj 0), .val (.int m), .val (.int c), .none, .none] [hnd cs (ix + 1) cu se cn] := by
        simp only [s__law_draw_2, exSs, exS, evE, evEs, evAs, evEo, evC, evSrc, evT, frame, getV, getB, Res.ofO, Res.bind, Res.st, SRes.seq, SRes.out, List.getElem?_cons_zero, List.getElem?_cons_succ, List.cons_append, List.nil_append, List.replicate, List.length_cons, List.length_nil, bindT, bindTs, List.set_cons_zero, List.set_cons_succ, frzF, wipeF, hnd, idxD, at5, binD, put5]
        rfl
      have e3 : exS (cf k) (cc k) T.con T.isa 100 s__law_draw_3 [.val (.obj 0), .val (.int m), .val (.int c), .none, .none] [hnd cs (ix + 1) cu se cn] = .nx [.val (.obj 0), .val (.int m), .val (.int c), .none, .none] [hnd cs (ix + 1) cu ((se * 48271 + c + 17) % 2147483647) cn] := by
        simp only [s__law_draw_3, exSs, exS, evE, evEs, evAs, evEo, evC, evSrc, evT, frame, getV, getB, Res.ofO, Res.bind, Res.st, SRes.seq, SRes.out, List.getElem?_cons_zero, List.getElem?_cons_succ, List.cons_append, List.nil_append, List.replicate, List.length_cons, List.length_nil, bindT, bindTs, List.set_cons_zero, List.set_cons_succ, frzF, wipeF, hnd, idxD, at5, binD, bifD, put5, a1, a3, if_true]
      have b1 : 0 ≤ (se * 48271 + c + 17) % 2147483647 ∧ (se * 48271 + c + 17) % 2147483647 < 2147483647 := ⟨Int.emod_nonneg _ (by omega), Int.emod_lt_of_pos _ (by omega)⟩
      generalize (se * 48271 + c + 17) % 2147483647 = se' at e3 b1
      have e4 : ∃ cu' : Int, exS (cf k) (cc k) T.con T.isa 100 s__law_draw_4 [.val (.obj 0), .val (.int m), .val (.int c), .none, .none] [hnd cs (ix + 1) cu se' cn] = .nx [.val (.obj 0), .val (.int m), .val (.int c), .none, .none] [hnd cs (ix + 1) cu' se' cn] ∧ (0 ≤ cu' ∧ cu' < 10 ^ 36) := by
        by_cases q3 : (10 : Int) ^ 18 ≤ c
        · have g3 : decide ((10 : Int) ^ 18 ≤ c) = true := decide_eq_true q3
          refine ⟨c, ?_, gc⟩
          simp only [s__law_draw_4, exSs, exS, evE, evEs, evAs, evEo, evC, evSrc, evT, frame, getV, getB, Res.ofO, Res.bind, Res.st, SRes.seq, SRes.out, List.getElem?_cons_zero, List.getElem?_cons_succ, List.cons_append, List.nil_append, List.replicate, List.length_cons, List.length_nil, bindT, bindTs, List.set_cons_zero, List.set_cons_succ, frzF, wipeF, hnd, p18, cmpD, leD, Option.map, g3, put5]
        · have g3 : decide ((10 : Int) ^ 18 ≤ c) = false := decide_eq_false q3
          refine ⟨0, ?_, by omega⟩
          simp only [s__law_draw_4, exSs, exS, evE, evEs, evAs, evEo, evC, evSrc, evT, frame, getV, getB, Res.ofO, Res.bind, Res.st, SRes.seq, SRes.out, List.getElem?_cons_zero, List.getElem?_cons_succ, List.cons_append, List.nil_append, List.replicate, List.length_cons, List.length_nil, bindT, bindTs, List.set_cons_zero, List.set_cons_succ, frzF, wipeF, hnd, p18, cmpD, leD, Option.map, g3, put5]
      obtain ⟨cu', e4, hcu'⟩ := e4
      obtain ⟨d, o', z⟩ := draw_tail (k := k) (n := n) (x := .val (.int c)) (cs := cs) (ix := ix + 1) (cu := cu') (se := se') (cn := cn) ⟨by omega, H.len, H.cs, hcu', by omega, H.cn⟩ h1 h2
      have e5 : exS (cf k) (cc k) T.con T.isa 100 s__law_draw_5 [.val (.obj 0), .val (.int m), .none, .none, .none] [hnd cs ix cu se cn] = .nx [.val (.obj 0), .val (.int m), .val (.int c), .none, .none] [hnd cs (ix + 1) cu' se' cn] := by
        have et : evT (cf k) (cc k) T.con T.isa (.and (.cmp .Eq (.idx (.bor 0) (.int 2)) (.int 0)) (.cmp .Lt (.idx (.bor 0) (.int 1)) (.bif .len (.cons (.idx (.bor 0) (.int 0)) .nil)))) [.val (.obj 0), .val (.int m), .none, .none, .none] [hnd cs ix cu se cn] = .ok true [hnd cs ix cu se cn] := by
          simp only [exSs, exS, evE, evEs, evAs, evEo, evC, evSrc, evT, frame, getV, getB, Res.ofO, Res.bind, Res.st, SRes.seq, SRes.out, List.getElem?_cons_zero, List.getElem?_cons_succ, List.cons_append, List.nil_append, List.replicate, List.length_cons, List.length_nil, bindT, bindTs, List.set_cons_zero, List.set_cons_succ, frzF, wipeF, hnd, idxD, at5, cmpD, ltD, Option.map, bifD, eqI, g1, List.length_map, g2]
        rw [s__law_draw_5, exS, et]
        show exSs (cf k) (cc k) T.con T.isa 100 _ _ _ = _
        rw [exSs, e1]
        simp only [SRes.seq]
        rw [exSs, e2]
        simp only [SRes.seq]
        rw [exSs, e3]
        simp only [SRes.seq]
        rw [exSs, e4]
        rfl
      refine ⟨d, o', ?_, z.2⟩
      rw [e5]
      exact z.1
    · have g2 : decide ((ix : Int) < (cs.length : Int)) = false := decide_eq_false (by omega)
      have e5 : exS (cf k) (cc k) T.con T.isa 100 s__law_draw_5 [.val (.obj 0), .val (.int m), .none, .none, .none] [hnd cs ix cu se cn] = .nx [.val (.obj 0), .val (.int m), .none, .none, .none] [hnd cs ix cu se cn] := by
        simp only [s__law_draw_5, exSs, exS, evE, evEs, evAs, evEo, evC, evSrc, evT, frame, getV, getB, Res.ofO, Res.bind, Res.st, SRes.seq, SRes.out, List.getElem?_cons_zero, List.getElem?_cons_succ, List.cons_append, List.nil_append, List.replicate, List.length_cons, List.length_nil, bindT, bindTs, List.set_cons_zero, List.set_cons_succ, frzF, wipeF, hnd, idxD, at5, cmpD, ltD, Option.map, bifD, eqI, g1, List.length_map, g2, Bool.false_eq_true, if_false]
      obtain ⟨d, o', z⟩ := draw_tail (k := k) (x := .none) H h1 h2
      refine ⟨d, o', ?_, z.2⟩
      rw [e5]
      exact z.1
  · have g1 : decide (cu = 0) = false := decide_eq_false q
    have e5 : exS (cf k) (cc k) T.con T.isa 100 s__law_draw_5 [.val (.obj 0), .val (.int m), .none, .none, .none] [hnd cs ix cu se cn] = .nx [.val (.obj 0), .val (.int m), .none, .none, .none] [hnd cs ix cu se cn] := by
      simp only [s__law_draw_5, exSs, exS, evE, evEs, evAs, evEo, evC, evSrc, evT, frame, getV, getB, Res.ofO, Res.bind, Res.st, SRes.seq, SRes.out, List.getElem?_cons_zero, List.getElem?_cons_succ, List.cons_append, List.nil_append, List.replicate, List.length_cons, List.length_nil, bindT, bindTs, List.set_cons_zero, List.set_cons_succ, frzF, wipeF, hnd, idxD, at5, cmpD, Option.map, eqI, g1, Bool.false_eq_true, if_false]
    obtain ⟨d, o', z⟩ := draw_tail (k := k) (x := .none) H h1 h2
    refine ⟨d, o', ?_, z.2⟩
    rw [e5]
    exact z.1
theorem v_any {ds : List D} (h : Hd (n + 1) o) (h1 : 1 ≤ ds.length) (h2 : ds.length ≤ 1000) : ∃ (x : D) (o' : Objs), cf (k + 2) "_law_any" [.val (.obj 0), .val (.lst ds)] o = .ok x o' ∧ x ∈ ds ∧ Hd n o' := by
  obtain ⟨d, o', z, hd, ho⟩ := v_draw (k := k) (m := (ds.length : Int)) h (by omega) (by omega)
  obtain ⟨j, rfl⟩ : ∃ j : Nat, d = (j : Int) := ⟨d.toNat, by omega⟩
  have hj : j < ds.length := by omega
  refine ⟨ds[j], o', ?_, List.getElem_mem hj, ho⟩
  rw [cf_succ f__law_any rfl]
  simp only [s__law_any_1, i__law_any, exSs, exS, evE, evEs, evAs, evEo, evC, evSrc, evT, frame, getV, getB, Res.ofO, Res.bind, Res.st, SRes.seq, SRes.out, List.getElem?_cons_zero, List.getElem?_cons_succ, List.cons_append, List.nil_append, List.replicate, List.length_cons, List.length_nil, bindT, bindTs, List.set_cons_zero, List.set_cons_succ, frzF, wipeF, bifD, z, idxD, atI_nat hj]
end
end K00

set_option maxHeartbeats 2000000
/-! K00k: a calendar is drawn. -/
namespace K00
open PySem Ev
theorem src_rng {F : FnT} {C : CloT} {G : Str → Option D} {is : Str → Str → Bool} {a : IE} {ρ : Frm} {o o' : Objs} {x : Int} {m : Nat} (ha : evE F C G is a ρ o = .ok (.int x) o') (hx : x = (m : Int)) (hm : m ≤ 1000) : evSrc F C G is (.range1 a) ρ o = .ok ((List.range m).map fun (j : Nat) => D.int (j : Int)) o' := by
  have h : rngOk x = true := by
    rw [hx]
    exact rng_ok hm
  have e : rangeD 0 x = (List.range m).map fun (j : Nat) => D.int (j : Int) := by
    rw [hx]
    exact range0
  simp only [evSrc, ha, Res.bind, h, if_true, e]
theorem compL_len {bd : D → Option Frm} {cnd : Frm → Objs → Res Bool} {el : Frm → Objs → Res D} (c : Nat) {Q : D → Prop} : ∀ {ds : List D} {n : Nat} {o : Objs}, Hd (n + c * ds.length) o → (∀ d ∈ ds, ∀ n o, Hd (n + c) o → ∃ ρ x o2, bd d = some ρ ∧ cnd ρ o = .ok true o ∧ el ρ o = .ok x o2 ∧ Q x ∧ Hd n o2) → ∃ xs o', compL bd cnd el ds o = .ok xs o' ∧ xs.length = ds.length ∧ (∀ x ∈ xs, Q x) ∧ Hd n o'
  | [], n, o, h, _ => ⟨[], o, rfl, rfl, (by simp), by simpa using h⟩
  | d :: ds, n, o, h, hs => by
    rw [List.length_cons] at h
    obtain ⟨ρ, x, o2, a, b, e, q, h2⟩ := hs d List.mem_cons_self (n + c * ds.length) o (h.le (by rw [Nat.mul_succ]; omega))
    obtain ⟨xs, o', z, l, qs, h3⟩ := compL_len c (n := n) h2 fun d' hd => hs d' (List.mem_cons_of_mem _ hd)
    refine ⟨x :: xs, o', ?_, by rw [List.length_cons, l, List.length_cons], ?_, h3⟩
    · unfold compL
      simp only [a, b, e, z, Res.bind, if_true]
    · intro y hy
      rcases List.mem_cons.mp hy with rfl | hy
      · exact q
      · exact qs y hy
theorem compL_sub {bd : D → Option Frm} {cnd : Frm → Objs → Res Bool} {el : Frm → Objs → Res D} : ∀ {ds : List D} {n : Nat} {o : Objs}, Hd (n + ds.length) o → (∀ d ∈ ds, ∀ n o, Hd (n + 1) o → ∃ ρ b o2, bd d = some ρ ∧ cnd ρ o = .ok b o2 ∧ el ρ o2 = .ok d o2 ∧ Hd n o2) → ∃ xs o', compL bd cnd el ds o = .ok xs o' ∧ xs.Sublist ds ∧ Hd n o'
  | [], n, o, h, _ => ⟨[], o, rfl, List.Sublist.slnil, h⟩
  | d :: ds, n, o, h, hs => by
    rw [List.length_cons] at h
    obtain ⟨ρ, b, o2, a1, a2, a3, h2⟩ := hs d List.mem_cons_self (n + ds.length) o h
    obtain ⟨xs, o', z, l, h3⟩ := compL_sub (n := n) h2 fun d' hd => hs d' (List.mem_cons_of_mem _ hd)
    cases b with
    | true =>
      refine ⟨d :: xs, o', ?_, l.cons_cons d, h3⟩
      unfold compL
      simp only [a1, a2, a3, z, Res.bind, if_true]
    | false =>
      refine ⟨xs, o', ?_, l.cons d, h3⟩
      unfold compL
      simp only [a1, a2, z, Res.bind, Bool.false_eq_true, if_false]
theorem ris_of : ∀ {l : List Int}, l.Pairwise (· < ·) → ris l = true
  | [], _ => rfl
  | [a], _ => rfl
  | a :: b :: t, h => by
    rw [List.pairwise_cons] at h
    have z := ris_of h.2
    have y : decide (a < b) = true := decide_eq_true (h.1 b List.mem_cons_self)
    show (decide (a < b) && ris (b :: t)) = true
    rw [y, z]
    rfl
section
variable {k n : Nat} {o : Objs}
theorem v_lot {m : Nat} {x : Int} (hx : x = (m : Int)) (h : Hd (n + m) o) (hm : m ≤ 28) : ∃ (l : List Int) (o' : Objs), cf (k + 2) "_law_lot" [.val (.obj 0), .val (.int x)] o = .ok (iT l) o' ∧ (ris l = true ∧ (∀ y ∈ l, 0 ≤ y ∧ y < (m : Int)) ∧ l.length ≤ 28) ∧ Hd n o' := by
  have hl : ((List.range m).map fun (j : Nat) => D.int (j : Int)).length = m := by
    rw [List.length_map, List.length_range]
  obtain ⟨xs, o', z, sl, h3⟩ := compL_sub (n := n) (o := o) (ds := (List.range m).map fun (j : Nat) => D.int (j : Int)) (bd := fun d => bindT (.name 2) d (wipeF [.val (.obj 0), .val (.int x), .none] [2])) (cnd := fun ρ' o' => evC (cf (k + 1)) (cc (k + 1)) T.con T.isa (.some (.cmp .Eq (.call "_law_draw" (.val (.var 0) (.val (.int 2) .nil))) (.int 0))) ρ' o') (el := fun ρ' o' => evE (cf (k + 1)) (cc (k + 1)) T.con T.isa (.var 2) ρ' o') (by rw [hl]; exact h) fun d hd n o h => by
    obtain ⟨b, o2, zx, _, h2⟩ := v_draw (k := k) (m := 2) h (by omega) (by omega)
    refine ⟨[.val (.obj 0), .val (.int x), .val d], decide (b = 0), o2, rfl, ?_, rfl, h2⟩
    simp only [exSs, exS, evE, evEs, evAs, evEo, evC, evSrc, evT, frame, getV, getB, Res.ofO, Res.bind, Res.st, SRes.seq, SRes.out, List.getElem?_cons_zero, List.getElem?_cons_succ, List.cons_append, List.nil_append, List.replicate, List.length_cons, List.length_nil, bindT, bindTs, List.set_cons_zero, List.set_cons_succ, frzF, wipeF, zx, cmpD, eqI, Option.map]
  obtain ⟨l', sl', rfl⟩ := List.sublist_map_iff.mp sl
  have le : l'.length ≤ m := by
    have := sl'.length_le
    rwa [List.length_range] at this
  have hc : evE (cf (k + 1)) (cc (k + 1)) T.con T.isa e__law_lot_1 [.val (.obj 0), .val (.int x), .none] o = .ok (.lst (l'.map fun (j : Nat) => D.int (j : Int))) o' := by
    exact comp_ok (o1 := o) (src_rng rfl hx (by omega)) z (by rw [List.length_map]; exact Nat.le_trans le (Nat.le_trans hm (Nat.le_of_ble_eq_true rfl)))
  refine ⟨l'.map fun (j : Nat) => (j : Int), o', ?_, ⟨ris_of ?_, ?_, ?_⟩, h3⟩
  · rw [cf_succ f__law_lot rfl]
    simp only [s__law_lot_2, i__law_lot, exSs, exS, evE, evEs, evAs, evEo, evC, evSrc, evT, frame, getV, getB, Res.ofO, Res.bind, Res.st, SRes.seq, SRes.out, List.getElem?_cons_zero, List.getElem?_cons_succ, List.cons_append, List.nil_append, List.replicate, List.length_cons, List.length_nil, bindT, bindTs, List.set_cons_zero, List.set_cons_succ, frzF, wipeF, hc, bifD, iT, List.map_map]
    rfl
  · refine List.Pairwise.map _ (fun a b h => ?_) (List.Pairwise.sublist sl' List.pairwise_lt_range)
    exact Int.ofNat_lt.mpr h
  · intro y hy
    obtain ⟨j, hj, rfl⟩ := List.mem_map.mp hy
    have := List.mem_range.mp (sl'.subset hj)
    omega
  · rw [List.length_map]
    omega
theorem draw2 {ρ : Frm} (h : Hd (n + 2) o) {b : Int} (hb1 : 4 ≤ b) (hb2 : b ≤ 31) (hρ : getV ρ 0 = some (.obj 0)) : ∃ (d : Int) (o' : Objs), evE (cf (k + 2)) (cc (k + 2)) T.con T.isa (.bin .Add (.int 1) (.call "_law_draw" (.val (.var 0) (.val (.call "_law_any" (.val (.var 0) (.val (.lst (.cons (.int 4) (.cons (.int b) .nil))) .nil))) .nil)))) ρ o = .ok (.int d) o' ∧ (1 ≤ d ∧ d ≤ b) ∧ Hd n o' := by
  obtain ⟨x, o1, z1, m1, h1⟩ := v_any (k := k) (n := n + 1) (ds := [.int 4, .int b]) h (Nat.le_of_ble_eq_true rfl) (Nat.le_of_ble_eq_true rfl)
  have : ∃ m : Int, x = .int m ∧ 4 ≤ m ∧ m ≤ b := by
    simp only [List.mem_cons, List.not_mem_nil, or_false] at m1
    rcases m1 with rfl | rfl
    · exact ⟨4, rfl, by omega, hb1⟩
    · exact ⟨b, rfl, hb1, by omega⟩
  obtain ⟨m, rfl, hm1, hm2⟩ := this
  obtain ⟨d, o2, z2, b2, h2⟩ := v_draw (k := k + 1) (m := m) h1 (by omega) (by omega)
  have s2 : sz 2 = true := by decide
  refine ⟨1 + d, o2, ?_, by omega, h2⟩
  simp only [evE, evEs, evAs, Res.bind, Res.ofO, hρ, List.length_cons, List.length_nil, s2, if_true, z1, z2, binD]
theorem ints_all {Q : Int → Prop} : ∀ {xs : List D}, (∀ x ∈ xs, ∃ i, x = D.int i ∧ Q i) → ∃ l : List Int, xs = l.map D.int ∧ ∀ i ∈ l, Q i
  | [], _ => ⟨[], rfl, by simp⟩
  | x :: xs, h => by
    obtain ⟨i, rfl, hi⟩ := h x List.mem_cons_self
    obtain ⟨l, rfl, hl⟩ := ints_all fun y hy => h y (List.mem_cons_of_mem _ hy)
    refine ⟨i :: l, rfl, fun j hj => ?_⟩
    rcases List.mem_cons.mp hj with rfl | hj
    · exact hi
    · exact hl j hj
theorem v_made (h : Hd (n + 60) o) : ∃ (c : Cal) (o' : Objs), cf (k + 3) "_law_made" [.val (.obj 0)] o = .ok c.d o' ∧ c.Ok ∧ Hd n o' := by
  obtain ⟨d0, o0, z0, b0, h0⟩ := v_draw (k := k + 1) (n := n + 59) (m := 4) h (by omega) (by omega)
  obtain ⟨m0, e0⟩ : ∃ m0 : Nat, 1 + d0 = (m0 : Int) := ⟨(1 + d0).toNat, by omega⟩
  have hl : ((List.range m0).map fun (j : Nat) => D.int (j : Int)).length = m0 := by
    rw [List.length_map, List.length_range]
  obtain ⟨xs, o1, z1, l1, q1, h1⟩ := compL_len 2 (n := n + 51) (o := o0) (Q := fun x => ∃ i, x = D.int i ∧ 1 ≤ i ∧ i ≤ 31) (ds := (List.range m0).map fun (j : Nat) => D.int (j : Int)) (bd := fun d => bindT (.name 4) d (wipeF [.val (.obj 0), .none, .none, .none, .none] [4])) (cnd := fun ρ' o' => evC (cf (k + 2)) (cc (k + 2)) T.con T.isa .none ρ' o') (el := fun ρ' o' => evE (cf (k + 2)) (cc (k + 2)) T.con T.isa (.bin .Add (.int 1) (.call "_law_draw" (.val (.var 0) (.val (.call "_law_any" (.val (.var 0) (.val (.lst (.cons (.int 4) (.cons (.int 31) .nil))) .nil))) .nil)))) ρ' o') (h0.le (by rw [hl]; omega)) fun d hd n o h => by
    obtain ⟨x, o2, zx, bx, h2⟩ := draw2 (k := k) (ρ := [.val (.obj 0), .none, .none, .none, .val d]) h (b := 31) (by omega) (by omega) rfl
    exact ⟨_, _, o2, rfl, rfl, zx, ⟨x, rfl, bx⟩, h2⟩
  rw [hl] at l1
  obtain ⟨ms, rfl, hms⟩ := ints_all q1
  rw [List.length_map] at l1
  have hc : evE (cf (k + 2)) (cc (k + 2)) T.con T.isa e__law_made_1 [.val (.obj 0), .none, .none, .none, .none] o = .ok (.lst (ms.map D.int)) o1 := by
    refine comp_ok (o1 := o0) (src_rng (x := 1 + d0) ?_ e0 (by omega)) z1 (by rw [List.length_map, l1]; exact Nat.le_trans (show m0 ≤ 4 by omega) (Nat.le_of_ble_eq_true rfl))
    simp only [exSs, exS, evE, evEs, evAs, evEo, evC, evSrc, evT, frame, getV, getB, Res.ofO, Res.bind, Res.st, SRes.seq, SRes.out, List.getElem?_cons_zero, List.getElem?_cons_succ, List.cons_append, List.nil_append, List.replicate, List.length_cons, List.length_nil, bindT, bindTs, List.set_cons_zero, List.set_cons_succ, frzF, wipeF, z0, binD]
  have e2 : exS (cf (k + 2)) (cc (k + 2)) T.con T.isa 100 s__law_made_2 [.val (.obj 0), .none, .none, .none, .none] o = .nx [.val (.obj 0), .val (iT ms), .none, .none, .none] o1 := by
    simp only [s__law_made_2, exSs, exS, evE, evEs, evAs, evEo, evC, evSrc, evT, frame, getV, getB, Res.ofO, Res.bind, Res.st, SRes.seq, SRes.out, List.getElem?_cons_zero, List.getElem?_cons_succ, List.cons_append, List.nil_append, List.replicate, List.length_cons, List.length_nil, bindT, bindTs, List.set_cons_zero, List.set_cons_succ, frzF, wipeF, hc, bifD, iT]
  obtain ⟨cy, o2, z2, b2, h2⟩ := draw2 (k := k) (n := n + 49) (ρ := [.val (.obj 0), .val (iT ms), .none, .none, .none]) h1 (b := 28) (by omega) (by omega) rfl
  have e3 : exS (cf (k + 2)) (cc (k + 2)) T.con T.isa 100 s__law_made_3 [.val (.obj 0), .val (iT ms), .none, .none, .none] o1 = .nx [.val (.obj 0), .val (iT ms), .val (.int cy), .none, .none] o2 := by
    rw [s__law_made_3, exS, z2]
    rfl
  obtain ⟨cn, ec⟩ : ∃ cn : Nat, cy = (cn : Int) := ⟨cy.toNat, by omega⟩
  obtain ⟨ls, o3, z3, b3, h3⟩ := v_lot (k := k) (n := n + 21) (m := cn) (o := o2) ec (h2.le (by omega)) (by omega)
  obtain ⟨mo, o4, z4, b4, h4⟩ := v_draw (k := k + 1) (n := n + 20) (m := (ms.length : Int)) (o := o3) h3 (by omega) (by omega)
  obtain ⟨mr, o5, z5, b5, h5⟩ := v_draw (k := k + 1) (n := n + 19) (m := 3) (o := o4) h4 (by omega) (by omega)
  have s4 : sz 4 = true := by decide
  have s3 : sz 3 = true := by decide
  have el := len_iT ms
  have e4 : exS (cf (k + 2)) (cc (k + 2)) T.con T.isa 100 s__law_made_4 [.val (.obj 0), .val (iT ms), .val (.int cy), .none, .none] o2 = .nx [.val (.obj 0), .val (iT ms), .val (.int cy), .val (.tup [.int cy, iT ls, .int mo, .int (1 + mr)]), .none] o5 := by
    simp only [s__law_made_4, exSs, exS, evE, evEs, evAs, evEo, evC, evSrc, evT, frame, getV, getB, Res.ofO, Res.bind, Res.st, SRes.seq, SRes.out, List.getElem?_cons_zero, List.getElem?_cons_succ, List.cons_append, List.nil_append, List.replicate, List.length_cons, List.length_nil, bindT, bindTs, List.set_cons_zero, List.set_cons_succ, frzF, wipeF, z3, el, z4, z5, binD, s4, if_true]
  obtain ⟨w, o6, z6, b6, h6⟩ := v_draw (k := k + 1) (n := n + 18) (m := 10) (o := o5) h5 (by omega) (by omega)
  have e5 : exS (cf (k + 2)) (cc (k + 2)) T.con T.isa 100 s__law_made_5 [.val (.obj 0), .val (iT ms), .val (.int cy), .val (.tup [.int cy, iT ls, .int mo, .int (1 + mr)]), .none] o5 = .ret (.tup [.int (1 + w), iT ms, .tup [.int cy, iT ls, .int mo, .int (1 + mr)]]) o6 := by
    simp only [s__law_made_5, exSs, exS, evE, evEs, evAs, evEo, evC, evSrc, evT, frame, getV, getB, Res.ofO, Res.bind, Res.st, SRes.seq, SRes.out, List.getElem?_cons_zero, List.getElem?_cons_succ, List.cons_append, List.nil_append, List.replicate, List.length_cons, List.length_nil, bindT, bindTs, List.set_cons_zero, List.set_cons_succ, frzF, wipeF, z6, binD, s3, if_true]
  refine ⟨⟨1 + w, ms, cy, ls, mo, 1 + mr⟩, o6, ?_, ⟨by show 1 ≤ 1 + w; omega, by show 1 + w ≤ 10; omega, by show 1 ≤ ms.length; omega, by show ms.length ≤ 4; omega, hms, b2.1, b2.2, b3.1, ?_, b3.2.2, b4.1, b4.2, by show 1 ≤ 1 + mr; omega, by show 1 + mr ≤ 3; omega⟩, h6.le (by omega)⟩
  · rw [cf_succ f__law_made rfl]
    show ((exSs (cf (k + 2)) (cc (k + 2)) T.con T.isa 100 (.cons s__law_made_2 (.cons s__law_made_3 (.cons s__law_made_4 (.cons s__law_made_5 .nil)))) [.val (.obj 0), .none, .none, .none, .none] o).out) = _
    rw [exSs, e2]
    simp only [SRes.seq]
    rw [exSs, e3]
    simp only [SRes.seq]
    rw [exSs, e4]
    simp only [SRes.seq]
    rw [exSs, e5]
    rfl
  · intro y hy
    have := b3.2.1 y hy
    show 0 ≤ y ∧ y < cy
    omega
end
end K00

set_option maxHeartbeats 2000000
/-! K00i: the public functions on a good calendar. -/
namespace K00
open PySem Ev
theorem comp_rng {F : FnT} {C : CloT} {G : Str → Option D} {is : Str → Str → Bool} {elt a : IE} {v : Nat} {own : List Nat} {ρ : Frm} {o : Objs} {m : Nat} {x : Int} {f : Nat → Int} (ha : evE F C G is a ρ o = .ok (.int x) o) (hx : x = (m : Int)) (hm : m ≤ 1000)
    (hs : ∀ j : Nat, j < m → evE F C G is elt ((wipeF ρ own).set v (.val (.int (j : Int)))) o = .ok (.int (f j)) o) : evE F C G is (.comp elt (.name v) (.range1 a) .none own) ρ o = .ok (.lst (((List.range m).map f).map D.int)) o := by
  refine comp_ok (ds := (List.range m).map fun (n : Nat) => D.int (n : Int)) (o1 := o) (src_rng ha hx hm) ?_ (by rw [List.length_map, List.length_map, List.length_range]; exact Nat.le_trans hm (Nat.le_of_ble_eq_true rfl))
  · have z := compL_map (o := o) (f := fun d => D.int (f (toI d).toNat)) (ds := (List.range m).map fun (n : Nat) => D.int (n : Int)) (bd := fun d => bindT (.name v) d (wipeF ρ own)) (cnd := fun ρ' o' => evC F C G is .none ρ' o') (el := fun ρ' o' => evE F C G is elt ρ' o') fun d hd => by
      obtain ⟨j, hj, rfl⟩ := List.mem_map.mp hd
      exact ⟨_, rfl, by unfold evC; rfl, hs j (List.mem_range.mp hj)⟩
    rw [List.map_map] at z
    rw [List.map_map]
    exact z
section
variable {k : Nat} {o : Objs} {c : Cal} {y : Int} {i : Nat}
def mbg (c : Cal) (y : Int) (i : Nat) : Int := ybg c y + ((List.range i).map fun j => mlen c y j).sum
theorem sumL (l : List Int) : bifD .sum [.lst (l.map D.int)] = some (.int l.sum) := by
  have z := intsD_map (fun i : Int => i) l
  rw [List.map_id'] at z
  show (intsD (l.map D.int)).map _ = _
  rw [z]
  rfl
theorem v_raw_month_begins (C : c.Ok) (h0 : 0 ≤ y) (hy : y ≤ 10 ^ 40) (hi : i ≤ c.ms.length) {x : Int} (hx : x = (i : Int)) : cf (k + 3) "raw_month_begins" [.val c.d, .val (.int y), .val (.int x)] o = .ok (.int (mbg c y i)) o := by
  have hm := C.m2
  have zy := v_raw_year_begins (k := k) (o := o) C h0 hy
  have hc := comp_rng (F := cf (k + 2)) (C := cc (k + 2)) (G := T.con) (is := T.isa) (elt := .call "raw_month_days" (.val (.var 0) (.val (.var 1) (.val (.var 3) .nil)))) (a := .var 2) (v := 3) (own := [3]) (ρ := [.val c.d, .val (.int y), .val (.int x), .none]) (o := o) (m := i) (x := x) (f := mlen c y) rfl hx (by omega) fun j hj => by
    have z := v_raw_month_days (k := k) (o := o) (y := y) C (i := j) (by omega)
    simp only [exSs, exS, evE, evEs, evAs, evEo, evC, evSrc, evT, frame, getV, getB, Res.ofO, Res.bind, Res.st, SRes.seq, SRes.out, List.getElem?_cons_zero, List.getElem?_cons_succ, List.cons_append, List.nil_append, List.replicate, List.length_cons, List.length_nil, bindT, bindTs, List.set_cons_zero, List.set_cons_succ, frzF, wipeF, z]
  have hb := sumL ((List.range i).map (mlen c y))
  rw [cf_succ f_raw_month_begins rfl]
  rw [← e_raw_month_begins_1] at hc
  simp only [s_raw_month_begins_2, i_raw_month_begins, exSs, exS, evE, evEs, evAs, evEo, evC, evSrc, evT, frame, getV, getB, Res.ofO, Res.bind, Res.st, SRes.seq, SRes.out, List.getElem?_cons_zero, List.getElem?_cons_succ, List.cons_append, List.nil_append, List.replicate, List.length_cons, List.length_nil, bindT, bindTs, List.set_cons_zero, List.set_cons_succ, frzF, wipeF, zy, hc, hb, binD, mbg]
theorem isN_int (h : 0 ≤ y) : isN (.int y) = true := decide_eq_true h
theorem moB_d (hi : i < c.ms.length) : moB c.d (.int (i : Int)) = true := by
  show wi (.int (i : Int)) 0 ((((c.ms.map D.int).length : Nat) : Int) - 1) = true
  rw [List.length_map]
  exact wi_of (by omega) (by omega)
theorem ck_cal (C : c.Ok) : cf (k + 6) "check_calendar" [.val c.d] o = .ok .non o := by
  rw [v_check_calendar c.d (nO_d c) (sm2_d C), calB_d C]
  rfl
theorem ck_year (C : c.Ok) (h0 : 0 ≤ y) : cf (k + 7) "check_year" [.val c.d, .val (.int y)] o = .ok .non o := by
  rw [v_check_year c.d (.int y) (nO_d c) (sm2_d C) rfl, calB_d C, isN_int h0]
  rfl
theorem ck_month (C : c.Ok) (h0 : 0 ≤ y) (hi : i < c.ms.length) : cf (k + 8) "check_month" [.val c.d, .val (.int y), .val (.int (i : Int))] o = .ok .non o := by
  rw [v_check_month c.d (.int y) (.int (i : Int)) (nO_d c) (sm2_d C) rfl rfl, calB_d C, isN_int h0, moB_d hi]
  rfl
theorem v_is_leap (C : c.Ok) (h0 : 0 ≤ y) : cf (k + 8) "is_leap" [.val c.d, .val (.int y)] o = .ok (.bl (lpB c y)) o := by
  have z := ck_year (k := k) (o := o) C h0
  have z2 := v_raw_is_leap (k := k + 6) (o := o) (y := y) C
  rw [cf_succ f_is_leap rfl]
  simp only [s_is_leap_1, s_is_leap_2, i_is_leap, exSs, exS, evE, evEs, evAs, evEo, evC, evSrc, evT, frame, getV, getB, Res.ofO, Res.bind, Res.st, SRes.seq, SRes.out, List.getElem?_cons_zero, List.getElem?_cons_succ, List.cons_append, List.nil_append, List.replicate, List.length_cons, List.length_nil, bindT, bindTs, List.set_cons_zero, List.set_cons_succ, frzF, wipeF, z, z2]
def yd (c : Cal) (y : Int) : Int := c.ms.sum + if lpB c y then c.mr else 0
theorem v_year_days (C : c.Ok) (h0 : 0 ≤ y) : cf (k + 8) "year_days" [.val c.d, .val (.int y)] o = .ok (.int (yd c y)) o := by
  have z := ck_year (k := k) (o := o) C h0
  have z2 := v_raw_year_days (k := k + 5) (o := o) (y := y) C
  rw [cf_succ f_year_days rfl]
  simp only [s_year_days_1, s_year_days_2, i_year_days, exSs, exS, evE, evEs, evAs, evEo, evC, evSrc, evT, frame, getV, getB, Res.ofO, Res.bind, Res.st, SRes.seq, SRes.out, List.getElem?_cons_zero, List.getElem?_cons_succ, List.cons_append, List.nil_append, List.replicate, List.length_cons, List.length_nil, bindT, bindTs, List.set_cons_zero, List.set_cons_succ, frzF, wipeF, z, z2, yd]
theorem v_month_days (C : c.Ok) (h0 : 0 ≤ y) (hi : i < c.ms.length) : cf (k + 9) "month_days" [.val c.d, .val (.int y), .val (.int (i : Int))] o = .ok (.int (mlen c y i)) o := by
  have z := ck_month (k := k) (o := o) C h0 hi
  have z2 := v_raw_month_days (k := k + 6) (o := o) (y := y) C hi
  rw [cf_succ f_month_days rfl]
  simp only [s_month_days_1, s_month_days_2, i_month_days, exSs, exS, evE, evEs, evAs, evEo, evC, evSrc, evT, frame, getV, getB, Res.ofO, Res.bind, Res.st, SRes.seq, SRes.out, List.getElem?_cons_zero, List.getElem?_cons_succ, List.cons_append, List.nil_append, List.replicate, List.length_cons, List.length_nil, bindT, bindTs, List.set_cons_zero, List.set_cons_succ, frzF, wipeF, z, z2]
theorem v_cycle_days (C : c.Ok) : cf (k + 7) "cycle_days" [.val c.d] o = .ok (.int (cyd c)) o := by
  have z := ck_cal (k := k) (o := o) C
  have z2 := v_raw_cycle_days (k := k + 5) (o := o) C
  rw [cf_succ f_cycle_days rfl]
  simp only [s_cycle_days_1, s_cycle_days_2, i_cycle_days, exSs, exS, evE, evEs, evAs, evEo, evC, evSrc, evT, frame, getV, getB, Res.ofO, Res.bind, Res.st, SRes.seq, SRes.out, List.getElem?_cons_zero, List.getElem?_cons_succ, List.cons_append, List.nil_append, List.replicate, List.length_cons, List.length_nil, bindT, bindTs, List.set_cons_zero, List.set_cons_succ, frzF, wipeF, z, z2]
theorem v_year_begins (C : c.Ok) (h0 : 0 ≤ y) (hy : y ≤ 10 ^ 40) : cf (k + 8) "year_begins" [.val c.d, .val (.int y)] o = .ok (.int (ybg c y)) o := by
  have z := ck_year (k := k) (o := o) C h0
  have z2 := v_raw_year_begins (k := k + 5) (o := o) C h0 hy
  rw [cf_succ f_year_begins rfl]
  simp only [s_year_begins_1, s_year_begins_2, i_year_begins, exSs, exS, evE, evEs, evAs, evEo, evC, evSrc, evT, frame, getV, getB, Res.ofO, Res.bind, Res.st, SRes.seq, SRes.out, List.getElem?_cons_zero, List.getElem?_cons_succ, List.cons_append, List.nil_append, List.replicate, List.length_cons, List.length_nil, bindT, bindTs, List.set_cons_zero, List.set_cons_succ, frzF, wipeF, z, z2]
theorem v_month_begins (C : c.Ok) (h0 : 0 ≤ y) (hy : y ≤ 10 ^ 40) (hi : i < c.ms.length) : cf (k + 9) "month_begins" [.val c.d, .val (.int y), .val (.int (i : Int))] o = .ok (.int (mbg c y i)) o := by
  have z := ck_month (k := k) (o := o) C h0 hi
  have z2 := v_raw_month_begins (k := k + 5) (o := o) C h0 hy (Nat.le_of_lt hi) rfl
  rw [cf_succ f_month_begins rfl]
  simp only [s_month_begins_1, s_month_begins_2, i_month_begins, exSs, exS, evE, evEs, evAs, evEo, evC, evSrc, evT, frame, getV, getB, Res.ofO, Res.bind, Res.st, SRes.seq, SRes.out, List.getElem?_cons_zero, List.getElem?_cons_succ, List.cons_append, List.nil_append, List.replicate, List.length_cons, List.length_nil, bindT, bindTs, List.set_cons_zero, List.set_cons_succ, frzF, wipeF, z, z2]
end
end K00

set_option maxHeartbeats 2000000
/-! K00m: sums. -/
namespace K00
open PySem Ev
theorem sum_add {α : Type} (f g : α → Int) : ∀ l : List α, (l.map fun a => f a + g a).sum = (l.map f).sum + (l.map g).sum
  | [] => rfl
  | a :: l => by
    have z := sum_add f g l
    simp only [List.map_cons, List.sum_cons]
    omega
theorem range_getD (l : List Int) : ((List.range l.length).map fun i => l.getD i 0) = l := by
  refine List.ext_getElem (by simp) fun i h1 h2 => ?_
  simp [List.getD, h2]
theorem sum_one (mo r : Int) (b : Bool) (h : 0 ≤ mo) : ∀ n : Nat, ((List.range n).map fun (i : Nat) => if ((i : Int) = mo) ∧ b = true then r else 0).sum = if mo < n ∧ b = true then r else 0
  | 0 => by
    have : ¬ (mo < ((0 : Nat) : Int) ∧ b = true) := fun z => by omega
    rw [if_neg this]
    rfl
  | n + 1 => by
    have z := sum_one mo r b h n
    rw [List.range_succ, List.map_append, List.sum_append, z]
    simp only [List.map_cons, List.map_nil, List.sum_cons, List.sum_nil]
    cases b with
    | false => simp
    | true =>
      by_cases q : (n : Int) = mo
      · rw [if_neg (fun z => by omega), if_pos ⟨q, rfl⟩, if_pos ⟨by omega, rfl⟩]
        omega
      · by_cases q2 : mo < (n : Int)
        · rw [if_pos ⟨q2, rfl⟩, if_neg (fun z => q z.1), if_pos ⟨by omega, rfl⟩]
          omega
        · rw [if_neg (fun z => q2 z.1), if_neg (fun z => q z.1), if_neg (fun z => by omega)]
          omega
section
variable {c : Cal} {y : Int}
def lens (c : Cal) (y : Int) : List Int := (List.range c.ms.length).map (mlen c y)
theorem sum_lens (C : c.Ok) : (lens c y).sum = yd c y := by
  have e : lens c y = (List.range c.ms.length).map fun i => c.ms.getD i 0 + if ((i : Int) = c.mo) ∧ lpB c y = true then c.mr else 0 := rfl
  rw [e, sum_add, range_getD, sum_one c.mo c.mr (lpB c y) C.o1]
  unfold yd
  cases q : lpB c y with
  | true => rw [if_pos ⟨C.o2, rfl⟩, if_pos rfl]
  | false => rw [if_neg (fun z => by simp at z), if_neg (fun z => by simp at z)]
theorem ris_pw : ∀ {l : List Int}, ris l = true → l.Pairwise (· < ·)
  | [], _ => List.Pairwise.nil
  | [a], _ => List.pairwise_singleton _ _
  | a :: b :: t, h => by
    have h : (decide (a < b) && ris (b :: t)) = true := h
    rw [Bool.and_eq_true, decide_eq_true_eq] at h
    have z := ris_pw h.2
    refine List.pairwise_cons.mpr ⟨fun x hx => ?_, z⟩
    rcases List.mem_cons.mp hx with rfl | hx
    · exact h.1
    · exact Int.lt_trans h.1 ((List.pairwise_cons.mp z).1 x hx)
theorem cnt_succ (r : Int) : ∀ {l : List Int}, l.Pairwise (· < ·) → (((l.filter fun x => decide (x < r + 1)).length : Nat) : Int) = ((l.filter fun x => decide (x < r)).length : Nat) + if decide (r ∈ l) = true then 1 else 0
  | [], _ => rfl
  | a :: t, h => by
    have ha := (List.pairwise_cons.mp h).1
    have ih := cnt_succ r (List.pairwise_cons.mp h).2
    by_cases q1 : a < r
    · have e1 : decide (r ∈ a :: t) = decide (r ∈ t) := by
        rw [Bool.eq_iff_iff, decide_eq_true_eq, decide_eq_true_eq, List.mem_cons]
        exact ⟨fun z => z.resolve_left (by omega), Or.inr⟩
      rw [List.filter_cons_of_pos (p := fun x => decide (x < r + 1)) (decide_eq_true (show a < r + 1 by omega)), List.filter_cons_of_pos (p := fun x => decide (x < r)) (decide_eq_true q1), List.length_cons, List.length_cons, e1]
      omega
    · have hn : r ∉ t := fun z => by
        have := ha r z
        omega
      rw [if_neg (by rw [decide_eq_true_eq]; exact hn)] at ih
      by_cases q2 : a = r
      · subst q2
        rw [List.filter_cons_of_pos (p := fun x => decide (x < a + 1)) (decide_eq_true (show a < a + 1 by omega)), List.filter_cons_of_neg (p := fun x => decide (x < a)) (by rw [decide_eq_true_eq]; omega), List.length_cons, if_pos (decide_eq_true List.mem_cons_self)]
        omega
      · have hn2 : r ∉ a :: t := fun z => by
          rcases List.mem_cons.mp z with z | z
          · omega
          · exact hn z
        rw [List.filter_cons_of_neg (p := fun x => decide (x < r + 1)) (by rw [decide_eq_true_eq]; omega), List.filter_cons_of_neg (p := fun x => decide (x < r)) (by rw [decide_eq_true_eq]; omega), if_neg (by rw [decide_eq_true_eq]; exact hn2)]
        omega
theorem leaps_succ (C : c.Ok) (r : Int) : leaps c (r + 1) = leaps c r + if decide (r ∈ c.ls) = true then 1 else 0 := cnt_succ r (ris_pw C.lr)
theorem leaps_0 (C : c.Ok) : leaps c 0 = 0 := by
  unfold leaps
  rw [List.filter_eq_nil_iff.mpr fun l hl => by have := C.ll l hl; rw [decide_eq_true_eq]; omega]
  rfl
theorem leaps_all (C : c.Ok) : leaps c c.cy = c.ls.length := by
  unfold leaps
  rw [List.filter_eq_self.mpr fun l hl => decide_eq_true (C.ll l hl).2]
theorem ybg_0 (C : c.Ok) : ybg c 0 = 0 := by
  unfold ybg
  rw [Int.zero_ediv, Int.zero_emod, leaps_0 C]
  omega
theorem ybg_succ (C : c.Ok) (h0 : 0 ≤ y) : ybg c (y + 1) = ybg c y + yd c y := by
  have hp : 0 < c.cy := by
    have := C.c1
    omega
  have r1 := Int.emod_nonneg y (show c.cy ≠ 0 by omega)
  have r2 := Int.emod_lt_of_pos y hp
  have e := Int.mul_ediv_add_emod y c.cy
  unfold ybg yd lpB
  generalize y % c.cy = r at *
  generalize y / c.cy = q at *
  have ls := leaps_succ C r
  have m1 : (leaps c r + 1) * c.mr = leaps c r * c.mr + c.mr := by rw [Int.add_mul, Int.one_mul]
  by_cases w : r + 1 < c.cy
  · obtain ⟨e1, e2⟩ := (Int.ediv_emod_unique hp (a := y + 1) (q := q) (r := r + 1)).mpr ⟨by omega, by omega, w⟩
    rw [e1, e2, ls]
    have m2 : (r + 1) * c.ms.sum = r * c.ms.sum + c.ms.sum := by rw [Int.add_mul, Int.one_mul]
    cases decide (r ∈ c.ls) with
    | true =>
      rw [if_pos rfl, if_pos rfl, m1, m2]
      omega
    | false =>
      rw [if_neg Bool.false_ne_true, if_neg Bool.false_ne_true, m2, Int.add_zero]
      omega
  · have w : r + 1 = c.cy := by omega
    have m4 : c.cy * (q + 1) = c.cy * q + c.cy := by rw [Int.mul_add, Int.mul_one]
    obtain ⟨e1, e2⟩ := (Int.ediv_emod_unique hp (a := y + 1) (q := q + 1) (r := 0)).mpr ⟨by omega, by omega, hp⟩
    have la := leaps_all C
    rw [← w, ls] at la
    have m2 : (r + 1) * c.ms.sum = r * c.ms.sum + c.ms.sum := by rw [Int.add_mul, Int.one_mul]
    have m3 : (q + 1) * cyd c = q * cyd c + cyd c := by rw [Int.add_mul, Int.one_mul]
    have e3 : cyd c = (r + 1) * c.ms.sum + (c.ls.length : Int) * c.mr := by
      unfold cyd
      rw [w]
    rw [e1, e2, leaps_0 C, m3, Int.zero_mul, Int.zero_mul]
    rw [← la] at e3
    cases q2 : decide (r ∈ c.ls) with
    | true =>
      rw [q2, if_pos rfl, m1, m2] at e3
      rw [if_pos rfl]
      omega
    | false =>
      rw [q2, if_neg Bool.false_ne_true, m2, Int.add_zero] at e3
      rw [if_neg Bool.false_ne_true]
      omega
theorem ybg_cy (C : c.Ok) : ybg c c.cy = cyd c := by
  have := C.c1
  unfold ybg
  rw [Int.ediv_self (by omega), Int.emod_self, leaps_0 C]
  omega
theorem mbg_0 : mbg c y 0 = ybg c y := by
  unfold mbg
  show ybg c y + 0 = _
  omega
theorem mbg_end (C : c.Ok) (h0 : 0 ≤ y) : mbg c y c.ms.length = ybg c (y + 1) := by
  rw [ybg_succ C h0, ← sum_lens C]
  rfl
theorem mbg_succ (i : Nat) : mbg c y (i + 1) = mbg c y i + mlen c y i := by
  unfold mbg
  rw [List.range_succ, List.map_append, List.sum_append]
  simp only [List.map_cons, List.map_nil, List.sum_cons, List.sum_nil]
  omega
def bgs (c : Cal) (y : Int) : List Int := (List.range (c.ms.length + 1)).map (mbg c y)
theorem bgs_eq (C : c.Ok) (h0 : 0 ≤ y) : (List.range c.ms.length).map (mbg c y) ++ [ybg c (y + 1)] = bgs c y := by
  unfold bgs
  rw [List.range_succ, List.map_append, ← mbg_end C h0]
  rfl
theorem steps_eq : ((bgs c y).zip ((bgs c y).drop 1)).map (fun p => p.2 - p.1) = lens c y := by
  refine List.ext_getElem (by simp [bgs, lens]) fun i h1 h2 => ?_
  have hi : i < c.ms.length := by simpa [lens] using h2
  simp only [bgs, lens, List.getElem_map, List.getElem_zip, List.getElem_drop, List.getElem_range]
  have e : 1 + i = i + 1 := by omega
  rw [e, mbg_succ]
  omega
end
theorem eqL (l : List Int) : eqD (.lst (l.map D.int)) (.lst (l.map D.int)) = some true := by
  have h1 : ∀ l : List Int, D.pys (l.map D.int) = some (l.map PyData.int) := fun l => by
    induction l with
    | nil => rfl
    | cons a l ih =>
      show (match D.py (.int a), D.pys (l.map D.int) with | some x, some xs => some (x :: xs) | _, _ => none) = _
      rw [ih]
      rfl
  have h2 : ∀ l : List Int, PyData.canLayAll0 (l.map PyData.int) = true := fun l => by
    induction l with
    | nil => rfl
    | cons a l ih =>
      show (true && PyData.canLayAll0 (l.map PyData.int)) = true
      rw [ih]
      rfl
  have h3 : ∀ l : List Int, PyData.depthAll (l.map PyData.int) = 0 := fun l => by
    induction l with
    | nil => rfl
    | cons a l ih =>
      show max 0 (PyData.depthAll (l.map PyData.int)) = 0
      rw [ih]
      rfl
  have hp : D.py (.lst (l.map D.int)) = some (.list (l.map PyData.int)) := by
    show (D.pys (l.map D.int)).map PyData.list = _
    rw [h1]
    rfl
  have hs : SeqAt.shaped (.list (l.map PyData.int)) = true := by
    show (PyData.canLayAll0 (l.map PyData.int) && decide (PyData.depthAll (l.map PyData.int) + 1 ≤ 64)) = true
    rw [h2, h3]
    rfl
  unfold eqD
  rw [hp]
  show (if (SeqAt.shaped (.list (l.map PyData.int)) && SeqAt.shaped (.list (l.map PyData.int))) = true then some (PyData.eqv (.list (l.map PyData.int)) (.list (l.map PyData.int))) else none) = _
  rw [hs]
  have e : PyData.eqv (.list (l.map PyData.int)) (.list (l.map PyData.int)) = true := SeqAt.eqv_refl _ (h2 l)
  rw [e]
  rfl
end K00

set_option maxHeartbeats 2000000
/-! K00p: the law's own sums. -/
namespace K00
open PySem Ev
theorem eqB (b : Bool) : eqD (.bl b) (.bl b) = some true := by
  cases b <;> rfl
theorem eqIr (a : Int) : eqD (.int a) (.int a) = some true := by
  rw [eqI, decide_eq_true rfl]
theorem loopF_nx {bd : D → Frm → Option Frm} {b : Frm → Objs → SRes} {P : Nat → Frm → Objs → Prop} : ∀ (n s : Nat) (ρ : Frm) (o : Objs), P s ρ o → (∀ (j : Nat) (ρ : Frm) (o : Objs), s ≤ j → j < s + n → P j ρ o → ∃ ρ1, bd (.int (j : Int)) ρ = some ρ1 ∧ ∃ ρ' o', b ρ1 o = .nx ρ' o' ∧ P (j + 1) ρ' o') →
    ∃ ρ' o', loopF bd b ((List.range' s n).map fun (j : Nat) => D.int (j : Int)) ρ o = .nx ρ' o' ∧ P (s + n) ρ' o'
  | 0, s, ρ, o, h, _ => ⟨ρ, o, rfl, h⟩
  | n + 1, s, ρ, o, h, hs => by
    obtain ⟨ρ1, h1, ρ2, o2, h2, h3⟩ := hs s ρ o (by omega) (by omega) h
    obtain ⟨ρ3, o3, h4, h5⟩ := loopF_nx n (s + 1) ρ2 o2 h3 fun j ρ o a b z => hs j ρ o (by omega) (by omega) z
    refine ⟨ρ3, o3, ?_, by rw [show s + (n + 1) = s + 1 + n by omega]; exact h5⟩
    rw [List.range'_succ, List.map_cons]
    unfold loopF
    simp only [h1, h2]
    exact h4
section
variable {k : Nat} {o : Objs} {c : Cal} {y : Int} {i : Nat}
theorem v_length (C : c.Ok) (hi : i < c.ms.length) : cf (k + 1) "_law_length" [.val c.d, .val (.int y), .val (.int (i : Int))] o = .ok (.int (mlen c y i)) o := by
  have e : (Cal.d c) = .tup [.int c.w, iT c.ms, c.leap] := rfl
  have el : c.leap = .tup [.int c.cy, iT c.ls, .int c.mo, .int c.mr] := rfl
  have em := at_ms hi
  have h : decide (0 < c.cy) = true := decide_eq_true (by have := C.c1; omega)
  have hin : inD (.int (y % c.cy)) (.tup (c.ls.map D.int)) = some (lpB c y) := inD_ints _ _
  have e1 : exS (cf k) (cc k) T.con T.isa 100 s__law_length_1 [.val c.d, .val (.int y), .val (.int (i : Int)), .none, .none, .none, .none] o = .nx [.val c.d, .val (.int y), .val (.int (i : Int)), .val (.int c.cy), .val (iT c.ls), .val (.int c.mo), .val (.int c.mr)] o := by
    simp only [s__law_length_1, exSs, exS, evE, evEs, evAs, evEo, evC, evSrc, evT, frame, getV, getB, Res.ofO, Res.bind, Res.st, SRes.seq, SRes.out, List.getElem?_cons_zero, List.getElem?_cons_succ, List.cons_append, List.nil_append, List.replicate, List.length_cons, List.length_nil, bindT, bindTs, List.set_cons_zero, List.set_cons_succ, frzF, wipeF, e, el, idxD, at3]
  have e2 : exS (cf k) (cc k) T.con T.isa 100 s__law_length_2 [.val c.d, .val (.int y), .val (.int (i : Int)), .val (.int c.cy), .val (iT c.ls), .val (.int c.mo), .val (.int c.mr)] o = .ret (.int (mlen c y i)) o := by
    cases q : decide ((i : Int) = c.mo) with
    | false =>
      have hne : ¬ ((i : Int) = c.mo) := of_decide_eq_false q
      have ev : mlen c y i = c.ms.getD i 0 + 0 := by
        unfold mlen
        rw [if_neg fun z => hne z.1]
      rw [ev]
      simp only [s__law_length_2, exSs, exS, evE, evEs, evAs, evEo, evC, evSrc, evT, frame, getV, getB, Res.ofO, Res.bind, Res.st, SRes.seq, SRes.out, List.getElem?_cons_zero, List.getElem?_cons_succ, List.cons_append, List.nil_append, List.replicate, List.length_cons, List.length_nil, bindT, bindTs, List.set_cons_zero, List.set_cons_succ, frzF, wipeF, e, el, idxD, at3, at4, cmpD, eqI, Option.map, q, iT, em, binD]
    | true =>
      have heq : (i : Int) = c.mo := of_decide_eq_true q
      cases q2 : lpB c y with
      | false =>
        rw [q2] at hin
        have ev : mlen c y i = c.ms.getD i 0 + 0 := by
          unfold mlen
          rw [if_neg fun z => by rw [q2] at z; exact absurd z.2 Bool.false_ne_true]
        rw [ev]
        simp only [s__law_length_2, exSs, exS, evE, evEs, evAs, evEo, evC, evSrc, evT, frame, getV, getB, Res.ofO, Res.bind, Res.st, SRes.seq, SRes.out, List.getElem?_cons_zero, List.getElem?_cons_succ, List.cons_append, List.nil_append, List.replicate, List.length_cons, List.length_nil, bindT, bindTs, List.set_cons_zero, List.set_cons_succ, frzF, wipeF, e, el, idxD, at3, at4, cmpD, eqI, Option.map, q, iT, em, binD, bifD, h, if_true, hin]
      | true =>
        rw [q2] at hin
        have ev : mlen c y i = c.ms.getD i 0 + c.mr := by
          unfold mlen
          rw [if_pos ⟨heq, q2⟩]
        rw [ev]
        simp only [s__law_length_2, exSs, exS, evE, evEs, evAs, evEo, evC, evSrc, evT, frame, getV, getB, Res.ofO, Res.bind, Res.st, SRes.seq, SRes.out, List.getElem?_cons_zero, List.getElem?_cons_succ, List.cons_append, List.nil_append, List.replicate, List.length_cons, List.length_nil, bindT, bindTs, List.set_cons_zero, List.set_cons_succ, frzF, wipeF, e, el, idxD, at3, at4, cmpD, eqI, Option.map, q, iT, em, binD, bifD, h, if_true, hin]
  rw [cf_succ f__law_length rfl]
  show ((exSs (cf k) (cc k) T.con T.isa 100 (.cons s__law_length_1 (.cons s__law_length_2 .nil)) [.val c.d, .val (.int y), .val (.int (i : Int)), .none, .none, .none, .none] o).out) = _
  rw [exSs, e1]
  simp only [SRes.seq]
  rw [exSs, e2]
  rfl
theorem len_bgs : (bgs c y).length = c.ms.length + 1 := by
  unfold bgs
  rw [List.length_map, List.length_range]
theorem v_year_right (C : c.Ok) (h0 : 0 ≤ y) (hy : y ≤ 10 ^ 30) : cf (k + 10) "_law_year_right" [.val c.d, .val (.int y)] o = .ok (.bl true) o := by
  have hm := C.m2
  obtain ⟨nm, hx⟩ : ∃ x : Int, x = (c.ms.length : Int) := ⟨_, rfl⟩
  have e : (Cal.d c) = .tup [.int c.w, iT c.ms, c.leap] := rfl
  have el : c.leap = .tup [.int c.cy, iT c.ls, .int c.mo, .int c.mr] := rfl
  have h : decide (0 < c.cy) = true := decide_eq_true (by have := C.c1; omega)
  have e1 : exS (cf (k + 9)) (cc (k + 9)) T.con T.isa 100 s__law_year_right_1 [.val c.d, .val (.int y), .none, .none, .none, .none, .none, .none, .none, .none] o = .nx [.val c.d, .val (.int y), .val (.int nm), .none, .none, .none, .none, .none, .none, .none] o := by
    simp only [s__law_year_right_1, exSs, exS, evE, evEs, evAs, evEo, evC, evSrc, evT, frame, getV, getB, Res.ofO, Res.bind, Res.st, SRes.seq, SRes.out, List.getElem?_cons_zero, List.getElem?_cons_succ, List.cons_append, List.nil_append, List.replicate, List.length_cons, List.length_nil, bindT, bindTs, List.set_cons_zero, List.set_cons_succ, frzF, wipeF, e, idxD, at3, len_iT, hx]
  have c2 : evE (cf (k + 9)) (cc (k + 9)) T.con T.isa e__law_year_right_2 [.val c.d, .val (.int y), .val (.int nm), .none, .none, .none, .none, .none, .none, .none] o = .ok (.lst ((lens c y).map D.int)) o := comp_rng rfl hx (by omega) fun j hj => by
    have z := v_length (k := k + 8) (o := o) (y := y) C hj
    simp only [exSs, exS, evE, evEs, evAs, evEo, evC, evSrc, evT, frame, getV, getB, Res.ofO, Res.bind, Res.st, SRes.seq, SRes.out, List.getElem?_cons_zero, List.getElem?_cons_succ, List.cons_append, List.nil_append, List.replicate, List.length_cons, List.length_nil, bindT, bindTs, List.set_cons_zero, List.set_cons_succ, frzF, wipeF, z]
  have e3 : exS (cf (k + 9)) (cc (k + 9)) T.con T.isa 100 s__law_year_right_3 [.val c.d, .val (.int y), .val (.int nm), .none, .none, .none, .none, .none, .none, .none] o = .nx [.val c.d, .val (.int y), .val (.int nm), .val (.lst ((lens c y).map D.int)), .none, .none, .none, .none, .none, .none] o := by
    simp only [s__law_year_right_3, exSs, exS, evE, evEs, evAs, evEo, evC, evSrc, evT, frame, getV, getB, Res.ofO, Res.bind, Res.st, SRes.seq, SRes.out, List.getElem?_cons_zero, List.getElem?_cons_succ, List.cons_append, List.nil_append, List.replicate, List.length_cons, List.length_nil, bindT, bindTs, List.set_cons_zero, List.set_cons_succ, frzF, wipeF, c2]
  have c4 : evE (cf (k + 9)) (cc (k + 9)) T.con T.isa e__law_year_right_4 [.val c.d, .val (.int y), .val (.int nm), .val (.lst ((lens c y).map D.int)), .none, .none, .none, .none, .none, .none] o = .ok (.lst ((lens c y).map D.int)) o := comp_rng rfl hx (by omega) fun j hj => by
    have z := v_month_days (k := k) (o := o) (y := y) C h0 hj
    simp only [exSs, exS, evE, evEs, evAs, evEo, evC, evSrc, evT, frame, getV, getB, Res.ofO, Res.bind, Res.st, SRes.seq, SRes.out, List.getElem?_cons_zero, List.getElem?_cons_succ, List.cons_append, List.nil_append, List.replicate, List.length_cons, List.length_nil, bindT, bindTs, List.set_cons_zero, List.set_cons_succ, frzF, wipeF, z]
  have eL := eqL (lens c y)
  have e6 : exS (cf (k + 9)) (cc (k + 9)) T.con T.isa 100 s__law_year_right_6 [.val c.d, .val (.int y), .val (.int nm), .val (.lst ((lens c y).map D.int)), .none, .none, .none, .none, .none, .none] o = .nx [.val c.d, .val (.int y), .val (.int nm), .val (.lst ((lens c y).map D.int)), .none, .none, .none, .none, .none, .none] o := by
    simp only [s__law_year_right_6, exSs, exS, evE, evEs, evAs, evEo, evC, evSrc, evT, frame, getV, getB, Res.ofO, Res.bind, Res.st, SRes.seq, SRes.out, List.getElem?_cons_zero, List.getElem?_cons_succ, List.cons_append, List.nil_append, List.replicate, List.length_cons, List.length_nil, bindT, bindTs, List.set_cons_zero, List.set_cons_succ, frzF, wipeF, c4, cmpD, eL, Option.map, Bool.not_true, Bool.false_eq_true, if_false]
  have e7 : exS (cf (k + 9)) (cc (k + 9)) T.con T.isa 100 s__law_year_right_7 [.val c.d, .val (.int y), .val (.int nm), .val (.lst ((lens c y).map D.int)), .none, .none, .none, .none, .none, .none] o = .nx [.val c.d, .val (.int y), .val (.int nm), .val (.lst ((lens c y).map D.int)), .val (.int (y % c.cy)), .none, .none, .none, .none, .none] o := by
    simp only [s__law_year_right_7, exSs, exS, evE, evEs, evAs, evEo, evC, evSrc, evT, frame, getV, getB, Res.ofO, Res.bind, Res.st, SRes.seq, SRes.out, List.getElem?_cons_zero, List.getElem?_cons_succ, List.cons_append, List.nil_append, List.replicate, List.length_cons, List.length_nil, bindT, bindTs, List.set_cons_zero, List.set_cons_succ, frzF, wipeF, e, el, idxD, at3, at4, binD, bifD, h, if_true]
  have hin : inD (.int (y % c.cy)) (.tup (c.ls.map D.int)) = some (lpB c y) := inD_ints _ _
  have zl := v_is_leap (k := k + 1) (o := o) (y := y) C h0
  rw [e, el] at zl
  unfold iT at zl
  have eb := eqB (lpB c y)
  have e9 : exS (cf (k + 9)) (cc (k + 9)) T.con T.isa 100 s__law_year_right_9 [.val c.d, .val (.int y), .val (.int nm), .val (.lst ((lens c y).map D.int)), .val (.int (y % c.cy)), .none, .none, .none, .none, .none] o = .nx [.val c.d, .val (.int y), .val (.int nm), .val (.lst ((lens c y).map D.int)), .val (.int (y % c.cy)), .none, .none, .none, .none, .none] o := by
    simp only [s__law_year_right_9, exSs, exS, evE, evEs, evAs, evEo, evC, evSrc, evT, frame, getV, getB, Res.ofO, Res.bind, Res.st, SRes.seq, SRes.out, List.getElem?_cons_zero, List.getElem?_cons_succ, List.cons_append, List.nil_append, List.replicate, List.length_cons, List.length_nil, bindT, bindTs, List.set_cons_zero, List.set_cons_succ, frzF, wipeF, e, el, iT, idxD, at3, at4, zl, cmpD, hin, Option.map, eb, Bool.not_true, Bool.false_eq_true, if_false]
  have c10 : evE (cf (k + 9)) (cc (k + 9)) T.con T.isa e__law_year_right_10 [.val c.d, .val (.int y), .val (.int nm), .val (.lst ((lens c y).map D.int)), .val (.int (y % c.cy)), .none, .none, .none, .none, .none] o = .ok (.lst (((List.range c.ms.length).map (mbg c y)).map D.int)) o := comp_rng rfl hx (by omega) fun j hj => by
    have z := v_month_begins (k := k) (o := o) (y := y) C h0 (by omega) hj
    simp only [exSs, exS, evE, evEs, evAs, evEo, evC, evSrc, evT, frame, getV, getB, Res.ofO, Res.bind, Res.st, SRes.seq, SRes.out, List.getElem?_cons_zero, List.getElem?_cons_succ, List.cons_append, List.nil_append, List.replicate, List.length_cons, List.length_nil, bindT, bindTs, List.set_cons_zero, List.set_cons_succ, frzF, wipeF, z]
  have zy := v_year_begins (k := k + 1) (o := o) (y := y + 1) C (by omega) (by omega)
  have s1 : sz 1 = true := by decide
  have s2 : sz ((((List.range c.ms.length).map (mbg c y)).map D.int).length + [D.int (ybg c (y + 1))].length) = true := decide_eq_true (by
    rw [List.length_map, List.length_map, List.length_range]
    exact Nat.le_trans (show c.ms.length + 1 ≤ 5 by omega) (Nat.le_of_ble_eq_true rfl))
  have eg : (((List.range c.ms.length).map (mbg c y)).map D.int ++ [D.int (ybg c (y + 1))]) = (bgs c y).map D.int := by
    rw [← bgs_eq C h0, List.map_append]
    rfl
  have ea : binD .Add (.lst (((List.range c.ms.length).map (mbg c y)).map D.int)) (.lst [D.int (ybg c (y + 1))]) = some (.lst ((bgs c y).map D.int)) := by
    rw [← eg]
    exact if_pos s2
  have eb1 : binD .Add (.int y) (.int 1) = some (.int (y + 1)) := rfl
  have e11 : exS (cf (k + 9)) (cc (k + 9)) T.con T.isa 100 s__law_year_right_11 [.val c.d, .val (.int y), .val (.int nm), .val (.lst ((lens c y).map D.int)), .val (.int (y % c.cy)), .none, .none, .none, .none, .none] o = .nx [.val c.d, .val (.int y), .val (.int nm), .val (.lst ((lens c y).map D.int)), .val (.int (y % c.cy)), .val (.lst ((bgs c y).map D.int)), .none, .none, .none, .none] o := by
    simp only [s__law_year_right_11, exSs, exS, evE, evEs, evAs, evEo, evC, evSrc, evT, frame, getV, getB, Res.ofO, Res.bind, Res.st, SRes.seq, SRes.out, List.getElem?_cons_zero, List.getElem?_cons_succ, List.cons_append, List.nil_append, List.replicate, List.length_cons, List.length_nil, bindT, bindTs, List.set_cons_zero, List.set_cons_succ, frzF, wipeF, c10, eb1, zy, s1, if_true, ea]
  have c12 : evE (cf (k + 9)) (cc (k + 9)) T.con T.isa e__law_year_right_12 [.val c.d, .val (.int y), .val (.int nm), .val (.lst ((lens c y).map D.int)), .val (.int (y % c.cy)), .val (.lst ((bgs c y).map D.int)), .none, .none, .none, .none] o = .ok (.lst ((lens c y).map D.int)) o := by
    refine comp_ok (ds := ((bgs c y).zip ((bgs c y).drop 1)).map fun p => D.tup [.int p.1, .int p.2]) (o1 := o) ?_ ?_ ?_
    · simp only [exSs, exS, evE, evEs, evAs, evEo, evC, evSrc, evT, frame, getV, getB, Res.ofO, Res.bind, Res.st, SRes.seq, SRes.out, List.getElem?_cons_zero, List.getElem?_cons_succ, List.cons_append, List.nil_append, List.replicate, List.length_cons, List.length_nil, bindT, bindTs, List.set_cons_zero, List.set_cons_succ, frzF, wipeF, slcD, cut1, ← List.map_drop, zipE]
    · have z := compL_map (o := o) (f := fun d => match d with
        | .tup [.int a, .int b] => D.int (b - a)
        | _ => .non) (ds := ((bgs c y).zip ((bgs c y).drop 1)).map fun p => D.tup [.int p.1, .int p.2]) (bd := fun d => bindT (.tup [(.name 8), (.name 9)]) d (wipeF [.val c.d, .val (.int y), .val (.int nm), .val (.lst ((lens c y).map D.int)), .val (.int (y % c.cy)), .val (.lst ((bgs c y).map D.int)), .none, .none, .none, .none] [8, 9])) (cnd := fun ρ' o' => evC (cf (k + 9)) (cc (k + 9)) T.con T.isa .none ρ' o') (el := fun ρ' o' => evE (cf (k + 9)) (cc (k + 9)) T.con T.isa (.bin .Sub (.bor 9) (.bor 8)) ρ' o') fun d hd => by
        obtain ⟨p, _, rfl⟩ := List.mem_map.mp hd
        exact ⟨_, rfl, rfl, rfl⟩
      rw [List.map_map] at z
      refine z.trans ?_
      rw [← steps_eq, List.map_map]
      rfl
    · rw [List.length_map]
      unfold lens
      rw [List.length_map, List.length_range]
      exact Nat.le_trans hm (Nat.le_of_ble_eq_true rfl)
  have e13 : exS (cf (k + 9)) (cc (k + 9)) T.con T.isa 100 s__law_year_right_13 [.val c.d, .val (.int y), .val (.int nm), .val (.lst ((lens c y).map D.int)), .val (.int (y % c.cy)), .val (.lst ((bgs c y).map D.int)), .none, .none, .none, .none] o = .nx [.val c.d, .val (.int y), .val (.int nm), .val (.lst ((lens c y).map D.int)), .val (.int (y % c.cy)), .val (.lst ((bgs c y).map D.int)), .val (.lst ((lens c y).map D.int)), .none, .none, .none] o := by
    simp only [s__law_year_right_13, exSs, exS, evE, evEs, evAs, evEo, evC, evSrc, evT, frame, getV, getB, Res.ofO, Res.bind, Res.st, SRes.seq, SRes.out, List.getElem?_cons_zero, List.getElem?_cons_succ, List.cons_append, List.nil_append, List.replicate, List.length_cons, List.length_nil, bindT, bindTs, List.set_cons_zero, List.set_cons_succ, frzF, wipeF, c12]
  have zd := v_year_days (k := k + 1) (o := o) (y := y) C h0
  have zb := v_year_begins (k := k + 1) (o := o) (y := y) C h0 (by omega)
  have es := sumL (lens c y)
  have g1 : eqD (.int (yd c y)) (.int (lens c y).sum) = some true := by rw [sum_lens C, eqIr]
  have a0 : L2.atI ((bgs c y).map D.int) 0 = some (.int (ybg c y)) := by
    have z := atI_nat (l := (bgs c y).map D.int) (i := 0) (by rw [List.length_map, len_bgs]; omega)
    rw [List.getElem_map] at z
    have z2 : (bgs c y)[0]'(by rw [len_bgs]; omega) = ybg c y := by
      unfold bgs
      rw [List.getElem_map, List.getElem_range, mbg_0]
    rw [z2] at z
    exact z
  have g2 := eqIr (ybg c y)
  have e14 : exS (cf (k + 9)) (cc (k + 9)) T.con T.isa 100 s__law_year_right_14 [.val c.d, .val (.int y), .val (.int nm), .val (.lst ((lens c y).map D.int)), .val (.int (y % c.cy)), .val (.lst ((bgs c y).map D.int)), .val (.lst ((lens c y).map D.int)), .none, .none, .none] o = .ret (.bl true) o := by
    simp only [s__law_year_right_14, exSs, exS, evE, evEs, evAs, evEo, evC, evSrc, evT, frame, getV, getB, Res.ofO, Res.bind, Res.st, SRes.seq, SRes.out, List.getElem?_cons_zero, List.getElem?_cons_succ, List.cons_append, List.nil_append, List.replicate, List.length_cons, List.length_nil, bindT, bindTs, List.set_cons_zero, List.set_cons_succ, frzF, wipeF, zd, es, cmpD, g1, eL, Option.map, idxD, a0, zb, g2]
  rw [cf_succ f__law_year_right rfl]
  show ((exSs (cf (k + 9)) (cc (k + 9)) T.con T.isa 100 (.cons s__law_year_right_1 (.cons s__law_year_right_3 (.cons s__law_year_right_6 (.cons s__law_year_right_7 (.cons s__law_year_right_9 (.cons s__law_year_right_11 (.cons s__law_year_right_13 (.cons s__law_year_right_14 .nil)))))))) [.val c.d, .val (.int y), .none, .none, .none, .none, .none, .none, .none, .none] o).out) = _
  rw [exSs, e1]
  simp only [SRes.seq]
  rw [exSs, e3]
  simp only [SRes.seq]
  rw [exSs, e6]
  simp only [SRes.seq]
  rw [exSs, e7]
  simp only [SRes.seq]
  rw [exSs, e9]
  simp only [SRes.seq]
  rw [exSs, e11]
  simp only [SRes.seq]
  rw [exSs, e13]
  simp only [SRes.seq]
  rw [exSs, e14]
  rfl
theorem st_addsum {F : FnT} {C : CloT} {G : Str → Option D} {is : Str → Str → Bool} {E : IE} {d w : D} {a j b : Int} {l : List Int} (c3 : evE F C G is E [.val d, .val w, .val (.int a), .val (.int j), .none] o = .ok (.lst (l.map D.int)) o) (hb : a + l.sum = b) : exSs F C G is 100 (ISs.cons (IS.set (.name 2) (.bin .Add (.bor 2) (.bif .sum (.cons E .nil)))) .nil) [.val d, .val w, .val (.int a), .val (.int j), .none] o = .nx [.val d, .val w, .val (.int b), .val (.int j), .none] o := by
  have hs := sumL l
  subst hb
  simp only [exSs, exS, evE, evEs, evAs, evEo, evC, evSrc, evT, frame, getV, getB, Res.ofO, Res.bind, Res.st, SRes.seq, SRes.out, List.getElem?_cons_zero, List.getElem?_cons_succ, List.cons_append, List.nil_append, List.replicate, List.length_cons, List.length_nil, bindT, bindTs, List.set_cons_zero, List.set_cons_succ, frzF, wipeF, c3, hs, binD]
theorem cyc_step (C : c.Ok) {j : Int} (hj0 : 0 ≤ j) : exSs (cf (k + 9)) (cc (k + 9)) T.con T.isa 100 b__law_cycle_right_5 [.val c.d, .val (.int c.cy), .val (.int (ybg c j)), .val (.int j), .none] o = .nx [.val c.d, .val (.int c.cy), .val (.int (ybg c (j + 1))), .val (.int j), .none] o := by
  have hm := C.m2
  have e : (Cal.d c) = .tup [.int c.w, iT c.ms, c.leap] := rfl
  obtain ⟨nm, hx⟩ : ∃ x : Int, x = (c.ms.length : Int) := ⟨_, rfl⟩
  have ha : evE (cf (k + 9)) (cc (k + 9)) T.con T.isa (.bif .len (.cons (.idx (.bor 0) (.int 1)) .nil)) [.val c.d, .val (.int c.cy), .val (.int (ybg c j)), .val (.int j), .none] o = .ok (.int nm) o := by
    simp only [exSs, exS, evE, evEs, evAs, evEo, evC, evSrc, evT, frame, getV, getB, Res.ofO, Res.bind, Res.st, SRes.seq, SRes.out, List.getElem?_cons_zero, List.getElem?_cons_succ, List.cons_append, List.nil_append, List.replicate, List.length_cons, List.length_nil, bindT, bindTs, List.set_cons_zero, List.set_cons_succ, frzF, wipeF, e, idxD, at3, len_iT, hx]
  have c3 : evE (cf (k + 9)) (cc (k + 9)) T.con T.isa e__law_cycle_right_3 [.val c.d, .val (.int c.cy), .val (.int (ybg c j)), .val (.int j), .none] o = .ok (.lst ((lens c j).map D.int)) o := comp_rng ha hx (by omega) fun i hi => by
    have z := v_length (k := k + 8) (o := o) (y := j) C hi
    simp only [exSs, exS, evE, evEs, evAs, evEo, evC, evSrc, evT, frame, getV, getB, Res.ofO, Res.bind, Res.st, SRes.seq, SRes.out, List.getElem?_cons_zero, List.getElem?_cons_succ, List.cons_append, List.nil_append, List.replicate, List.length_cons, List.length_nil, bindT, bindTs, List.set_cons_zero, List.set_cons_succ, frzF, wipeF, z]
  have ey : ybg c j + (lens c j).sum = ybg c (j + 1) := by
    rw [sum_lens C]
    exact (ybg_succ C hj0).symm
  rw [b__law_cycle_right_5, s__law_cycle_right_4]
  exact st_addsum c3 ey
theorem v_cycle_right (C : c.Ok) : cf (k + 10) "_law_cycle_right" [.val c.d] o = .ok (.bl true) o := by
  have hm := C.m2
  have c1 := C.c1
  have c2 := C.c2
  have e : (Cal.d c) = .tup [.int c.w, iT c.ms, c.leap] := rfl
  have el : c.leap = .tup [.int c.cy, iT c.ls, .int c.mo, .int c.mr] := rfl
  obtain ⟨n, hn⟩ : ∃ n : Nat, c.cy = (n : Int) := ⟨c.cy.toNat, by omega⟩
  have e1 : exS (cf (k + 9)) (cc (k + 9)) T.con T.isa 100 s__law_cycle_right_1 [.val c.d, .none, .none, .none, .none] o = .nx [.val c.d, .val (.int c.cy), .none, .none, .none] o := by
    simp only [s__law_cycle_right_1, exSs, exS, evE, evEs, evAs, evEo, evC, evSrc, evT, frame, getV, getB, Res.ofO, Res.bind, Res.st, SRes.seq, SRes.out, List.getElem?_cons_zero, List.getElem?_cons_succ, List.cons_append, List.nil_append, List.replicate, List.length_cons, List.length_nil, bindT, bindTs, List.set_cons_zero, List.set_cons_succ, frzF, wipeF, e, el, idxD, at3, at4]
  have e2 : exS (cf (k + 9)) (cc (k + 9)) T.con T.isa 100 s__law_cycle_right_2 [.val c.d, .val (.int c.cy), .none, .none, .none] o = .nx [.val c.d, .val (.int c.cy), .val (.int 0), .none, .none] o := by
    simp only [s__law_cycle_right_2, exSs, exS, evE, evEs, evAs, evEo, evC, evSrc, evT, frame, getV, getB, Res.ofO, Res.bind, Res.st, SRes.seq, SRes.out, List.getElem?_cons_zero, List.getElem?_cons_succ, List.cons_append, List.nil_append, List.replicate, List.length_cons, List.length_nil, bindT, bindTs, List.set_cons_zero, List.set_cons_succ, frzF, wipeF]
  have lp := loopF_nx (bd := fun d ρ => bindT (.name 3) d ρ) (b := fun ρ o => exSs (cf (k + 9)) (cc (k + 9)) T.con T.isa 100 b__law_cycle_right_5 ρ o) (P := fun j ρ o' => o' = o ∧ ∃ s, ρ = [.val c.d, .val (.int c.cy), .val (.int (ybg c (j : Int))), s, .none]) n 0 [.val c.d, .val (.int c.cy), .val (.int 0), .none, .none] o ⟨rfl, .none, by rw [show (((0 : Nat) : Int)) = 0 from rfl, ybg_0 C]⟩ fun j ρ o' _ hj hp => by
    obtain ⟨rfl, s, rfl⟩ := hp
    have hj1 : ((j + 1 : Nat) : Int) = (j : Int) + 1 := by omega
    refine ⟨_, rfl, _, o', cyc_step C (by omega), rfl, .val (.int (j : Int)), ?_⟩
    rw [hj1]
  obtain ⟨ρ', o', lp, rfl, s, rfl⟩ := lp
  rw [Nat.zero_add, ← hn, ybg_cy C] at lp
  have e6 : exS (cf (k + 9)) (cc (k + 9)) T.con T.isa 100 s__law_cycle_right_6 [.val c.d, .val (.int c.cy), .val (.int 0), .none, .none] o' = .nx [.val c.d, .val (.int c.cy), .val (.int (cyd c)), s, .none] o' := by
    rw [← List.range_eq_range'] at lp
    have hs : evSrc (cf (k + 9)) (cc (k + 9)) T.con T.isa (.range1 (.var 1)) [.val c.d, .val (.int c.cy), .val (.int 0), .none, .none] o' = _ := src_rng (m := n) rfl hn (by omega)
    rw [s__law_cycle_right_6, exS, hs]
    exact lp
  have z1 := v_cycle_days (k := k + 2) (o := o') C
  have z2 := v_year_begins (k := k + 1) (o := o') (y := c.cy) C (by omega) (by omega)
  have z3 := v_year_begins (k := k + 1) (o := o') (y := 0) C (by omega) (by omega)
  rw [ybg_cy C] at z2
  rw [ybg_0 C] at z3
  have g2 := eqIr (cyd c)
  have g3 := eqIr 0
  have e7 : exS (cf (k + 9)) (cc (k + 9)) T.con T.isa 100 s__law_cycle_right_7 [.val c.d, .val (.int c.cy), .val (.int (cyd c)), s, .none] o' = .ret (.bl true) o' := by
    simp only [s__law_cycle_right_7, exSs, exS, evE, evEs, evAs, evEo, evC, evSrc, evT, frame, getV, getB, Res.ofO, Res.bind, Res.st, SRes.seq, SRes.out, List.getElem?_cons_zero, List.getElem?_cons_succ, List.cons_append, List.nil_append, List.replicate, List.length_cons, List.length_nil, bindT, bindTs, List.set_cons_zero, List.set_cons_succ, frzF, wipeF, z1, z2, z3, cmpD, g2, g3, Option.map]
  rw [cf_succ f__law_cycle_right rfl]
  show ((exSs (cf (k + 9)) (cc (k + 9)) T.con T.isa 100 (.cons s__law_cycle_right_1 (.cons s__law_cycle_right_2 (.cons s__law_cycle_right_6 (.cons s__law_cycle_right_7 .nil)))) [.val c.d, .none, .none, .none, .none] o').out) = _
  rw [exSs, e1]
  simp only [SRes.seq]
  rw [exSs, e2]
  simp only [SRes.seq]
  rw [exSs, e6]
  simp only [SRes.seq]
  rw [exSs, e7]
  rfl
end
end K00

set_option maxHeartbeats 2000000
/-! K00l: what is bent. -/
namespace K00
open PySem Ev
/-- no calendar, seen as such -/
structure Bad (d : D) : Prop where
  o : nO d = true
  s : sm2 d = true
  c : calB d = false
def bl1 (c : Cal) : List D := [.tup [.int 0, .tup [], .int c.mo, .int c.mr], .tup [.int 29, iT c.ls, .int c.mo, .int c.mr], .tup [.int c.cy, .tup [.int c.cy], .int c.mo, .int c.mr], .tup [.int c.cy, .non, .int c.mo, .int c.mr]]
def bl2 (c : Cal) : List D := [.tup [.int c.cy, iT c.ls, .int (c.ms.length : Int), .int c.mr], .tup [.int c.cy, iT c.ls, .int (-1), .int c.mr], .tup [.int c.cy, iT c.ls, .int c.mo, .int 4], .tup [.int c.cy, iT c.ls, .int c.mo]]
def bl3 (c : Cal) : List D := [.tup [.int c.cy, iT c.ls, .int c.mo, .int 0], .tup [.int c.cy, .lst (c.ls.map D.int), .int c.mo, .int c.mr], .tup [.int c.cy, .tup [.int 0, .int 0], .int c.mo, .int c.mr], .non]
def bs1 (c : Cal) : List D := [.tup [.int 0, iT c.ms, c.leap], .tup [.int 11, iT c.ms, c.leap], .tup [.bl true, iT c.ms, c.leap], .tup [.str "?", iT c.ms, c.leap], .tup [.int c.w, .tup [], c.leap]]
def bs2 (c : Cal) : List D := [.tup [.int c.w, .tup (.int 0 :: c.ms.map D.int), c.leap], .tup [.int c.w, .tup (List.replicate c.ms.length (.int 32)), c.leap], .tup [.int c.w, .lst (c.ms.map D.int), c.leap], .non]
def bs3 (c : Cal) : List D := [.tup [.int c.w, .tup (List.replicate 13 (.int 5)), c.leap], .tup [.int c.w, iT c.ms], .lst [.int c.w, iT c.ms, c.leap], .str "?", .dct [] [], .tup [.int c.w, iT c.ms, c.leap, .int 1]]
def bents (c : Cal) : List D := (((bl1 c ++ bl2 c ++ bl3 c).map fun b => D.tup [.int c.w, iT c.ms, b]) ++ bs1 c) ++ bs2 c ++ bs3 c
theorem nO_tup' {ds : List D} (h : nOs ds = true) : nO (.tup ds) = true := by
  unfold nO
  exact h
theorem nO_lst' {ds : List D} (h : nOs ds = true) : nO (.lst ds) = true := by
  unfold nO
  exact h
theorem nOs_cons {d : D} {ds : List D} (h1 : nO d = true) (h2 : nOs ds = true) : nOs (d :: ds) = true := by
  unfold nOs
  rw [h1, h2]
  rfl
theorem nOs_nil : nOs [] = true := by
  unfold nOs
  rfl
theorem nO_non : nO .non = true := by unfold nO; rfl
theorem nO_bl (b : Bool) : nO (.bl b) = true := by unfold nO; rfl
theorem nO_str (x : Str) : nO (.str x) = true := by unfold nO; rfl
theorem nO_dct (x y : List D) : nO (.dct x y) = true := by unfold nO; rfl
theorem nOs_rep (n : Nat) (i : Int) : nOs (List.replicate n (D.int i)) = true := by
  induction n with
  | zero => exact nOs_nil
  | succ n ih =>
    rw [List.replicate_succ]
    exact nOs_cons (nO_int i) ih
theorem nO_leap (c : Cal) : nO c.leap = true := nO_tup' (nOs_cons (nO_int _) (nOs_cons (nO_iT _) (nOs_cons (nO_int _) (nOs_cons (nO_int _) nOs_nil))))
theorem sm2_3 {a b c : D} (ha : smB a = true) (ha' : sm1 a = true) (hb : smB b = true) (hb' : sm1 b = true) (hc : smB c = true) (hc' : sm1 c = true) : sm2 (.tup [a, b, c]) = true := by
  show ((smB a && sm1 a) && ((smB b && sm1 b) && ((smB c && sm1 c) && true))) = true
  rw [ha, ha', hb, hb', hc, hc']
  rfl
variable {c : Cal}
theorem sm_leap (C : c.Ok) : smB c.leap = true ∧ sm1 c.leap = true := by
  have h2 := C.ln
  have b := sm_iT (l := c.ls) (by omega)
  refine ⟨rfl, ?_⟩
  show (smB (.int c.cy) && (smB (iT c.ls) && (smB (.int c.mo) && (smB (.int c.mr) && true)))) = true
  rw [b]
  rfl
theorem bad_leap (C : c.Ok) {b : D} (h1 : nO b = true) (h2 : smB b = true) (h3 : sm1 b = true) (h4 : lpR (c.ms.length : Int) b = false) : Bad (.tup [.int c.w, iT c.ms, b]) := by
  have hm := C.m2
  refine ⟨nO_tup' (nOs_cons (nO_int _) (nOs_cons (nO_iT _) (nOs_cons h1 nOs_nil))), sm2_3 rfl rfl (sm_iT (by omega)) (sm1_iT _) h2 h3, ?_⟩
  show ((wi (.int c.w) 1 10 && szT (iT c.ms) 1 12) && (((c.ms.map D.int).all fun m => wi m 1 31) && lpR (((c.ms.map D.int).length : Nat) : Int) b)) = false
  rw [List.length_map, h4, Bool.and_false, Bool.and_false]
theorem sm1_4 {a b d e : D} (ha : smB a = true) (hb : smB b = true) (hc : smB d = true) (he : smB e = true) : sm1 (.tup [a, b, d, e]) = true := by
  show (smB a && (smB b && (smB d && (smB e && true)))) = true
  rw [ha, hb, hc, he]
  rfl
theorem lpR_b {n : Int} {a b d e : D} (h : (wi a 1 28 && lotB b (toI a)) = false ∨ (wi d 0 (n - 1) && wi e 1 3) = false) : lpR n (.tup [a, b, d, e]) = false := by
  show ((wi a 1 28 && lotB b (toI a)) && (wi d 0 (n - 1) && wi e 1 3)) = false
  rcases h with h | h
  · rw [h]
    rfl
  · rw [h, Bool.and_false]
theorem bad4 (C : c.Ok) {a d e : Int} {b : D} (h1 : nO b = true) (h2 : smB b = true) (h3 : (wi (.int a) 1 28 && lotB b a) = false ∨ (wi (.int d) 0 (c.ms.length - 1) && wi (.int e) 1 3) = false) : Bad (.tup [.int c.w, iT c.ms, .tup [.int a, b, .int d, .int e]]) :=
  bad_leap C (nO_tup' (nOs_cons (nO_int _) (nOs_cons h1 (nOs_cons (nO_int _) (nOs_cons (nO_int _) nOs_nil))))) rfl (sm1_4 rfl h2 rfl rfl) (lpR_b h3)
theorem wi_no {i a b : Int} (h : ¬ (a ≤ i ∧ i ≤ b)) : wi (.int i) a b = false := by
  show (decide (a ≤ i) && decide (i ≤ b)) = false
  rw [← Bool.decide_and]
  exact decide_eq_false h
theorem bl1_bad (C : c.Ok) : ∀ b ∈ bl1 c, Bad (.tup [.int c.w, iT c.ms, b]) := by
  have h2 := C.ln
  intro b hb
  simp only [bl1, List.mem_cons, List.not_mem_nil, or_false] at hb
  rcases hb with rfl | rfl | rfl | rfl
  · exact bad4 C (nO_tup' nOs_nil) rfl (.inl rfl)
  · exact bad4 C (nO_iT _) (sm_iT (by omega)) (.inl rfl)
  · refine bad4 C (nO_tup' (nOs_cons (nO_int _) nOs_nil)) rfl (.inl ?_)
    have z : lotB (.tup [.int c.cy]) c.cy = false := by
      show ((wi (.int c.cy) 0 (c.cy - 1) && true) && _) = false
      rw [wi_no (by omega)]
      rfl
    rw [z, Bool.and_false]
  · refine bad4 C nO_non rfl (.inl ?_)
    show (_ && false) = false
    rw [Bool.and_false]
theorem bl2_bad (C : c.Ok) : ∀ b ∈ bl2 c, Bad (.tup [.int c.w, iT c.ms, b]) := by
  have h2 := C.ln
  intro b hb
  simp only [bl2, List.mem_cons, List.not_mem_nil, or_false] at hb
  rcases hb with rfl | rfl | rfl | rfl
  · refine bad4 C (nO_iT _) (sm_iT (by omega)) (.inr ?_)
    rw [wi_no (by omega)]
    rfl
  · exact bad4 C (nO_iT _) (sm_iT (by omega)) (.inr rfl)
  · refine bad4 C (nO_iT _) (sm_iT (by omega)) (.inr ?_)
    rw [wi_no (i := 4) (by omega), Bool.and_false]
  · refine bad_leap C (nO_tup' (nOs_cons (nO_int _) (nOs_cons (nO_iT _) (nOs_cons (nO_int _) nOs_nil)))) rfl ?_ rfl
    show (smB (.int c.cy) && (smB (iT c.ls) && (smB (.int c.mo) && true))) = true
    rw [sm_iT (by omega)]
    rfl
theorem bl3_bad (C : c.Ok) : ∀ b ∈ bl3 c, Bad (.tup [.int c.w, iT c.ms, b]) := by
  have h2 := C.ln
  intro b hb
  simp only [bl3, List.mem_cons, List.not_mem_nil, or_false] at hb
  rcases hb with rfl | rfl | rfl | rfl
  · refine bad4 C (nO_iT _) (sm_iT (by omega)) (.inr ?_)
    rw [wi_no (i := 0) (a := 1) (by omega), Bool.and_false]
  · refine bad4 C (nO_lst' (nOs_iT _)) rfl (.inl ?_)
    show (_ && false) = false
    rw [Bool.and_false]
  · refine bad4 C (nO_tup' (nOs_cons (nO_int _) (nOs_cons (nO_int _) nOs_nil))) rfl (.inl ?_)
    show (_ && (_ && false)) = false
    rw [Bool.and_false, Bool.and_false]
  · exact bad_leap C nO_non rfl rfl rfl
theorem bad3 (C : c.Ok) {a b : D} (h1 : nO a = true) (h2 : smB a = true) (h2' : sm1 a = true) (h3 : nO b = true) (h4 : smB b = true) (h5 : sm1 b = true) (h6 : (wi a 1 10 && szT b 1 12) = false ∨ ((itm b).all fun m => wi m 1 31) = false) : Bad (.tup [a, b, c.leap]) := by
  refine ⟨nO_tup' (nOs_cons h1 (nOs_cons h3 (nOs_cons (nO_leap c) nOs_nil))), sm2_3 h2 h2' h4 h5 (sm_leap C).1 (sm_leap C).2, ?_⟩
  show ((wi a 1 10 && szT b 1 12) && (((itm b).all fun m => wi m 1 31) && lpR (((itm b).length : Nat) : Int) c.leap)) = false
  rcases h6 with h | h
  · rw [h]
    rfl
  · rw [h, Bool.false_and, Bool.and_false]
theorem bs1_bad (C : c.Ok) : ∀ d ∈ bs1 c, Bad d := by
  have hm := C.m2
  have s1 := sm_iT (l := c.ms) (by omega)
  have s2 := sm1_iT c.ms
  intro d hd
  simp only [bs1, List.mem_cons, List.not_mem_nil, or_false] at hd
  rcases hd with rfl | rfl | rfl | rfl | rfl
  · exact bad3 C (nO_int _) rfl rfl (nO_iT _) s1 s2 (.inl rfl)
  · exact bad3 C (nO_int _) rfl rfl (nO_iT _) s1 s2 (.inl rfl)
  · exact bad3 C (nO_bl _) rfl rfl (nO_iT _) s1 s2 (.inl rfl)
  · exact bad3 C (nO_str _) rfl rfl (nO_iT _) s1 s2 (.inl rfl)
  · exact bad3 C (nO_int _) rfl rfl (nO_tup' nOs_nil) rfl rfl (.inl (by
      show (_ && false) = false
      rw [Bool.and_false]))
theorem s1x (l : List Int) : (l.map D.int).all smB = true := by
  rw [List.all_map]
  exact List.all_eq_true.mpr fun _ _ => rfl
theorem bs2_bad (C : c.Ok) : ∀ d ∈ bs2 c, Bad d := by
  have h1 := C.m1
  have hm := C.m2
  intro d hd
  simp only [bs2, List.mem_cons, List.not_mem_nil, or_false] at hd
  rcases hd with rfl | rfl | rfl | rfl
  · refine bad3 C (nO_int _) rfl rfl (nO_tup' (nOs_cons (nO_int _) (nOs_iT _))) ?_ ?_ (.inr rfl)
    · exact decide_eq_true (by rw [List.length_cons, List.length_map]; omega)
    · show (true && (c.ms.map D.int).all smB) = true
      have z : (c.ms.map D.int).all smB = true := s1x c.ms
      rw [z]
      rfl
  · refine bad3 C (nO_int _) rfl rfl (nO_tup' (nOs_rep _ _)) ?_ ?_ (.inr ?_)
    · exact decide_eq_true (by rw [List.length_replicate]; omega)
    · show (List.replicate c.ms.length (D.int 32)).all smB = true
      rw [List.all_eq_true]
      intro x hx
      rw [List.eq_of_mem_replicate hx]
      rfl
    · obtain ⟨n, hn⟩ : ∃ n, c.ms.length = n + 1 := ⟨c.ms.length - 1, by omega⟩
      rw [hn]
      rfl
  · exact bad3 C (nO_int _) rfl rfl (nO_lst' (nOs_iT _)) rfl rfl (.inl (by
      show (_ && false) = false
      rw [Bool.and_false]))
  · exact ⟨nO_non, rfl, rfl⟩
theorem bs3_bad (C : c.Ok) : ∀ d ∈ bs3 c, Bad d := by
  have hm := C.m2
  have h2 := C.ln
  have s1 := sm_iT (l := c.ms) (by omega)
  have s2 := sm1_iT c.ms
  intro d hd
  simp only [bs3, List.mem_cons, List.not_mem_nil, or_false] at hd
  rcases hd with rfl | rfl | rfl | rfl | rfl | rfl
  · exact bad3 C (nO_int _) rfl rfl (nO_tup' (nOs_rep _ _)) rfl rfl (.inl (by
      show (_ && false) = false
      rw [Bool.and_false]))
  · refine ⟨nO_tup' (nOs_cons (nO_int _) (nOs_cons (nO_iT _) nOs_nil)), ?_, rfl⟩
    show ((smB (.int c.w) && sm1 (.int c.w)) && ((smB (iT c.ms) && sm1 (iT c.ms)) && true)) = true
    rw [s1, s2]
    rfl
  · exact ⟨nO_lst' (nOs_cons (nO_int _) (nOs_cons (nO_iT _) (nOs_cons (nO_leap c) nOs_nil))), rfl, rfl⟩
  · exact ⟨nO_str _, rfl, rfl⟩
  · exact ⟨nO_dct _ _, rfl, rfl⟩
  · refine ⟨nO_tup' (nOs_cons (nO_int _) (nOs_cons (nO_iT _) (nOs_cons (nO_leap c) (nOs_cons (nO_int _) nOs_nil)))), ?_, rfl⟩
    show ((smB (.int c.w) && sm1 (.int c.w)) && ((smB (iT c.ms) && sm1 (iT c.ms)) && ((smB c.leap && sm1 c.leap) && ((smB (.int 1) && sm1 (.int 1)) && true)))) = true
    rw [s1, s2, (sm_leap C).1, (sm_leap C).2]
    rfl
theorem bents_bad (C : c.Ok) : ∀ d ∈ bents c, Bad d := by
  intro d hd
  simp only [bents, List.mem_append, List.mem_map] at hd
  rcases hd with ((⟨b, (hb | hb) | hb, rfl⟩ | hd) | hd) | hd
  · exact bl1_bad C b hb
  · exact bl2_bad C b hb
  · exact bl3_bad C b hb
  · exact bs1_bad C d hd
  · exact bs2_bad C d hd
  · exact bs3_bad C d hd
end K00

set_option maxHeartbeats 2000000
/-! K00q: something bent is drawn. -/
namespace K00
open PySem Ev
section
variable {F : FnT} {C' : CloT} {G : Str → Option D} {is : Str → Str → Bool} {k n : Nat} {o : Objs} {c : Cal} {s9 s10 : Slot}
theorem add_lst {xs ys : List D} (h : xs.length + ys.length ≤ sizeLine) : binD .Add (.lst xs) (.lst ys) = some (.lst (xs ++ ys)) := if_pos (decide_eq_true h)
theorem add_tup {xs ys : List D} (h : xs.length + ys.length ≤ sizeLine) : binD .Add (.tup xs) (.tup ys) = some (.tup (xs ++ ys)) := if_pos (decide_eq_true h)
theorem set_get {ρ : Frm} {v : Nat} {d : D} (h : ρ[v]? = some (.val d)) : getB ρ v = some d := by
  unfold getB
  rw [h]
theorem st_addl {ρ : Frm} {v : Nat} {E : IE} {xs ys : List D} {L : Nat} (h : ρ[v]? = some (.val (.lst xs))) (hE : evE F C' G is E ρ o = .ok (.lst ys) o) (hz : xs.length + ys.length ≤ sizeLine) : exS F C' G is L (.set (.name v) (.bin .Add (.bor v) E)) ρ o = .nx (ρ.set v (.val (.lst (xs ++ ys)))) o := by
  have z := add_lst hz
  have g := set_get h
  simp only [exS, evE, g, Res.ofO, Res.bind, hE, z, Res.st, bindT]
theorem ten {a : Nat} (h : a ≤ 1000) : a ≤ sizeLine := Nat.le_trans h (Nat.le_of_ble_eq_true rfl)
abbrev fb (c : Cal) (s9 s10 : Slot) : Frm := [.val (.obj 0), .val c.d, .val (.int c.w), .val (iT c.ms), .val c.leap, .val (.int c.cy), .val (iT c.ls), .val (.int c.mo), .val (.int c.mr), s9, s10, .none]
theorem z0 : sz 0 = true := by decide
theorem z10 : sz 10 = true := by decide
theorem z1 : sz (0 + 1) = true := by decide
theorem z2 : sz (0 + 1 + 1) = true := by decide
theorem z3 : sz (0 + 1 + 1 + 1) = true := by decide
theorem z4 : sz (0 + 1 + 1 + 1 + 1) = true := by decide
theorem z5 : sz (0 + 1 + 1 + 1 + 1 + 1) = true := by decide
theorem z6 : sz (0 + 1 + 1 + 1 + 1 + 1 + 1) = true := by decide
theorem x1 : exS F C' G is 100 s__law_bent_1 [.val (.obj 0), .val c.d, .none, .none, .none, .none, .none, .none, .none, .none, .none, .none] o = .nx [.val (.obj 0), .val c.d, .val (.int c.w), .val (iT c.ms), .val c.leap, .none, .none, .none, .none, .none, .none, .none] o := by
  have e : (Cal.d c) = .tup [.int c.w, iT c.ms, c.leap] := rfl
  simp only [s__law_bent_1, exSs, exS, evE, evEs, evAs, evEo, evC, evSrc, evT, frame, getV, getB, Res.ofO, Res.bind, Res.st, SRes.seq, SRes.out, List.getElem?_cons_zero, List.getElem?_cons_succ, List.cons_append, List.nil_append, List.replicate, List.length_cons, List.length_nil, bindT, bindTs, List.set_cons_zero, List.set_cons_succ, frzF, wipeF, e]
theorem x2 : exS F C' G is 100 s__law_bent_2 [.val (.obj 0), .val c.d, .val (.int c.w), .val (iT c.ms), .val c.leap, .none, .none, .none, .none, .none, .none, .none] o = .nx (fb c .none .none) o := by
  have el : c.leap = .tup [.int c.cy, iT c.ls, .int c.mo, .int c.mr] := rfl
  simp only [s__law_bent_2, exSs, exS, evE, evEs, evAs, evEo, evC, evSrc, evT, frame, getV, getB, Res.ofO, Res.bind, Res.st, SRes.seq, SRes.out, List.getElem?_cons_zero, List.getElem?_cons_succ, List.cons_append, List.nil_append, List.replicate, List.length_cons, List.length_nil, bindT, bindTs, List.set_cons_zero, List.set_cons_succ, frzF, wipeF, el, fb]
theorem x3 : exS F C' G is 100 s__law_bent_3 (fb c .none .none) o = .nx (fb c (.val (.lst (bl1 c))) .none) o := by
  simp only [s__law_bent_3, exSs, exS, evE, evEs, evAs, evEo, evC, evSrc, evT, frame, getV, getB, Res.ofO, Res.bind, Res.st, SRes.seq, SRes.out, List.getElem?_cons_zero, List.getElem?_cons_succ, List.cons_append, List.nil_append, List.replicate, List.length_cons, List.length_nil, bindT, bindTs, List.set_cons_zero, List.set_cons_succ, frzF, wipeF, bl1, z0, z1, z2, z3, z4, if_true]
theorem x4 : exS F C' G is 100 s__law_bent_4 (fb c (.val (.lst (bl1 c))) .none) o = .nx (fb c (.val (.lst (bl1 c ++ bl2 c))) .none) o := by
  rw [s__law_bent_4]
  have hs : slcD c.leap none (some 3) = some (.tup [.int c.cy, iT c.ls, .int c.mo]) := rfl
  have hl := len_iT c.ms
  have hn : negD (.int 1) = some (.int (-1)) := rfl
  refine st_addl (ys := bl2 c) rfl ?_ (ten (Nat.le_of_ble_eq_true rfl))
  simp only [exSs, exS, evE, evEs, evAs, evEo, evC, evSrc, evT, frame, getV, getB, Res.ofO, Res.bind, Res.st, SRes.seq, SRes.out, List.getElem?_cons_zero, List.getElem?_cons_succ, List.cons_append, List.nil_append, List.replicate, List.length_cons, List.length_nil, bindT, bindTs, List.set_cons_zero, List.set_cons_succ, frzF, wipeF, bl2, z0, z1, z2, z3, z4, if_true, hs, hl, hn]
theorem x5 : exS F C' G is 100 s__law_bent_5 (fb c (.val (.lst (bl1 c ++ bl2 c))) .none) o = .nx (fb c (.val (.lst (bl1 c ++ bl2 c ++ bl3 c))) .none) o := by
  rw [s__law_bent_5]
  have hl : bifD .list [iT c.ls] = some (.lst (c.ls.map D.int)) := rfl
  refine st_addl (ys := bl3 c) rfl ?_ (ten (Nat.le_of_ble_eq_true rfl))
  simp only [exSs, exS, evE, evEs, evAs, evEo, evC, evSrc, evT, frame, getV, getB, Res.ofO, Res.bind, Res.st, SRes.seq, SRes.out, List.getElem?_cons_zero, List.getElem?_cons_succ, List.cons_append, List.nil_append, List.replicate, List.length_cons, List.length_nil, bindT, bindTs, List.set_cons_zero, List.set_cons_succ, frzF, wipeF, bl3, z0, z1, z2, z3, z4, if_true, hl]
theorem x7 : exS F C' G is 100 s__law_bent_7 (fb c (.val (.lst (bl1 c ++ bl2 c ++ bl3 c))) .none) o = .nx (fb c (.val (.lst (bl1 c ++ bl2 c ++ bl3 c))) (.val (.lst ((bl1 c ++ bl2 c ++ bl3 c).map fun b => D.tup [.int c.w, iT c.ms, b])))) o := by
  have hc : evE F C' G is e__law_bent_6 (fb c (.val (.lst (bl1 c ++ bl2 c ++ bl3 c))) .none) o = .ok (.lst ((bl1 c ++ bl2 c ++ bl3 c).map fun b => D.tup [.int c.w, iT c.ms, b])) o := by
    refine comp_ok (ds := bl1 c ++ bl2 c ++ bl3 c) (o1 := o) ?_ (compL_map fun d _ => ⟨_, rfl, rfl, ?_⟩) (ten (Nat.le_of_ble_eq_true rfl))
    · rfl
    · simp only [exSs, exS, evE, evEs, evAs, evEo, evC, evSrc, evT, frame, getV, getB, Res.ofO, Res.bind, Res.st, SRes.seq, SRes.out, List.getElem?_cons_zero, List.getElem?_cons_succ, List.cons_append, List.nil_append, List.replicate, List.length_cons, List.length_nil, bindT, bindTs, List.set_cons_zero, List.set_cons_succ, frzF, wipeF, z3, if_true]
  simp only [s__law_bent_7, exSs, exS, evE, evEs, evAs, evEo, evC, evSrc, evT, frame, getV, getB, Res.ofO, Res.bind, Res.st, SRes.seq, SRes.out, List.getElem?_cons_zero, List.getElem?_cons_succ, List.cons_append, List.nil_append, List.replicate, List.length_cons, List.length_nil, bindT, bindTs, List.set_cons_zero, List.set_cons_succ, frzF, wipeF, hc]
abbrev sm0 (c : Cal) : List D := (bl1 c ++ bl2 c ++ bl3 c).map fun b => D.tup [.int c.w, iT c.ms, b]
theorem x8 : exS F C' G is 100 s__law_bent_8 (fb c s9 (.val (.lst (sm0 c)))) o = .nx (fb c s9 (.val (.lst (sm0 c ++ bs1 c)))) o := by
  rw [s__law_bent_8]
  refine st_addl (ys := bs1 c) rfl ?_ (ten (Nat.le_of_ble_eq_true rfl))
  simp only [exSs, exS, evE, evEs, evAs, evEo, evC, evSrc, evT, frame, getV, getB, Res.ofO, Res.bind, Res.st, SRes.seq, SRes.out, List.getElem?_cons_zero, List.getElem?_cons_succ, List.cons_append, List.nil_append, List.replicate, List.length_cons, List.length_nil, bindT, bindTs, List.set_cons_zero, List.set_cons_succ, frzF, wipeF, bs1, z0, z1, z2, z3, z5, if_true]
theorem x9 (C : c.Ok) : exS F C' G is 100 s__law_bent_9 (fb c s9 (.val (.lst (sm0 c ++ bs1 c)))) o = .nx (fb c s9 (.val (.lst (sm0 c ++ bs1 c ++ bs2 c)))) o := by
  have h1 := C.m1
  have hm := C.m2
  have hl : bifD .list [iT c.ms] = some (.lst (c.ms.map D.int)) := rfl
  have ha : binD .Add (.tup [.int 0]) (iT c.ms) = some (.tup (.int 0 :: c.ms.map D.int)) := add_tup (ten (by rw [List.length_map]; show 1 + c.ms.length ≤ 1000; omega))
  have hk : tupOk [D.int 32].length (c.ms.length : Int) = true := by
    show (true && (decide ((1 : Int) ≤ (c.ms.length : Int)) && (decide ((c.ms.length : Int) ≤ 1000) && true))) = true
    rw [decide_eq_true (by omega), decide_eq_true (by omega)]
    rfl
  have hu : binD .Mult (.tup [.int 32]) (.int (c.ms.length : Int)) = some (.tup (List.replicate c.ms.length (.int 32))) := by
    refine (if_pos hk).trans ?_
    rw [Int.toNat_natCast, List.flatten_replicate_singleton]
  have hn := len_iT c.ms
  rw [s__law_bent_9]
  refine st_addl (ys := bs2 c) rfl ?_ (ten (Nat.le_of_ble_eq_true rfl))
  simp only [exSs, exS, evE, evEs, evAs, evEo, evC, evSrc, evT, frame, getV, getB, Res.ofO, Res.bind, Res.st, SRes.seq, SRes.out, List.getElem?_cons_zero, List.getElem?_cons_succ, List.cons_append, List.nil_append, List.replicate, List.length_cons, List.length_nil, bindT, bindTs, List.set_cons_zero, List.set_cons_succ, frzF, wipeF, bs2, z0, z1, z2, z3, z4, if_true, hl, ha, hn, hu]
theorem x10 : exS F C' G is 100 s__law_bent_10 (fb c s9 (.val (.lst (sm0 c ++ bs1 c ++ bs2 c)))) o = .nx (fb c s9 (.val (.lst (sm0 c ++ bs1 c ++ bs2 c ++ bs3 c)))) o := by
  have hl : bifD .list [c.d] = some (.lst [.int c.w, iT c.ms, c.leap]) := rfl
  have ha : binD .Add c.d (.tup [.int 1]) = some (.tup [.int c.w, iT c.ms, c.leap, .int 1]) := add_tup (ten (Nat.le_of_ble_eq_true rfl))
  have hu : binD .Mult (.tup [.int 5]) (.int 13) = some (.tup (List.replicate 13 (.int 5))) := rfl
  rw [s__law_bent_10]
  refine st_addl (ys := bs3 c) rfl ?_ (ten (Nat.le_of_ble_eq_true rfl))
  simp only [exSs, exS, evE, evEs, evAs, evEo, evC, evSrc, evT, frame, getV, getB, Res.ofO, Res.bind, Res.st, SRes.seq, SRes.out, List.getElem?_cons_zero, List.getElem?_cons_succ, List.cons_append, List.nil_append, List.replicate, List.length_cons, List.length_nil, bindT, bindTs, List.set_cons_zero, List.set_cons_succ, frzF, wipeF, bs3, z0, z1, z2, z3, z6, if_true, hl, ha, hu]
theorem v_bent (C : c.Ok) (h : Hd (n + 1) o) : ∃ (x : D) (o' : Objs), cf (k + 3) "_law_bent" [.val (.obj 0), .val c.d] o = .ok x o' ∧ Bad x ∧ Hd n o' := by
  obtain ⟨x, o', z, hx, ho⟩ := v_any (k := k) (n := n) (ds := bents c) h (Nat.le_of_ble_eq_true rfl) (Nat.le_of_ble_eq_true rfl)
  refine ⟨x, o', ?_, bents_bad C x hx, ho⟩
  have x11 : exS (cf (k + 2)) (cc (k + 2)) T.con T.isa 100 s__law_bent_11 (fb c (.val (.lst (bl1 c ++ bl2 c ++ bl3 c))) (.val (.lst (bents c)))) o = .ret x o' := by
    simp only [s__law_bent_11, exSs, exS, evE, evEs, evAs, evEo, evC, evSrc, evT, frame, getV, getB, Res.ofO, Res.bind, Res.st, SRes.seq, SRes.out, List.getElem?_cons_zero, List.getElem?_cons_succ, List.cons_append, List.nil_append, List.replicate, List.length_cons, List.length_nil, bindT, bindTs, List.set_cons_zero, List.set_cons_succ, frzF, wipeF, z]
  rw [cf_succ f__law_bent rfl]
  show ((exSs (cf (k + 2)) (cc (k + 2)) T.con T.isa 100 (.cons s__law_bent_1 (.cons s__law_bent_2 (.cons s__law_bent_3 (.cons s__law_bent_4 (.cons s__law_bent_5 (.cons s__law_bent_7 (.cons s__law_bent_8 (.cons s__law_bent_9 (.cons s__law_bent_10 (.cons s__law_bent_11 .nil)))))))))) [.val (.obj 0), .val c.d, .none, .none, .none, .none, .none, .none, .none, .none, .none, .none] o).out) = _
  rw [exSs, x1]
  simp only [SRes.seq]
  rw [exSs, x2]
  simp only [SRes.seq]
  rw [exSs, x3]
  simp only [SRes.seq]
  rw [exSs, x4]
  simp only [SRes.seq]
  rw [exSs, x5]
  simp only [SRes.seq]
  rw [exSs, x7]
  simp only [SRes.seq]
  rw [exSs, x8]
  simp only [SRes.seq]
  rw [exSs, x9 C]
  simp only [SRes.seq]
  rw [exSs, x10]
  simp only [SRes.seq]
  rw [exSs]
  show (((exS (cf (k + 2)) (cc (k + 2)) T.con T.isa 100 s__law_bent_11 (fb c (.val (.lst (bl1 c ++ bl2 c ++ bl3 c))) (.val (.lst (bents c)))) o).seq _).out) = _
  rw [x11]
  rfl
end
end K00

set_option maxHeartbeats 2000000
/-! K00n: what is refused first. -/
namespace K00
open PySem Ev
section
variable {k n : Nat} {o : Objs} {c : Cal}
/-- the words -/
def W3 (x : Str) : Prop := x = "NoCalendar" ∨ x = "NoYear" ∨ x = "NoMonth"
theorem w_tail {F : FnT} {C' : CloT} {x : Str} {s : Slot} (h : W3 x) : exSs F C' T.con T.isa 100 b__law_word_7 [s, .exc x [], .none, .none, .none, .none] o = .ret (.str x) o := by
  rcases h with rfl | rfl | rfl <;> kernel_rfl
theorem w_isa {x : Str} (h : W3 x) : T.isa x "DateError" = true := by
  rcases h with rfl | rfl | rfl <;> kernel_rfl
theorem v_word {np nl : Nat} {body : IE} {cap : List D} {x : Str} (hx : W3 x) (h : cc k np nl body cap [] o = .err x [] o) : cf (k + 1) "_law_word" [.clo np nl body cap] o = .ok (.str x) o := by
  have h1 := w_tail (F := cf k) (C' := cc k) (o := o) (s := .clo np nl body cap) hx
  have h2 := w_isa hx
  have hb : exSs (cf k) (cc k) T.con T.isa 100 b__law_word_2 [.clo np nl body cap, .none, .none, .none, .none, .none] o = .err x [] [.clo np nl body cap, .none, .none, .none, .none, .none] o := by
    simp only [b__law_word_2, s__law_word_1, exSs, exS, evE, evEs, evAs, evEo, evC, evSrc, evT, frame, getV, getB, Res.ofO, Res.bind, Res.st, SRes.seq, SRes.out, List.getElem?_cons_zero, List.getElem?_cons_succ, List.cons_append, List.nil_append, List.replicate, List.length_cons, List.length_nil, bindT, bindTs, List.set_cons_zero, List.set_cons_succ, frzF, wipeF, h]
  have e8 : exS (cf k) (cc k) T.con T.isa 100 s__law_word_8 [.clo np nl body cap, .none, .none, .none, .none, .none] o = .ret (.str x) o := by
    simp only [s__law_word_8, exS, hb, h2, if_true, List.set_cons_zero, List.set_cons_succ, h1]
  rw [cf_succ f__law_word rfl]
  show ((exSs (cf k) (cc k) T.con T.isa 100 (.cons s__law_word_8 (.cons s__law_word_9 .nil)) [.clo np nl body cap, .none, .none, .none, .none, .none] o).out) = _
  rw [exSs, e8]
  rfl
theorem ev_word {F : FnT} {C' : CloT} {G : Str → Option D} {is : Str → Str → Bool} {np nl : Nat} {body : IE} {cap : List Nat} {cs : List D} {x : Str} {ρ : Frm} (hc : cap.mapM (getV ρ) = some cs) (hw : F "_law_word" [.clo np nl body cs] o = .ok (.str x) o) : evE F C' G is (.call "_law_word" (.lam np nl body cap .nil)) ρ o = .ok (.str x) o := by
  simp only [evE, evAs, hc, Res.bind, hw]
theorem st_app {F : FnT} {C' : CloT} {G : Str → Option D} {is : Str → Str → Bool} {ρ : Frm} {v L : Nat} {E : IE} {ds : List D} {d : D} (h : ρ[v]? = some (.own (.lst ds))) (hE : evE F C' G is E ρ o = .ok d o) (hz : ds.length + 1 ≤ sizeLine) : exS F C' G is L (.append v E) ρ o = .nx (ρ.set v (.own (.lst (ds ++ [d])))) o := by
  have z : decide (ds.length < sizeLine) = true := decide_eq_true hz
  simp only [exS, h, hE, Res.st, z, if_true]
theorem st_own1 {F : FnT} {C' : CloT} {G : Str → Option D} {is : Str → Str → Bool} {ρ : Frm} {v L : Nat} {E : IE} {d : D} (hE : evE F C' G is E ρ o = .ok d o) : exS F C' G is L (.setOwn v (.lst (.cons E .nil))) ρ o = .nx (ρ.set v (.own (.lst [d]))) o := by
  have z := K00.z1
  simp only [exS, evE, evEs, hE, Res.bind, List.length_cons, List.length_nil, z, if_true, Res.st, ownS]
/-! ### what is raised -/
theorem r_month {x y m : D} (hx : nO x = true) (hs : sm2 x = true) (hy : okD y = true) (hm : okD m = true) {w : Str} (h : (if calB x then (if isN y then (if moB x m then Res.ok D.non o else .err "NoMonth" [] o) else .err "NoYear" [] o) else .err "NoCalendar" [] o) = .err w [] o) : cf (k + 9) "month_days" [.val x, .val y, .val m] o = .err w [] o := by
  have z := (v_check_month (k := k) (o := o) x y m hx hs hy hm).trans h
  rw [cf_succ f_month_days rfl]
  simp only [s_month_days_1, s_month_days_2, i_month_days, exSs, exS, evE, evEs, evAs, evEo, evC, evSrc, evT, frame, getV, getB, Res.ofO, Res.bind, Res.st, SRes.seq, SRes.out, List.getElem?_cons_zero, List.getElem?_cons_succ, List.cons_append, List.nil_append, List.replicate, List.length_cons, List.length_nil, bindT, bindTs, List.set_cons_zero, List.set_cons_succ, frzF, wipeF, z]
theorem r_begins {x y m : D} (hx : nO x = true) (hs : sm2 x = true) (hy : okD y = true) (hm : okD m = true) {w : Str} (h : (if calB x then (if isN y then (if moB x m then Res.ok D.non o else .err "NoMonth" [] o) else .err "NoYear" [] o) else .err "NoCalendar" [] o) = .err w [] o) : cf (k + 9) "month_begins" [.val x, .val y, .val m] o = .err w [] o := by
  have z := (v_check_month (k := k) (o := o) x y m hx hs hy hm).trans h
  rw [cf_succ f_month_begins rfl]
  simp only [s_month_begins_1, s_month_begins_2, i_month_begins, exSs, exS, evE, evEs, evAs, evEo, evC, evSrc, evT, frame, getV, getB, Res.ofO, Res.bind, Res.st, SRes.seq, SRes.out, List.getElem?_cons_zero, List.getElem?_cons_succ, List.cons_append, List.nil_append, List.replicate, List.length_cons, List.length_nil, bindT, bindTs, List.set_cons_zero, List.set_cons_succ, frzF, wipeF, z]
theorem r_leap {x y : D} (hx : nO x = true) (hs : sm2 x = true) (hy : okD y = true) {w : Str} (h : (if calB x then (if isN y then Res.ok D.non o else .err "NoYear" [] o) else .err "NoCalendar" [] o) = .err w [] o) : cf (k + 8) "is_leap" [.val x, .val y] o = .err w [] o := by
  have z := (v_check_year (k := k) (o := o) x y hx hs hy).trans h
  rw [cf_succ f_is_leap rfl]
  simp only [s_is_leap_1, s_is_leap_2, i_is_leap, exSs, exS, evE, evEs, evAs, evEo, evC, evSrc, evT, frame, getV, getB, Res.ofO, Res.bind, Res.st, SRes.seq, SRes.out, List.getElem?_cons_zero, List.getElem?_cons_succ, List.cons_append, List.nil_append, List.replicate, List.length_cons, List.length_nil, bindT, bindTs, List.set_cons_zero, List.set_cons_succ, frzF, wipeF, z]
theorem r_days {x y : D} (hx : nO x = true) (hs : sm2 x = true) (hy : okD y = true) {w : Str} (h : (if calB x then (if isN y then Res.ok D.non o else .err "NoYear" [] o) else .err "NoCalendar" [] o) = .err w [] o) : cf (k + 8) "year_days" [.val x, .val y] o = .err w [] o := by
  have z := (v_check_year (k := k) (o := o) x y hx hs hy).trans h
  rw [cf_succ f_year_days rfl]
  simp only [s_year_days_1, s_year_days_2, i_year_days, exSs, exS, evE, evEs, evAs, evEo, evC, evSrc, evT, frame, getV, getB, Res.ofO, Res.bind, Res.st, SRes.seq, SRes.out, List.getElem?_cons_zero, List.getElem?_cons_succ, List.cons_append, List.nil_append, List.replicate, List.length_cons, List.length_nil, bindT, bindTs, List.set_cons_zero, List.set_cons_succ, frzF, wipeF, z]
def ys0 : List D := [.int (-1), .non, .str "?", .bl true, .tup [.int 0], .dct [] []]
def ms0 : List D := [.int (-1), .int 99, .non, .str "?", .bl true, .tup [.int 0]]
theorem ys_no : ∀ y ∈ ys0, okD y = true ∧ isN y = false := by
  intro y hy
  simp only [ys0, List.mem_cons, List.not_mem_nil, or_false] at hy
  rcases hy with rfl | rfl | rfl | rfl | rfl | rfl <;> exact ⟨rfl, rfl⟩
theorem ms_no (C : c.Ok) : ∀ m ∈ ms0, okD m = true ∧ moB c.d m = false := by
  have hm := C.m2
  intro m h
  have e : moB c.d m = wi m 0 ((c.ms.length : Int) - 1) := by
    show wi m 0 ((((c.ms.map D.int).length : Nat) : Int) - 1) = _
    rw [List.length_map]
  rw [e]
  simp only [ms0, List.mem_cons, List.not_mem_nil, or_false] at h
  rcases h with rfl | rfl | rfl | rfl | rfl | rfl
  · exact ⟨rfl, rfl⟩
  · exact ⟨rfl, wi_no (by omega)⟩
  all_goals exact ⟨rfl, rfl⟩
abbrev fr (c : Cal) (x : D) (s m y : Slot) : Frm := [.val (.obj 0), .val c.d, .val x, s, m, y]
abbrev owl (ds : List D) : Slot := .own (.lst ds)
theorem fr8 {F : FnT} {C' : CloT} {a b x m y : Slot} : exS F C' T.con T.isa 100 s__law_first_refused_8 [a, b, x, owl [.str "NoCalendar", .str "NoCalendar", .str "NoYear", .str "NoYear", .str "NoMonth", .str "NoMonth"], m, y] o = .ret (.bl true) o := by
  kernel_rfl
section
variable {x y m : D}
theorem fr2 (B : Bad x) (hy : okD y = true) (hm : okD m = true) : exS (cf (k + 11)) (cc (k + 11)) T.con T.isa 100 s__law_first_refused_2 (fr c x .none (.val m) (.val y)) o = .nx (fr c x (owl [.str "NoCalendar"]) (.val m) (.val y)) o := by
  rw [s__law_first_refused_2]
  refine st_own1 (ev_word (cs := [x, m, y]) rfl (v_word (.inl rfl) ?_))
  rw [cc_succ (np := 0) (ds := []) rfl]
  have z := r_month (k := k) (o := o) (w := "NoCalendar") B.o B.s hy hm (by rw [B.c]; rfl)
  simp only [exSs, exS, evE, evEs, evAs, evEo, evC, evSrc, evT, frame, getV, getB, Res.ofO, Res.bind, Res.st, SRes.seq, SRes.out, List.getElem?_cons_zero, List.getElem?_cons_succ, List.cons_append, List.nil_append, List.replicate, List.length_cons, List.length_nil, bindT, bindTs, List.set_cons_zero, List.set_cons_succ, frzF, wipeF, List.map_cons, List.map_nil, z]
theorem fr3 (B : Bad x) (hy : okD y = true) {ds : List D} (hz : ds.length ≤ 900) : exS (cf (k + 11)) (cc (k + 11)) T.con T.isa 100 s__law_first_refused_3 (fr c x (owl ds) (.val m) (.val y)) o = .nx (fr c x (owl (ds ++ [.str "NoCalendar"])) (.val m) (.val y)) o := by
  rw [s__law_first_refused_3]
  refine st_app rfl (ev_word (cs := [x, y]) rfl (v_word (.inl rfl) ?_)) (ten (by omega))
  rw [cc_succ (np := 0) (ds := []) rfl]
  have z := r_leap (k := k + 1) (o := o) (w := "NoCalendar") B.o B.s hy (by rw [B.c]; rfl)
  simp only [exSs, exS, evE, evEs, evAs, evEo, evC, evSrc, evT, frame, getV, getB, Res.ofO, Res.bind, Res.st, SRes.seq, SRes.out, List.getElem?_cons_zero, List.getElem?_cons_succ, List.cons_append, List.nil_append, List.replicate, List.length_cons, List.length_nil, bindT, bindTs, List.set_cons_zero, List.set_cons_succ, frzF, wipeF, List.map_cons, List.map_nil, z]
theorem fr4 (C : c.Ok) (hy : okD y = true) (hn : isN y = false) (hm : okD m = true) {ds : List D} (hz : ds.length ≤ 900) : exS (cf (k + 11)) (cc (k + 11)) T.con T.isa 100 s__law_first_refused_4 (fr c x (owl ds) (.val m) (.val y)) o = .nx (fr c x (owl (ds ++ [.str "NoYear"])) (.val m) (.val y)) o := by
  rw [s__law_first_refused_4]
  refine st_app rfl (ev_word (cs := [c.d, m, y]) rfl (v_word (.inr (.inl rfl)) ?_)) (ten (by omega))
  rw [cc_succ (np := 0) (ds := []) rfl]
  have z := r_month (k := k) (o := o) (w := "NoYear") (nO_d c) (sm2_d C) hy hm (by rw [calB_d C, hn]; rfl)
  simp only [exSs, exS, evE, evEs, evAs, evEo, evC, evSrc, evT, frame, getV, getB, Res.ofO, Res.bind, Res.st, SRes.seq, SRes.out, List.getElem?_cons_zero, List.getElem?_cons_succ, List.cons_append, List.nil_append, List.replicate, List.length_cons, List.length_nil, bindT, bindTs, List.set_cons_zero, List.set_cons_succ, frzF, wipeF, List.map_cons, List.map_nil, z]
theorem fr5 (C : c.Ok) (hy : okD y = true) (hn : isN y = false) {ds : List D} (hz : ds.length ≤ 900) : exS (cf (k + 11)) (cc (k + 11)) T.con T.isa 100 s__law_first_refused_5 (fr c x (owl ds) (.val m) (.val y)) o = .nx (fr c x (owl (ds ++ [.str "NoYear"])) (.val m) (.val y)) o := by
  rw [s__law_first_refused_5]
  refine st_app rfl (ev_word (cs := [c.d, y]) rfl (v_word (.inr (.inl rfl)) ?_)) (ten (by omega))
  rw [cc_succ (np := 0) (ds := []) rfl]
  have z := r_days (k := k + 1) (o := o) (w := "NoYear") (nO_d c) (sm2_d C) hy (by rw [calB_d C, hn]; rfl)
  simp only [exSs, exS, evE, evEs, evAs, evEo, evC, evSrc, evT, frame, getV, getB, Res.ofO, Res.bind, Res.st, SRes.seq, SRes.out, List.getElem?_cons_zero, List.getElem?_cons_succ, List.cons_append, List.nil_append, List.replicate, List.length_cons, List.length_nil, bindT, bindTs, List.set_cons_zero, List.set_cons_succ, frzF, wipeF, List.map_cons, List.map_nil, z]
theorem fr6 (C : c.Ok) (hm : okD m = true) (hn : moB c.d m = false) {ds : List D} (hz : ds.length ≤ 900) : exS (cf (k + 11)) (cc (k + 11)) T.con T.isa 100 s__law_first_refused_6 (fr c x (owl ds) (.val m) (.val y)) o = .nx (fr c x (owl (ds ++ [.str "NoMonth"])) (.val m) (.val y)) o := by
  rw [s__law_first_refused_6]
  refine st_app rfl (ev_word (cs := [c.d, m]) rfl (v_word (.inr (.inr rfl)) ?_)) (ten (by omega))
  rw [cc_succ (np := 0) (ds := []) rfl]
  have z := r_month (k := k) (o := o) (y := .int 3) (w := "NoMonth") (nO_d c) (sm2_d C) rfl hm (by rw [calB_d C, isN_int (by omega), hn]; rfl)
  simp only [exSs, exS, evE, evEs, evAs, evEo, evC, evSrc, evT, frame, getV, getB, Res.ofO, Res.bind, Res.st, SRes.seq, SRes.out, List.getElem?_cons_zero, List.getElem?_cons_succ, List.cons_append, List.nil_append, List.replicate, List.length_cons, List.length_nil, bindT, bindTs, List.set_cons_zero, List.set_cons_succ, frzF, wipeF, List.map_cons, List.map_nil, z]
theorem fr7 (C : c.Ok) {ds : List D} (hz : ds.length ≤ 900) : exS (cf (k + 11)) (cc (k + 11)) T.con T.isa 100 s__law_first_refused_7 (fr c x (owl ds) (.val m) (.val y)) o = .nx (fr c x (owl (ds ++ [.str "NoMonth"])) (.val m) (.val y)) o := by
  obtain ⟨nm, hx⟩ : ∃ x : Int, x = (c.ms.length : Int) := ⟨_, rfl⟩
  have e : (Cal.d c) = .tup [.int c.w, iT c.ms, c.leap] := rfl
  have hp : binD .Pow (.int 10) (.int 20) = some (.int (10 ^ 20)) := by rfl
  have hn : moB c.d (.int nm) = false := by
    show wi (.int nm) 0 ((((c.ms.map D.int).length : Nat) : Int) - 1) = false
    rw [List.length_map, hx]
    exact wi_no (by omega)
  have hl := len_iT c.ms
  rw [← hx] at hl
  rw [s__law_first_refused_7]
  refine st_app rfl (ev_word (cs := [c.d]) rfl (v_word (.inr (.inr rfl)) ?_)) (ten (by omega))
  rw [cc_succ (np := 0) (ds := []) rfl]
  have z := r_begins (k := k) (o := o) (y := .int (10 ^ 20)) (m := .int nm) (w := "NoMonth") (nO_d c) (sm2_d C) rfl rfl (by rw [calB_d C, isN_int (by decide), hn]; rfl)
  rw [e] at z
  simp only [exSs, exS, evE, evEs, evAs, evEo, evC, evSrc, evT, frame, getV, getB, Res.ofO, Res.bind, Res.st, SRes.seq, SRes.out, List.getElem?_cons_zero, List.getElem?_cons_succ, List.cons_append, List.nil_append, List.replicate, List.length_cons, List.length_nil, bindT, bindTs, List.set_cons_zero, List.set_cons_succ, frzF, wipeF, List.map_cons, List.map_nil, e, idxD, at3, hl, hp, z]
theorem v_refused (C : c.Ok) (B : Bad x) (h : Hd (n + 2) o) : ∃ (o' : Objs), cf (k + 12) "_law_first_refused" [.val (.obj 0), .val c.d, .val x] o = .ok (.bl true) o' ∧ Hd n o' := by
  obtain ⟨y, o1, z1', hy, h1⟩ := v_any (k := k + 9) (n := n + 1) (ds := ys0) h (Nat.le_of_ble_eq_true rfl) (Nat.le_of_ble_eq_true rfl)
  obtain ⟨m, o2, z2', hm, h2⟩ := v_any (k := k + 9) (n := n) (ds := ms0) h1 (Nat.le_of_ble_eq_true rfl) (Nat.le_of_ble_eq_true rfl)
  obtain ⟨y1, y2⟩ := ys_no y hy
  obtain ⟨m1, m2⟩ := ms_no C m hm
  have hn : negD (.int 1) = some (.int (-1)) := rfl
  unfold ys0 at z1'
  unfold ms0 at z2'
  have e1 : exS (cf (k + 11)) (cc (k + 11)) T.con T.isa 100 s__law_first_refused_1 (fr c x .none .none .none) o = .nx (fr c x .none (.val m) (.val y)) o2 := by
    simp only [s__law_first_refused_1, exSs, exS, evE, evEs, evAs, evEo, evC, evSrc, evT, frame, getV, getB, Res.ofO, Res.bind, Res.st, SRes.seq, SRes.out, List.getElem?_cons_zero, List.getElem?_cons_succ, List.cons_append, List.nil_append, List.replicate, List.length_cons, List.length_nil, bindT, bindTs, List.set_cons_zero, List.set_cons_succ, frzF, wipeF, z1, z2, z6, if_true, hn, z1', z2']
  refine ⟨o2, ?_, h2⟩
  rw [cf_succ f__law_first_refused rfl]
  show ((exSs (cf (k + 11)) (cc (k + 11)) T.con T.isa 100 (.cons s__law_first_refused_1 (.cons s__law_first_refused_2 (.cons s__law_first_refused_3 (.cons s__law_first_refused_4 (.cons s__law_first_refused_5 (.cons s__law_first_refused_6 (.cons s__law_first_refused_7 (.cons s__law_first_refused_8 .nil)))))))) (fr c x .none .none .none) o).out) = _
  rw [exSs, e1]
  simp only [SRes.seq]
  rw [exSs, fr2 B y1 m1]
  simp only [SRes.seq]
  rw [exSs, fr3 B y1 (Nat.le_of_ble_eq_true rfl)]
  simp only [SRes.seq]
  rw [exSs, fr4 C y1 y2 m1 (Nat.le_of_ble_eq_true rfl)]
  simp only [SRes.seq]
  rw [exSs, fr5 C y1 y2 (Nat.le_of_ble_eq_true rfl)]
  simp only [SRes.seq]
  rw [exSs, fr6 C m1 m2 (Nat.le_of_ble_eq_true rfl)]
  simp only [SRes.seq]
  rw [exSs, fr7 C (Nat.le_of_ble_eq_true rfl)]
  simp only [SRes.seq]
  rw [exSs]
  show (((exS (cf (k + 11)) (cc (k + 11)) T.con T.isa 100 s__law_first_refused_8 [.val (.obj 0), .val c.d, .val x, owl [.str "NoCalendar", .str "NoCalendar", .str "NoYear", .str "NoYear", .str "NoMonth", .str "NoMonth"], .val m, .val y] o2).seq _).out) = _
  rw [fr8]
  rfl
end
end
end K00

set_option maxHeartbeats 2000000
/-! K00o: the law. -/
namespace K00
open PySem Ev
section
variable {k n : Nat} {o : Objs}
def cel (i : Int) : Int := (if i < 0 then -i else i) % 10 ^ 36
def cells (ns : List Int) : List Int := (ns.take 60).map cel
theorem p36 : binD .Pow (.int 10) (.int 36) = some (.int (10 ^ 36)) := by rfl
theorem v_cell {F : FnT} {C' : CloT} {G : Str → Option D} {is : Str → Str → Bool} {ρ : Frm} {i : Int} (h : getB ρ 2 = some (.int i)) : evE F C' G is (.bin .Mod (.bif .int (.cons (.bif .abs (.cons (.bif .int (.cons (.bor 2) .nil)) .nil)) .nil)) (.bin .Pow (.int 10) (.int 36))) ρ o = .ok (.int (cel i)) o := by
  have hp : decide ((0 : Int) < 10 ^ 36) = true := by decide
  have hm (a : Int) : binD .Mod (.int a) (.int (10 ^ 36)) = some (.int (a % 10 ^ 36)) := by
    show (if decide ((0 : Int) < 10 ^ 36) = true then some (D.int (a % 10 ^ 36)) else none) = _
    rw [hp]
    rfl
  have h3 (j : Int) : bifD .int [.int j] = some (.int j) := rfl
  have h2 : bifD .abs [.int i] = some (.int (if i < 0 then -i else i)) := rfl
  simp only [evE, evEs, h, Res.ofO, Res.bind, h3, h2, p36, hm, cel]
theorem v_hand (ns : List Int) : ∃ se : Int, cf (k + 1) "_law_hand" [.val (.lst (ns.map D.int))] [] = .ok (.obj 0) [hnd (cells ns) 0 0 se 0] ∧ HdOk 1000 (cells ns) 0 0 se 0 := by
  have hl : (cells ns).length ≤ 60 := by
    unfold cells
    rw [List.length_map, List.length_take]
    omega
  have hp : decide ((0 : Int) < 10 ^ 36) = true := by decide
  have hc : evE (cf k) (cc k) T.con T.isa e__law_hand_1 [.val (.lst (ns.map D.int)), .none, .none] [] = .ok (.lst ((cells ns).map D.int)) [] := by
    refine comp_ok (ds := (ns.take 60).map D.int) (o1 := []) ?_ ?_ (by rw [List.length_map]; exact ten (by omega))
    · have hs : slcD (.lst (ns.map D.int)) none (some 60) = some (.lst ((ns.take 60).map D.int)) := by
        have z := cutN (ns.map D.int) 60
        show some (D.lst (cutD (ns.map D.int) none (some 60))) = _
        rw [List.map_take, ← z]
        rfl
      simp only [exSs, exS, evE, evEs, evAs, evEo, evC, evSrc, evT, frame, getV, getB, Res.ofO, Res.bind, Res.st, SRes.seq, SRes.out, List.getElem?_cons_zero, List.getElem?_cons_succ, List.cons_append, List.nil_append, List.replicate, List.length_cons, List.length_nil, bindT, bindTs, List.set_cons_zero, List.set_cons_succ, frzF, wipeF, hs]
    · have z := compL_map (o := []) (f := fun d => D.int (cel (toI d))) (ds := (ns.take 60).map D.int) (bd := fun d => bindT (.name 2) d (wipeF [.val (.lst (ns.map D.int)), .none, .none] [2])) (cnd := fun ρ' o' => evC (cf k) (cc k) T.con T.isa .none ρ' o') (el := fun ρ' o' => evE (cf k) (cc k) T.con T.isa (.bin .Mod (.bif .int (.cons (.bif .abs (.cons (.bif .int (.cons (.bor 2) .nil)) .nil)) .nil)) (.bin .Pow (.int 10) (.int 36))) ρ' o') fun d hd => by
        obtain ⟨i, _, rfl⟩ := List.mem_map.mp hd
        refine ⟨[.val (.lst (ns.map D.int)), .none, .val (.int i)], rfl, rfl, ?_⟩
        exact v_cell rfl
      rw [List.map_map] at z
      refine z.trans ?_
      unfold cells
      rw [List.map_map]
      rfl
  obtain ⟨nl, hn⟩ : ∃ x : Int, x = ((cells ns).length : Int) := ⟨_, rfl⟩
  have e2 : exS (cf k) (cc k) T.con T.isa 100 s__law_hand_2 [.val (.lst (ns.map D.int)), .none, .none] [] = .nx [.val (.lst (ns.map D.int)), .val (.lst ((cells ns).map D.int)), .none] [] := by
    simp only [s__law_hand_2, exSs, exS, evE, evEs, evAs, evEo, evC, evSrc, evT, frame, getV, getB, Res.ofO, Res.bind, Res.st, SRes.seq, SRes.out, List.getElem?_cons_zero, List.getElem?_cons_succ, List.cons_append, List.nil_append, List.replicate, List.length_cons, List.length_nil, bindT, bindTs, List.set_cons_zero, List.set_cons_succ, frzF, wipeF, hc]
  have hb : bifD .len [.lst ((cells ns).map D.int)] = some (.int nl) := by
    simp only [bifD, List.length_map, hn]
  have hm : mulOk 3 nl = true := mulOk_lit (by omega) (by omega) (by omega) (by omega)
  have h5 := z5
  refine ⟨29 + 3 * nl, ?_, by omega, hl, ?_, by omega, by omega, by omega, by omega⟩
  · rw [cf_succ f__law_hand rfl]
    show ((exSs (cf k) (cc k) T.con T.isa 100 (.cons s__law_hand_2 (.cons s__law_hand_3 .nil)) [.val (.lst (ns.map D.int)), .none, .none] []).out) = _
    rw [exSs, e2]
    simp only [SRes.seq]
    simp only [s__law_hand_3, exSs, exS, evE, evEs, evAs, evEo, evC, evSrc, evT, frame, getV, getB, Res.ofO, Res.bind, Res.st, SRes.seq, SRes.out, List.getElem?_cons_zero, List.getElem?_cons_succ, List.cons_append, List.nil_append, List.replicate, List.length_cons, List.length_nil, bindT, bindTs, List.set_cons_zero, List.set_cons_succ, frzF, wipeF, hb, binD, hm, h5, if_true, hnd]
    rfl
  · intro x hx
    unfold cells at hx
    obtain ⟨i, _, rfl⟩ := List.mem_map.mp hx
    exact ⟨Int.emod_nonneg _ (by decide), Int.emod_lt_of_pos _ (by decide)⟩
/-! ### the known calendar -/
def kn : Cal := ⟨7, [3, 2], 2, [1], 1, 1⟩
theorem knOk : kn.Ok := ⟨by decide, by decide, by decide, by decide, by decide, by decide, by decide, by decide, by decide, by decide, by decide, by decide, by decide, by decide⟩
abbrev fl (sc : D) (a b c d : Slot) : Frm := [.val sc, .val (.obj 0), .val kn.d, a, b, c, d]
variable {sc : D} {a b s d : Slot} {c : Cal} {x : D}
theorem l2 : exS (cf (k + 12)) (cc (k + 12)) T.con T.isa 100 s_law_2 [.val sc, .val (.obj 0), .none, .none, .none, .none, .none] o = .nx (fl sc .none .none .none .none) o := by
  have e : kn.d = .tup [.int 7, .tup [.int 3, .int 2], .tup [.int 2, .tup [.int 1], .int 1, .int 1]] := rfl
  simp only [s_law_2, exSs, exS, evE, evEs, evAs, evEo, evC, evSrc, evT, frame, getV, getB, Res.ofO, Res.bind, Res.st, SRes.seq, SRes.out, List.getElem?_cons_zero, List.getElem?_cons_succ, List.cons_append, List.nil_append, List.replicate, List.length_cons, List.length_nil, bindT, bindTs, List.set_cons_zero, List.set_cons_succ, frzF, wipeF, e, fl, z1, z2, z3, z4, if_true]
theorem l4 : exS (cf (k + 12)) (cc (k + 12)) T.con T.isa 100 s_law_4 (fl sc .none .none .none .none) o = .nx (fl sc .none .none .none .none) o := by
  have y1 := v_cycle_days (k := k + 5) (o := o) knOk
  have y2 := v_year_days (k := k + 4) (o := o) (y := 1) knOk (by decide)
  have y3 := v_year_days (k := k + 4) (o := o) (y := 10 ^ 30) knOk (by decide)
  have g1 : cyd kn = 11 := by decide +kernel
  have g2 : yd kn 1 = 6 := by decide +kernel
  have g3 : yd kn (10 ^ 30) = 5 := by decide +kernel
  have hp : binD .Pow (.int 10) (.int 30) = some (.int (10 ^ 30)) := by rfl
  have he : eqD (.lst [.int 11, .int 6, .int 5]) (.lst [.int 11, .int 6, .int 5]) = some true := eqL [11, 6, 5]
  rw [g1] at y1
  rw [g2] at y2
  rw [g3] at y3
  simp only [s_law_4, exSs, exS, evE, evEs, evAs, evEo, evC, evSrc, evT, frame, getV, getB, Res.ofO, Res.bind, Res.st, SRes.seq, SRes.out, List.getElem?_cons_zero, List.getElem?_cons_succ, List.cons_append, List.nil_append, List.replicate, List.length_cons, List.length_nil, bindT, bindTs, List.set_cons_zero, List.set_cons_succ, frzF, wipeF, y1, y2, y3, hp, z3, if_true, cmpD, he, Option.map, Bool.not_true, Bool.false_eq_true, if_false]
theorem l8 (C : c.Ok) (B : Bad x) : exS (cf (k + 12)) (cc (k + 12)) T.con T.isa 100 s_law_8 (fl sc a (.val c.d) (.val x) d) o = .nx (fl sc a (.val c.d) (.val x) d) o := by
  have y1 := v_is_calendar (k := k + 7) (o := o) c.d (nO_d c) (sm2_d C)
  have y2 := v_is_calendar (k := k + 7) (o := o) x B.o B.s
  have y3 := v_cycle_right (k := k + 2) (o := o) C
  rw [calB_d C] at y1
  rw [B.c] at y2
  have g1 : cmpD .IsNot (.bl true) (.bl true) = some (.bl false) := rfl
  have g2 : cmpD .IsNot (.bl false) (.bl false) = some (.bl false) := rfl
  simp only [s_law_8, exSs, exS, evE, evEs, evAs, evEo, evC, evSrc, evT, frame, getV, getB, Res.ofO, Res.bind, Res.st, SRes.seq, SRes.out, List.getElem?_cons_zero, List.getElem?_cons_succ, List.cons_append, List.nil_append, List.replicate, List.length_cons, List.length_nil, bindT, bindTs, List.set_cons_zero, List.set_cons_succ, frzF, wipeF, y1, y2, y3, g1, g2, Bool.not_true, Bool.false_eq_true, if_false]
theorem l10v {cd kk : D} {y : Int} (y1 : cf (k + 12) "_law_year_right" [.val cd, .val (.int y)] o = .ok (.bl true) o) : exSs (cf (k + 12)) (cc (k + 12)) T.con T.isa 100 b_law_11 [.val sc, .val (.obj 0), .val kk, a, .val cd, s, .val (.int y)] o = .nx [.val sc, .val (.obj 0), .val kk, a, .val cd, s, .val (.int y)] o := by
  have e10 : exS (cf (k + 12)) (cc (k + 12)) T.con T.isa 100 s_law_10 [.val sc, .val (.obj 0), .val kk, a, .val cd, s, .val (.int y)] o = .nx [.val sc, .val (.obj 0), .val kk, a, .val cd, s, .val (.int y)] o := by
    simp only [s_law_10, exSs, exS, evE, evEs, evAs, evEo, evC, evSrc, evT, frame, getV, getB, Res.ofO, Res.bind, Res.st, SRes.seq, SRes.out, List.getElem?_cons_zero, List.getElem?_cons_succ, List.cons_append, List.nil_append, List.replicate, List.length_cons, List.length_nil, bindT, bindTs, List.set_cons_zero, List.set_cons_succ, frzF, wipeF, y1, Bool.not_true, Bool.false_eq_true, if_false]
  rw [b_law_11, exSs, e10]
  simp only [SRes.seq]
  rw [exSs]
theorem l10 (C : c.Ok) {y : Int} (h0 : 0 ≤ y) (hy : y ≤ 10 ^ 30) : exSs (cf (k + 12)) (cc (k + 12)) T.con T.isa 100 b_law_11 (fl sc a (.val c.d) s (.val (.int y))) o = .nx (fl sc a (.val c.d) s (.val (.int y))) o := l10v (v_year_right (k := k + 2) (o := o) C h0 hy)
theorem l14 (C : c.Ok) (B : Bad x) (h : Hd (n + 2) o) : ∃ o', exS (cf (k + 12)) (cc (k + 12)) T.con T.isa 100 s_law_14 (fl sc a (.val c.d) (.val x) d) o = .nx (fl sc a (.val c.d) (.val x) d) o' ∧ Hd n o' := by
  obtain ⟨o', y1, h1⟩ := v_refused (k := k) (n := n) (o := o) C B h
  refine ⟨o', ?_, h1⟩
  simp only [s_law_14, exSs, exS, evE, evEs, evAs, evEo, evC, evSrc, evT, frame, getV, getB, Res.ofO, Res.bind, Res.st, SRes.seq, SRes.out, List.getElem?_cons_zero, List.getElem?_cons_succ, List.cons_append, List.nil_append, List.replicate, List.length_cons, List.length_nil, bindT, bindTs, List.set_cons_zero, List.set_cons_succ, frzF, wipeF, y1, Bool.not_true, Bool.false_eq_true, if_false]
theorem src_seq {F : FnT} {C' : CloT} {G : Str → Option D} {is : Str → Str → Bool} {e : IE} {ρ : Frm} {o o' : Objs} {ds : List D} (h : evE F C' G is e ρ o = .ok (.tup ds) o') : evSrc F C' G is (.seq e) ρ o = .ok ds o' := by
  simp only [evSrc, h, Res.bind]
theorem loopF2 {bd : D → Frm → Option Frm} {b : Frm → Objs → SRes} {d1 d2 : D} {ρ ρ1 ρ2 ρ3 ρ4 : Frm} {o o1 o2 : Objs} (t1 : bd d1 ρ = some ρ1) (q1 : b ρ1 o = .nx ρ2 o1) (t2 : bd d2 ρ2 = some ρ3) (q2 : b ρ3 o1 = .nx ρ4 o2) : loopF bd b [d1, d2] ρ o = .nx ρ4 o2 := by
  simp only [loopF, t1, q1, t2, q2]
theorem st_for {F : FnT} {C' : CloT} {G : Str → Option D} {is : Str → Str → Bool} {L : Nat} {t : Tg} {src : ISrc} {b : ISs} {ρ : Frm} {o o1 : Objs} {ds : List D} {r : SRes} (hs : evSrc F C' G is src ρ o = .ok ds o1) (hl : loopF (fun d ρ => bindT t d ρ) (fun ρ o => exSs F C' G is L b ρ o) ds ρ o1 = r) : exS F C' G is L (.for t src b) ρ o = r := by
  simp only [exS, hs, Res.st, hl]
theorem l12v {cd kk : D} {d1 d2 : Int} {o1 o2 : Objs} (y1 : cf (k + 12) "_law_draw" [.val (.obj 0), .val (.int 30)] o = .ok (.int d1) o1) (y2 : cf (k + 12) "_law_draw" [.val (.obj 0), .val (.int (10 ^ 20))] o1 = .ok (.int d2) o2) : evSrc (cf (k + 12)) (cc (k + 12)) T.con T.isa (.seq (.tup (.cons (.call "_law_draw" (.val (.var 1) (.val (.int 30) .nil))) (.cons (.call "_law_draw" (.val (.var 1) (.val (.bin .Pow (.int 10) (.int 20)) .nil))) .nil)))) [.val sc, .val (.obj 0), .val kk, a, .val cd, s, d] o = .ok [.int d1, .int d2] o2 := by
  have hp : binD .Pow (.int 10) (.int 20) = some (.int (10 ^ 20)) := by rfl
  refine src_seq ?_
  simp only [exSs, exS, evE, evEs, evAs, evEo, evC, evSrc, evT, frame, getV, getB, Res.ofO, Res.bind, Res.st, SRes.seq, SRes.out, List.getElem?_cons_zero, List.getElem?_cons_succ, List.cons_append, List.nil_append, List.replicate, List.length_cons, List.length_nil, bindT, bindTs, List.set_cons_zero, List.set_cons_succ, frzF, wipeF, y1, y2, hp, z2, if_true]
theorem l12 (C : c.Ok) (h : Hd (n + 2) o) : ∃ y o', exS (cf (k + 12)) (cc (k + 12)) T.con T.isa 100 s_law_12 (fl sc a (.val c.d) s d) o = .nx (fl sc a (.val c.d) s y) o' ∧ Hd n o' := by
  obtain ⟨d1, o1, y1, b1, h1⟩ := v_draw (k := k + 11) (n := n + 1) (m := 30) h (by omega) (by omega)
  obtain ⟨d2, o2, y2, b2, h2⟩ := v_draw (k := k + 11) (n := n) (m := 10 ^ 20) h1 (by omega) (by omega)
  have hs := l12v (k := k) (sc := sc) (kk := kn.d) (a := a) (cd := c.d) (s := s) (d := d) y1 y2
  have q1 := l10 (k := k) (sc := sc) (a := a) (s := s) (o := o2) C (y := d1) b1.1 (by omega)
  have q2 := l10 (k := k) (sc := sc) (a := a) (s := s) (o := o2) C (y := d2) b2.1 (by omega)
  have t1 : bindT (.name 6) (.int d1) (fl sc a (.val c.d) s d) = some (fl sc a (.val c.d) s (.val (.int d1))) := rfl
  have t2 : bindT (.name 6) (.int d2) (fl sc a (.val c.d) s (.val (.int d1))) = some (fl sc a (.val c.d) s (.val (.int d2))) := rfl
  refine ⟨.val (.int d2), o2, ?_, h2⟩
  rw [s_law_12]
  exact st_for hs (loopF2 t1 q1 t2 q2)
theorem lbody (h : Hd (n + 70) o) : ∃ a' b' s' d' o', exSs (cf (k + 12)) (cc (k + 12)) T.con T.isa 100 b_law_15 (fl sc a b s d) o = .nx (fl sc a' b' s' d') o' ∧ Hd n o' := by
  obtain ⟨c, o1, y1, C, h1⟩ := v_made (k := k + 9) (n := n + 10) (o := o) h
  obtain ⟨x, o2, y2, B, h2⟩ := v_bent (k := k + 9) (n := n + 9) (o := o1) C h1
  have e5 : exS (cf (k + 12)) (cc (k + 12)) T.con T.isa 100 s_law_5 (fl sc a b s d) o = .nx (fl sc a (.val c.d) s d) o1 := by
    simp only [s_law_5, exSs, exS, evE, evEs, evAs, evEo, evC, evSrc, evT, frame, getV, getB, Res.ofO, Res.bind, Res.st, SRes.seq, SRes.out, List.getElem?_cons_zero, List.getElem?_cons_succ, List.cons_append, List.nil_append, List.replicate, List.length_cons, List.length_nil, bindT, bindTs, List.set_cons_zero, List.set_cons_succ, frzF, wipeF, y1]
  have e6 : exS (cf (k + 12)) (cc (k + 12)) T.con T.isa 100 s_law_6 (fl sc a (.val c.d) s d) o1 = .nx (fl sc a (.val c.d) (.val x) d) o2 := by
    simp only [s_law_6, exSs, exS, evE, evEs, evAs, evEo, evC, evSrc, evT, frame, getV, getB, Res.ofO, Res.bind, Res.st, SRes.seq, SRes.out, List.getElem?_cons_zero, List.getElem?_cons_succ, List.cons_append, List.nil_append, List.replicate, List.length_cons, List.length_nil, bindT, bindTs, List.set_cons_zero, List.set_cons_succ, frzF, wipeF, y2]
  obtain ⟨y, o3, e12, h3⟩ := l12 (k := k) (n := n + 7) (sc := sc) (a := a) (s := .val x) (d := d) (o := o2) C h2
  obtain ⟨o4, e14, h4⟩ := l14 (k := k) (n := n + 5) (sc := sc) (a := a) (d := y) (o := o3) C B h3
  refine ⟨a, .val c.d, .val x, y, o4, ?_, h4.le (by omega)⟩
  rw [b_law_15, exSs, e5]
  simp only [SRes.seq]
  rw [exSs, e6]
  simp only [SRes.seq]
  rw [exSs, l8 C B]
  simp only [SRes.seq]
  rw [exSs, e12]
  simp only [SRes.seq]
  rw [exSs, e14]
  rfl
theorem v_law (ns : List Int) : ∃ o', cf (k + 13) "law" [.val (.lst (ns.map D.int))] [] = .ok (.bl true) o' := by
  obtain ⟨se, y1, H⟩ := v_hand (k := k + 11) ns
  have h0 : Hd 1000 [hnd (cells ns) 0 0 se 0] := ⟨_, _, _, _, _, rfl, H⟩
  generalize hnd (cells ns) 0 0 se 0 = hh at y1 h0
  have e1 : exS (cf (k + 12)) (cc (k + 12)) T.con T.isa 100 s_law_1 [.val (.lst (ns.map D.int)), .none, .none, .none, .none, .none, .none] [] = .nx [.val (.lst (ns.map D.int)), .val (.obj 0), .none, .none, .none, .none, .none] [hh] := by
    simp only [s_law_1, exSs, exS, evE, evEs, evAs, evEo, evC, evSrc, evT, frame, getV, getB, Res.ofO, Res.bind, Res.st, SRes.seq, SRes.out, List.getElem?_cons_zero, List.getElem?_cons_succ, List.cons_append, List.nil_append, List.replicate, List.length_cons, List.length_nil, bindT, bindTs, List.set_cons_zero, List.set_cons_succ, frzF, wipeF, y1]
  obtain ⟨ρ', o', lp, ⟨a, b, s, d, rfl⟩, _⟩ := loopF_nx (bd := fun d ρ => bindT (.name 3) d ρ) (b := fun ρ o => exSs (cf (k + 12)) (cc (k + 12)) T.con T.isa 100 b_law_15 ρ o) (P := fun j ρ o' => (∃ a b s d, ρ = fl (.lst (ns.map D.int)) a b s d) ∧ Hd ((10 - j) * 70) o') 6 0 (fl (.lst (ns.map D.int)) .none .none .none .none) [hh] ⟨⟨_, _, _, _, rfl⟩, h0.le (by omega)⟩ fun j ρ o' _ hj hp => by
    obtain ⟨⟨a, b, s, d, rfl⟩, hd⟩ := hp
    obtain ⟨a', b', s', d', o2, e, h2⟩ := lbody (k := k) (n := (10 - (j + 1)) * 70) (sc := .lst (ns.map D.int)) (a := .val (.int (j : Int))) (b := b) (s := s) (d := d) (o := o') (hd.le (by omega))
    exact ⟨_, rfl, _, o2, e, ⟨_, _, _, _, rfl⟩, h2⟩
  have hs : evSrc (cf (k + 12)) (cc (k + 12)) T.con T.isa (.range1 (.int 6)) (fl (.lst (ns.map D.int)) .none .none .none .none) [hh] = .ok ((List.range 6).map fun (j : Nat) => D.int (j : Int)) [hh] := src_rng (x := 6) (m := 6) (by rw [evE]) rfl (by omega)
  rw [← List.range_eq_range'] at lp
  have e16 : exS (cf (k + 12)) (cc (k + 12)) T.con T.isa 100 s_law_16 (fl (.lst (ns.map D.int)) .none .none .none .none) [hh] = .nx (fl (.lst (ns.map D.int)) a b s d) o' := by
    rw [s_law_16]
    exact st_for hs lp
  refine ⟨o', ?_⟩
  rw [cf_succ f_law rfl]
  show ((exSs (cf (k + 12)) (cc (k + 12)) T.con T.isa 100 (.cons s_law_1 (.cons s_law_2 (.cons s_law_4 (.cons s_law_16 (.cons s_law_17 .nil))))) [.val (.lst (ns.map D.int)), .none, .none, .none, .none, .none, .none] []).out) = _
  rw [exSs, e1]
  simp only [SRes.seq]
  rw [exSs, l2]
  simp only [SRes.seq]
  rw [exSs, l4]
  simp only [SRes.seq]
  rw [exSs, e16]
  simp only [SRes.seq]
  simp only [s_law_17, exSs, exS, evE, evEs, evAs, evEo, evC, evSrc, evT, frame, getV, getB, Res.ofO, Res.bind, Res.st, SRes.seq, SRes.out, List.getElem?_cons_zero, List.getElem?_cons_succ, List.cons_append, List.nil_append, List.replicate, List.length_cons, List.length_nil, bindT, bindTs, List.set_cons_zero, List.set_cons_succ, frzF, wipeF]
end
end K00

set_option maxHeartbeats 0
/-! K00h: the head; the code is the program's. -/
namespace K00
open PySem PySem.Spec PyProof.Rows L2 Ev
abbrev row := PySem.Challenge.rw_everydate_k00_whole_calendars_years_and
abbrev pr := PySem.Challenge.pw_everydate_k00_whole_calendars_years_and
abbrev bd : List Stmt := pr.main.body
theorem fns_eq : fns = topIR ["_law_hand"] bd := by kernel_rfl
theorem cons_eq : topCons bd = cons0 := by kernel_rfl
def S : LawSet := lawSet bd fns isa 100
theorem okS : S.Ok := lawSet_ok fns_eq (by decide +kernel)
theorem says : S.Says 60 63 "law" := by
  intro ns _
  have e : S.T = T := by
    show Tab.mk (fun x => fns.lookup x) (fun x => (topCons bd).lookup x) isa = _
    rw [cons_eq]
    rfl
  have z := v_law (k := 47) ns
  rw [e]
  exact z
abbrev R : PySem.W.OpenRow := PySem.W.OpenLaw.row row
def iLaw : Nat := 47
def q : Program := PySem.W.view R.prog [iLaw]
def hk : PySem.W.Hook := He.hookX 4 [] S.DS [] S.tf S.ex
def ob (s : PySem.W.SharedT) : He.AlX := He.obsX 4 [] S.DS [] S.tf S.ex (HandSHeadRun.getT s)
theorem ob_eq (s : PySem.W.SharedT) : ob s = hk.obs s.abs := He.obsX_eq (HandSHeadRun.getT_eq s)
def loose : List Str := topDefs (bd.take 47) ++ (topClss bd ++ (topCons bd).map (·.1))
theorem run (w : World) : HandSHeadRun.RunEq R q hk ob 4000 loose w := by
  intro os
  kernel_rfl
end K00

set_option maxHeartbeats 0
open PySem PySem.W PySem.Calls PyProof.Rows
theorem PySem.Challenge.cw_everydate_k00_whole_calendars_years_and_holds : PySem.Challenge.rw_everydate_k00_whole_calendars_years_and.Holds := by
  w_on; o_law
  refine HandSHeadRun.head_any (r := K00.R) (q := K00.q) (H := K00.hk) (ob := K00.ob) (M := 4000) (loose := K00.loose) (d := HandSHeadRun.topDef K00.R.prog K00.iLaw) (kwd := []) K00.ob_eq
    (by kernel_rfl) (fun s => by kernel_rfl) K00.run (by kernel_rfl) (by kernel_rfl) (by kernel_rfl) (by rfl) (by first | assumption | decide +kernel) (by decide +kernel) ⟨rfl, rfl, rfl, rfl, rfl, by decide +kernel⟩ ?hw ?hc
  case hw => w_witness2
  case hc =>
    exact Ev.law_walk (l := K00.row) (S := K00.S) (k := 59) (n := 63) (m := 4) (x := "script") (nm := "law") K00.okS rfl (by decide) (by kernel_rfl) ⟨rfl, by decide, by decide⟩ (by kernel_rfl) (by kernel_rfl) K00.says
