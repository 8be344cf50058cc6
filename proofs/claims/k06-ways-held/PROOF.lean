import PyProof.Rows.All
import Wide.All
import OpenK.AllK
import Wide.FinOn
import HandS.ForExc
import HandS.ForMost
import KE.SortData
import PyProof.ReprRoads
import HandS.List
import HandS.TupLe
import HandS.Text
import HandS.Wide
import HandS.TupAny
import HandS.Flow
import HandS.IsInst
import PyProof.ReprLen
import HandS.RaiseMore
import HandS.Deep
import PyProof.FitsReplace
import HandS.Comp
import HandS.Iter
import HandS.HotCalls
import HandS.ExcIs
import HandS.Style
import KE.KRevSl
import HandS.Head0
import HandS.Head1
import HandS.Head2
import HandS.HeadEnd
import HandS.HeadHook1
import HandS.HeadHook2
import PyProof.ExcBaseAll.ValueError
import HandS.EndBits
import HandS.Defaults
import PyProof.StrBlockL
import KE.DataCmp
import PySem.Challenge.RW_ledquestions_k06_ways_held
set_option Elab.async false
set_option linter.all false
set_option maxRecDepth 100000
/-! BV1: plain data, the IR, its evaluator. -/
namespace BV
open PySem

abbrev D := PyData
abbrev Ev := List (Option D)

/-- what an evaluation comes to: a value, an exception (its class, its fields), or no rule -/
inductive Out (α : Type) where
  | ok (a : α) (ρ : Ev)
  | exc (x : D) (ρ : Ev)
  | stk

namespace Out
def bind {α β : Type} (o : Out α) (f : α → Ev → Out β) : Out β := match o with
  | .ok a ρ => f a ρ
  | .exc x ρ => .exc x ρ
  | .stk => .stk
@[simp] theorem bind_ok {α β : Type} (a : α) (ρ : Ev) (f : α → Ev → Out β) : (Out.ok a ρ).bind f = f a ρ := rfl
@[simp] theorem bind_exc {α β : Type} (x : D) (ρ : Ev) (f : α → Ev → Out β) : (Out.exc x ρ : Out α).bind f = .exc x ρ := rfl
@[simp] theorem bind_stk {α β : Type} (f : α → Ev → Out β) : (Out.stk : Out α).bind f = .stk := rfl
/-- a wish of an outcome -/
def Post {α : Type} (o : Out α) (P : α → Ev → Prop) (E : D → Ev → Prop) : Prop := match o with
  | .ok a ρ => P a ρ
  | .exc x ρ => E x ρ
  | .stk => False
theorem Post.bind {α β : Type} {o : Out α} {f : α → Ev → Out β} {P : β → Ev → Prop} {E : D → Ev → Prop} : (o.bind f).Post P E = o.Post (fun a ρ => (f a ρ).Post P E) E := by
  cases o <;> rfl
theorem Post.mono {α : Type} {o : Out α} {P P' : α → Ev → Prop} {E E' : D → Ev → Prop} (h : o.Post P E) (hp : ∀ a ρ, P a ρ → P' a ρ) (he : ∀ x ρ, E x ρ → E' x ρ) : o.Post P' E' := by
  cases o with
  | ok a ρ => exact hp _ _ h
  | exc x ρ => exact he _ _ h
  | stk => exact h
/-- an optional result -/
def lift {α : Type} (o : Option α) (ρ : Ev) : Out α := match o with
  | some a => .ok a ρ
  | none => .stk
@[simp] theorem lift_some {α : Type} (a : α) (ρ : Ev) : lift (some a) ρ = .ok a ρ := rfl
@[simp] theorem lift_none {α : Type} (ρ : Ev) : lift (none : Option α) ρ = .stk := rfl
end Out

/-- a list's, a text's greatest length -/
abbrev LIM : Nat := 16777216

inductive BOp where
  | add | sub | mul | fdiv | mod | pow
  deriving DecidableEq
inductive COp where
  | eq | ne | lt | le | gt | ge | is | isnot | mem | notin
  deriving DecidableEq
/-- built-in classes that isinstance asks for -/
inductive Ty where
  | int | str | bool | tuple | list | dict
  deriving DecidableEq
inductive Blt where
  | len | tuple | list | sorted | sortset | lenset | repr | str | int | abs | max2 | min2 | min1 | sum | all | any
  deriving DecidableEq
inductive Mth where
  | join | count | index | get1 | get2 | split | items
  deriving DecidableEq

/-- targets -/
inductive Tg where
  | s (i : Nat)
  | t (ts : Tg)
  | nil
  | cons (a r : Tg)
  deriving DecidableEq

/-- expressions; argument lists are enil, econs -/
inductive IE where
  | var (i : Nat)
  | cst (d : D)
  | glb (x : Str) (d : D)
  | enil | econs (a r : IE)
  | tup (es : IE) | lst (es : IE)
  | bin (o : BOp) (a b : IE) | neg (a : IE)
  | cmp (o : COp) (a b : IE) | cmp3 (o p : COp) (a b c : IE)
  | and (es : IE) | or (es : IE) | not (a : IE) | ife (c a b : IE)
  | idx (a i : IE) | slc (a lo hi : IE) | rev (a : IE) | nop
  | blt (b : Blt) (es : IE)
  | mth (m : Mth) (o es : IE)
  | isi (a : IE) (ts : List Ty)
  | isx (c : Str) | fld (x : Str) | hot (f : Nat)
  | call (f : Nat) (es : IE) | calld (f i : Nat) (es : IE)
  | rng (es : IE) | enm (a : IE) | zip (a b : IE)
  | lc (own : List Nat) (t : Tg) (it c e : IE)
  | dct | bad

/-- a call's outcome: what it hands back, and what the deck holds behind it -/
inductive FRes where
  | ret (d out : D)
  | exc (x out : D)
  | stk

/-! ### operations on data -/
def tru : D → Bool
  | .none => false
  | .bool b => b
  | .int i => i != 0
  | .str x => x.length != 0
  | .list xs => !xs.isEmpty
  | .tuple xs => !xs.isEmpty
  | .dict xs => !xs.isEmpty
def mulOk (i j : Int) : Bool := (decide (-(2 ^ 64) < i) && decide (i < 2 ^ 64)) || (decide (-(2 ^ 64) < j) && decide (j < 2 ^ 64))
def opBin : BOp → D → D → Option D
  | .add, .int i, .int j => some (.int (i + j))
  | .add, .str x, .str y => if x.length + y.length ≤ LIM then some (.str (x ++ y)) else none
  | .add, .list xs, .list ys => if xs.length + ys.length ≤ LIM then some (.list (xs ++ ys)) else none
  | .add, .tuple xs, .tuple ys => if xs.length + ys.length ≤ LIM then some (.tuple (xs ++ ys)) else none
  | .sub, .int i, .int j => some (.int (i - j))
  | .mul, .int i, .int j => if mulOk i j = true then some (.int (i * j)) else none
  | .mul, .list xs, .int n => if -(2 ^ 62) ≤ n ∧ n ≤ LIM ∧ xs.length * n.toNat ≤ LIM then some (.list (List.replicate n.toNat xs).flatten) else none
  | .fdiv, .int i, .int j => if 0 < j ∧ j < 1073741824 then some (.int (i / j)) else none
  | .mod, .int i, .int j => if 0 < j then some (.int (i % j)) else none
  | .pow, .int i, .int j => if 0 ≤ j ∧ j ≤ 1000000 ∧ i.natAbs < 2 ^ 64 then some (.int (i ^ j.toNat)) else none
  | _, _, _ => none
-- no dicts within
mutual
def noDict : D → Bool
  | .dict _ => false
  | .list xs => noDicts xs
  | .tuple xs => noDicts xs
  | .none => true
  | .bool _ => true
  | .int _ => true
  | .str _ => true
def noDicts : List D → Bool
  | [] => true
  | x :: xs => noDict x && noDicts xs
end
def eqOk (x y : D) : Bool := noDict x && noDict y && decide (min x.depth y.depth ≤ 64)
def strLt (x y : Str) : Bool := decide (x.cps.toList < y.cps.toList)
def isAtom : D → Bool
  | .none => true
  | .bool _ => true
  | _ => false
def opMem (x y : D) : Option Bool := match y with
  | .list ys => if (noDict x && noDicts ys && decide (min (PyData.depthAll ys) x.depth ≤ 64)) = true then some (ys.any fun z => PyData.eqv z x) else none
  | .tuple ys => if (noDict x && noDicts ys && decide (min (PyData.depthAll ys) x.depth ≤ 64)) = true then some (ys.any fun z => PyData.eqv z x) else none
  | .str z => (match x with
    | .str w => some (!(Builtin.Str.occurrences z w 0 z.length 1).isEmpty)
    | _ => none)
  | _ => none
def atomLt : D → D → Bool
  | .int i, .int j => decide (i < j)
  | .str a, .str b => strLt a b
  | _, _ => false
def flatAlike : D → D → Bool
  | .int _, .int _ => true
  | .str _, .str _ => true
  | _, _ => false
def flatAll : List D → List D → Bool
  | x :: xs, y :: ys => flatAlike x y && flatAll xs ys
  | _, _ => true
/-- x < y, item by item -/
def ltL : List D → List D → Bool
  | [], [] => false
  | [], _ :: _ => true
  | _ :: _, [] => false
  | x :: xs, y :: ys => if PyData.eqv x y = true then ltL xs ys else atomLt x y
def isNone : D → Bool
  | .none => true
  | _ => false
def isBl (b : Bool) : D → Bool
  | .bool c => b == c
  | _ => false
def ltD : D → D → Option Bool
  | .int i, .int j => some (decide (i < j))
  | .str a, .str b => some (strLt a b)
  | .tuple xs, .tuple ys => if flatAll xs ys = true then some (ltL xs ys) else none
  | _, _ => none
def opCmp : COp → D → D → Option Bool
  | .eq, x, y => if eqOk x y = true then some (PyData.eqv x y) else none
  | .ne, x, y => if eqOk x y = true then some (!PyData.eqv x y) else none
  | .lt, x, y => ltD x y
  | .gt, x, y => ltD y x
  | .le, x, y => (ltD y x).map (!·)
  | .ge, x, y => (ltD x y).map (!·)
  | .is, x, .none => some (isNone x)
  | .is, x, .bool b => some (isBl b x)
  | .isnot, x, .none => some (!isNone x)
  | .isnot, x, .bool b => some (!isBl b x)
  | .mem, x, y => opMem x y
  | .notin, x, y => (opMem x y).map (!·)
  | _, _, _ => none
/-- a place of a sequence, from either end -/
def atIx (n : Nat) (i : Int) : Option Nat := if 0 ≤ i then (if i < n then some i.toNat else none) else (if -(n : Int) ≤ i then some (i + n).toNat else none)
def opIdx : D → D → Option D
  | .list xs, .int i => (atIx xs.length i).bind fun k => xs[k]?
  | .tuple xs, .int i => (atIx xs.length i).bind fun k => xs[k]?
  | .str x, .int i => (atIx x.length i).bind fun k => x.cps[k]?.map fun c => .str ⟨#[c]⟩
  | _, _ => none
/-- a slice's end, counted from the left -/
def clip (n : Nat) (d : Nat) : Option Int → Nat
  | none => d
  | some v => if v < 0 then (v + (n : Int)).toNat else min v.toNat n
def cutL {α : Type} (xs : List α) (lo hi : Option Int) : List α := (xs.drop (clip xs.length 0 lo)).take (clip xs.length xs.length hi - clip xs.length 0 lo)
def opSlc (a : D) (lo hi : Option Int) : Option D := match a with
  | .list xs => some (.list (cutL xs lo hi))
  | .tuple xs => some (.tuple (cutL xs lo hi))
  | .str x => some (.str ⟨(cutL x.cps.toList lo hi).toArray⟩)
  | _ => none
def opRev : D → Option D
  | .list xs => some (.list xs.reverse)
  | .tuple xs => some (.tuple xs.reverse)
  | .str x => some (.str ⟨x.cps.toList.reverse.toArray⟩)
  | _ => none
def isTy : Ty → D → Bool
  | .int, .int _ => true
  | .int, .bool _ => true
  | .bool, .bool _ => true
  | .str, .str _ => true
  | .tuple, .tuple _ => true
  | .list, .list _ => true
  | .dict, .dict _ => true
  | _, _ => false
/-- what is walked -/
def items : D → Option (List D)
  | .list xs => some xs
  | .tuple xs => some xs
  | .str x => some (x.cps.toList.map fun c => .str ⟨#[c]⟩)
  | _ => none
def dedup : List D → List D
  | [] => []
  | x :: xs => x :: (dedup xs).filter fun y => !PyData.eqv x y
def sortOk (xs : List D) : Bool := xs.all fun x => xs.all fun y => W.alike x y
def sortD (xs : List D) : List D := xs.mergeSort (W.dataLe false id)
end BV
set_option Elab.async false
set_option linter.all false
set_option maxRecDepth 100000
/-! BV2: the evaluator. -/
namespace BV
open PySem

def isInt : D → Bool
  | .int _ => true
  | _ => false
def isIntB : D → Bool
  | .int _ => true
  | .bool _ => true
  | _ => false
def isBool : D → Bool
  | .bool _ => true
  | _ => false
def isStr : D → Bool
  | .str _ => true
  | _ => false
def isTup1 : D → Bool
  | .tuple (_ :: _) => true
  | _ => false
def intOf : D → Int
  | .int i => i
  | .bool b => if b then 1 else 0
  | _ => 0
/-- items that sorted takes: ints, or texts, or tuples of an item at least, each alike -/
def sortable (xs : List D) : Bool := sortOk xs && noDicts xs && decide (PyData.depthAll xs ≤ 64) && (xs.all isInt || xs.all isStr || xs.all isTup1)
/-- items that may stand in a set: ints, or texts, or tuples -/
def hashable (xs : List D) : Bool := noDicts xs && decide (PyData.depthAll xs ≤ 64) && (xs.all isInt || xs.all isStr || xs.all isTup1)
def joinD (sep : Str) (xs : List D) : Str := Str.join sep (xs.map fun x => match x with | .str y => y | _ => Str.empty)
def joinLen (sep : Str) (xs : List D) : Nat := (xs.map fun x => match x with | .str y => y.length + sep.length | _ => 0).sum
def opBlt : Blt → List D → Option D
  | .len, [.list xs] => some (.int xs.length)
  | .len, [.tuple xs] => some (.int xs.length)
  | .len, [.str x] => some (.int x.length)
  | .tuple, [.list xs] => some (.tuple xs)
  | .tuple, [.tuple xs] => some (.tuple xs)
  | .list, [.list xs] => some (.list xs)
  | .list, [.tuple xs] => some (.list xs)
  | .sorted, [x] => (items x).bind fun xs => if sortable xs = true then some (.list (sortD xs)) else none
  | .sortset, [x] => (items x).bind fun xs => if (sortable xs && hashable xs) = true then some (.list (sortD (dedup xs))) else none
  | .lenset, [x] => (items x).bind fun xs => if hashable xs = true then some (.int (dedup xs).length) else none
  | .repr, [x] => if x.showable = true ∧ x.shown.length ≤ LIM ∧ x.depth ≤ 64 then some (.str x.shown) else none
  | .str, [.int i] => if i.natAbs.log2 < 1920 ∧ (toString i : Str).length ≤ LIM then some (.str (toString i)) else none
  | .str, [.str x] => some (.str x)
  | .int, [.int i] => some (.int i)
  | .int, [.bool b] => some (.int (if b then 1 else 0))
  | .abs, [.int i] => some (.int (if i < 0 then -i else i))
  | .max2, [.int i, .int j] => some (.int (if j > i then j else i))
  | .min2, [.int i, .int j] => some (.int (if j < i then j else i))
  | .sum, [.list xs] => if xs.all isInt = true then some (.int (xs.map intOf).sum) else none
  | .all, [.list xs] => if xs.all isBool = true then some (.bool (xs.all tru)) else none
  | .any, [.list xs] => if xs.all isBool = true then some (.bool (xs.any tru)) else none
  | _, _ => none
def idxOf (x : D) : List D → Option Nat
  | [] => none
  | y :: ys => if PyData.eqv y x = true then some 0 else (idxOf x ys).map (· + 1)
def opMth : Mth → D → List D → Option D
  | .join, .str s, [.list xs] => if xs.all isStr = true ∧ joinLen s xs ≤ LIM then some (.str (joinD s xs)) else none
  | .join, .str s, [.tuple xs] => if xs.all isStr = true ∧ joinLen s xs ≤ LIM then some (.str (joinD s xs)) else none
  | .count, .list xs, [x] => if (noDict x && noDicts xs && decide (x.depth ≤ 64)) = true then some (.int (xs.countP fun y => PyData.eqv y x)) else none
  | .index, .list xs, [x] => if (noDict x && noDicts xs && decide (x.depth ≤ 64)) = true then (idxOf x xs).map fun k => .int k else none
  | .get1, .dict kvs, [x] => if noDict x = true then some (((kvs.find? fun kv => PyData.eqv kv.1 x).map (·.2)).getD .none) else none
  | .get2, .dict kvs, [x, y] => if noDict x = true then some (((kvs.find? fun kv => PyData.eqv kv.1 x).map (·.2)).getD y) else none
  | .items, .dict kvs, [] => some (.list (kvs.map fun kv => .tuple [kv.1, kv.2]))
  | _, _, _ => none
def Mth.ty : Mth → String
  | .join => "str"
  | .count => "list"
  | .index => "list"
  | .get1 => "dict"
  | .get2 => "dict"
  | .split => "str"
  | .items => "dict"
/-- is a datum of that type -/
def isT : String → D → Bool
  | "str", .str _ => true
  | "list", .list _ => true
  | "dict", .dict _ => true
  | _, _ => false
def opRng : List D → Option D
  | [.int n] => if -(2 ^ 62) ≤ n ∧ n ≤ LIM then some (.list ((List.range n.toNat).map fun (k : Nat) => .int k)) else none
  | [.int a, .int b] => if -(2 ^ 62) ≤ a ∧ a < 2 ^ 62 ∧ -(2 ^ 62) ≤ b ∧ b < 2 ^ 62 ∧ b - a ≤ LIM then some (.list ((List.range (b - a).toNat).map fun (k : Nat) => .int (a + k))) else none
  | _ => none
def enumD : Nat → List D → List D
  | _, [] => []
  | n, x :: xs => .tuple [.int n, x] :: enumD (n + 1) xs
def zipD : List D → List D → List D
  | x :: xs, y :: ys => .tuple [x, y] :: zipD xs ys
  | _, _ => []

/-- errors: under AskError, ValueError -/
def excSub (c h : Str) : Bool := decide (c = h) || decide (h = "AskError") || decide (h = "ValueError") || decide (h = "Exception")
def mkExc (c : Str) (v : D) : D := .tuple [.str c, v]
def excCls : D → Option Str
  | .tuple [.str c, _] => some c
  | _ => none
def excVal : D → Option D
  | .tuple [.str _, v] => some v
  | _ => none

/-- a target's store -/
def bindT : Tg → D → Ev → Option Ev
  | .s i, d, ρ => some (ρ.set i (some d))
  | .t ts, d, ρ => (match d with
    | .tuple xs => bindTs ts xs ρ
    | _ => none)
  | .nil, _, _ => none
  | .cons _ _, _, _ => none
where bindTs : Tg → List D → Ev → Option Ev
  | .nil, [], ρ => some ρ
  | .cons a r, x :: xs, ρ => (bindT a x ρ).bind fun ρ' => bindTs r xs ρ'
  | _, _, _ => none

def isNop : IE → Bool
  | .nop => true
  | _ => false
def partOf : D → Option (Option Int)
  | .int i => some (some i)
  | _ => none
def getV (ρ : Ev) (i : Nat) : Option D := (ρ[i]?).bind id
/-- there is a list -/
def hasL (ρ : Ev) (i : Nat) : Bool := match getV ρ i with
  | some (.list _) => true
  | _ => false
def wipeE (ρ : Ev) : List Nat → Ev
  | [] => ρ
  | i :: is => (wipeE ρ is).set i none
def backE (ρ ρ' : Ev) : List Nat → Ev
  | [] => ρ'
  | i :: is => (backE ρ ρ' is).set i ((ρ[i]?).bind id)
def lcLoop (f : D → Ev → Out (Option D)) : List D → Ev → Out (List D)
  | [], ρ => .ok [] ρ
  | x :: xs, ρ => (f x ρ).bind fun o ρ1 => (lcLoop f xs ρ1).bind fun r ρ2 => .ok (o.toList ++ r) ρ2
def Out.noExc {α : Type} : Out α → Out α
  | .exc _ _ => .stk
  | o => o
/-- one turn of a comprehension -/
def turnE (t : Tg) (own : List Nat) (mc me : Ev → Out D) : D → Ev → Out (Option D) := fun y ρ' => (Out.lift (bindT t y ρ') ρ').bind fun ρ1 _ => (mc ρ1).bind fun k ρ2 => if tru k = true then (me ρ2).bind fun z ρ3 => .ok (some z) (wipeE ρ3 own) else .ok none (wipeE ρ2 own)
/-- a call's end; the deck stood in slot i -/
def backD (i : Nat) (ρ : Ev) : FRes → Out D
  | .ret d o => .ok d (ρ.set i (some o))
  | .exc x o => .exc x (ρ.set i (some o))
  | .stk => .stk
def backC (ρ : Ev) : FRes → Out D
  | .ret d _ => .ok d ρ
  | .exc x _ => .exc x ρ
  | .stk => .stk

section
variable (call : Nat → List D → FRes) (hcall : Nat → D → FRes) (cur : D)
mutual
def evE : IE → Ev → Out D
  | .var i, ρ => Out.lift (getV ρ i) ρ
  | .cst d, ρ => .ok d ρ
  | .glb _ d, ρ => .ok d ρ
  | .tup es, ρ => (evA es ρ).bind fun ds ρ => .ok (.tuple ds) ρ
  | .lst es, ρ => (evA es ρ).bind fun ds ρ => .ok (.list ds) ρ
  | .bin o a b, ρ => (evE a ρ).bind fun x ρ => (evE b ρ).bind fun y ρ => Out.lift (opBin o x y) ρ
  | .neg a, ρ => (evE a ρ).bind fun x ρ => (match x with
    | .int i => .ok (.int (-i)) ρ
    | _ => .stk)
  | .cmp o a b, ρ => (evE a ρ).bind fun x ρ => (evE b ρ).bind fun y ρ => Out.lift ((opCmp o x y).map PyData.bool) ρ
  | .cmp3 o p a b c, ρ => (evE a ρ).bind fun x ρ => (evE b ρ).bind fun y ρ => (Out.lift (opCmp o x y) ρ).bind fun k ρ =>
      if k = true then (evE c ρ).bind fun z ρ => Out.lift ((opCmp p y z).map PyData.bool) ρ else .ok (.bool false) ρ
  | .and es, ρ => evAnd es ρ
  | .or es, ρ => evOr es ρ
  | .not a, ρ => (evE a ρ).bind fun x ρ => .ok (.bool (!tru x)) ρ
  | .ife c a b, ρ => (evE c ρ).bind fun x ρ => if tru x = true then evE a ρ else evE b ρ
  | .idx a i, ρ => (evE a ρ).bind fun x ρ => (evE i ρ).bind fun y ρ => Out.lift (opIdx x y) ρ
  | .slc a lo hi, ρ => (evE a ρ).bind fun x ρ => (if isNop lo = true then .ok none ρ else (evE lo ρ).bind fun y ρ => Out.lift (partOf y) ρ).bind fun l ρ =>
      (if isNop hi = true then .ok none ρ else (evE hi ρ).bind fun y ρ => Out.lift (partOf y) ρ).bind fun h ρ => Out.lift (opSlc x l h) ρ
  | .rev a, ρ => (evE a ρ).bind fun x ρ => Out.lift (opRev x) ρ
  | .nop, ρ => .ok .none ρ
  | .blt b es, ρ => (evA es ρ).bind fun ds ρ => Out.lift (opBlt b ds) ρ
  | .mth m o es, ρ => (evE o ρ).bind fun x ρ => if isT m.ty x = true then (evA es ρ).bind fun ds ρ => Out.lift (opMth m x ds) ρ else .stk
  | .isi a ts, ρ => (evE a ρ).bind fun x ρ => .ok (.bool (ts.any fun t => isTy t x)) ρ
  | .isx c, ρ => Out.lift ((excCls cur).map fun d => .bool (excSub d c)) ρ
  | .fld _, ρ => Out.lift (excVal cur) ρ
  | .hot f, ρ => (match hcall f cur with
    | .ret d _ => .ok d ρ
    | _ => .stk)
  | .call f es, ρ => (evA es ρ).bind fun ds ρ => backC ρ (call f ds)
  | .calld f i es, ρ => if hasL ρ i = true then (evA es ρ).bind fun ds ρ => (Out.lift (getV ρ i) ρ).bind fun d ρ => backD i ρ (call f (d :: ds)) else .stk
  | .rng es, ρ => (evA es ρ).bind fun ds ρ => Out.lift (opRng ds) ρ
  | .enm a, ρ => (evE a ρ).bind fun x ρ => Out.lift ((items x).map fun xs => .list (enumD 0 xs)) ρ
  | .zip a b, ρ => (evE a ρ).bind fun x ρ => (evE b ρ).bind fun y ρ => Out.lift ((items x).bind fun xs => (items y).map fun ys => .list (zipD xs ys)) ρ
  | .lc own t it c e, ρ => ((evE it ρ).bind fun x ρ => Out.lift (items x) ρ).bind fun xs ρ => ((lcLoop (turnE t own (evE c) (evE e)) xs (wipeE ρ own)).noExc).bind fun r ρ' => .ok (.list r) (backE ρ ρ' own)
  | .dct, ρ => .ok (.dict []) ρ
  | .bad, _ => .stk
  | .enil, _ => .stk
  | .econs _ _, _ => .stk
def evA : IE → Ev → Out (List D)
  | .enil, ρ => .ok [] ρ
  | .econs a r, ρ => (evE a ρ).bind fun x ρ => (evA r ρ).bind fun xs ρ => .ok (x :: xs) ρ
  | _, _ => .stk
def evAnd : IE → Ev → Out D
  | .econs a .enil, ρ => evE a ρ
  | .econs a r, ρ => (evE a ρ).bind fun x ρ => if tru x = true then evAnd r ρ else .ok x ρ
  | _, _ => .stk
def evOr : IE → Ev → Out D
  | .econs a .enil, ρ => evE a ρ
  | .econs a r, ρ => (evE a ρ).bind fun x ρ => if tru x = true then .ok x ρ else evOr r ρ
  | _, _ => .stk
end
end

/-- what is walked -/
def evW (call : Nat → List D → FRes) (hcall : Nat → D → FRes) (cur : D) (it : IE) (ρ : Ev) : Out (List D) := (evE call hcall cur it ρ).bind fun x ρ => Out.lift (items x) ρ

/-! ### statements -/
inductive IS where
  | nil | cons (s r : IS)
  | asg (t : Tg) (e : IE) | set (i : Nat) (e : IE) | par (i j : Nat) (a b : IE) | deck (i f : Nat) (e : IE)
  | own (i : Nat) (e : IE)
  | frz (i : Nat)
  | app (i : Nat) (e : IE)
  | seti (i : Nat) (k e : IE)
  | dk1 (i : Nat) (k e : IE)
  | aug (i : Nat) (o : BOp) (e : IE)
  | exp (e : IE)
  | ifs (c : IE) (a b : IS)
  | fors (t : Tg) (it : IE) (b : IS)
  | whl (c : IE) (b : IS)
  | ret (e : IE) | rtn | reto (i : Nat)
  | rais (c : Str) (keep : Bool) (e : IE)
  | tri (b : IS) (hs : IS)
  | hnil | hcons (cs : List Str) (x : Option Nat) (b r : IS)
  | bad
inductive SOut where
  | next (ρ : Ev) | ret (d : D) (ρ : Ev) | exc (x : D) (ρ : Ev) | stk
namespace SOut
def thn (o : SOut) (f : Ev → SOut) : SOut := match o with
  | .next ρ => f ρ
  | .ret d ρ => .ret d ρ
  | .exc x ρ => .exc x ρ
  | .stk => .stk
@[simp] theorem thn_next (ρ : Ev) (f : Ev → SOut) : (SOut.next ρ).thn f = f ρ := rfl
@[simp] theorem thn_ret (d : D) (ρ : Ev) (f : Ev → SOut) : (SOut.ret d ρ).thn f = .ret d ρ := rfl
@[simp] theorem thn_exc (d : D) (ρ : Ev) (f : Ev → SOut) : (SOut.exc d ρ).thn f = .exc d ρ := rfl
@[simp] theorem thn_stk (f : Ev → SOut) : (SOut.stk).thn f = .stk := rfl
end SOut
/-- from an expression to a statement -/
def Out.toS {α : Type} (o : Out α) (f : α → Ev → SOut) : SOut := match o with
  | .ok a ρ => f a ρ
  | .exc x ρ => .exc x ρ
  | .stk => .stk
@[simp] theorem Out.toS_ok {α : Type} (a : α) (ρ : Ev) (f : α → Ev → SOut) : (Out.ok a ρ).toS f = f a ρ := rfl
@[simp] theorem Out.toS_exc {α : Type} (x : D) (ρ : Ev) (f : α → Ev → SOut) : (Out.exc x ρ : Out α).toS f = .exc x ρ := rfl
@[simp] theorem Out.toS_stk {α : Type} (f : α → Ev → SOut) : (Out.stk : Out α).toS f = .stk := rfl
def forLoop (f : D → Ev → SOut) : List D → Ev → SOut
  | [], ρ => .next ρ
  | x :: xs, ρ => (f x ρ).thn fun ρ => forLoop f xs ρ
/-- one turn of a for -/
def forT (t : Tg) (mb : Ev → SOut) : D → Ev → SOut := fun y ρ => (Out.lift (bindT t y ρ) ρ).toS fun ρ _ => mb ρ
def ownS (i : Nat) : D → Ev → SOut := fun d ρ => match d with
  | .list _ => .next (ρ.set i (some d))
  | _ => .stk
/-- a handler's begin, end: the slot of the caught exception -/
def startH (sl : Option Nat) (ρ : Ev) : Ev := match sl with
  | some i => ρ.set i none
  | none => ρ
def endH (sl : Option Nat) (o : SOut) : SOut := match o with
  | .next ρ => .next (startH sl ρ)
  | .ret d ρ => .ret d ρ
  | _ => .stk
/-- a new deck -/
def deckD (i : Nat) (r : FRes) (ρ : Ev) : SOut := match r with
  | .ret d _ => .next (ρ.set i (some d))
  | _ => .stk
def whileFuel : Nat := 1000000000
def whlLoop (c : Ev → Out D) (f : Ev → SOut) : Nat → Ev → SOut
  | 0, _ => .stk
  | n + 1, ρ => (c ρ).toS fun k ρ => if tru k = true then (f ρ).thn fun ρ => whlLoop c f n ρ else .next ρ
def putIdx : D → D → D → Option D
  | .list xs, .int i, v => (atIx xs.length i).map fun k => .list (xs.set k v)
  | _, _, _ => none
def appD (i : Nat) (d : D) (ρ : Ev) : SOut := match getV ρ i with
  | some (.list xs) => if xs.length < LIM then .next (ρ.set i (some (.list (xs ++ [d])))) else .stk
  | _ => .stk
def setD (i : Nat) (y d : D) (ρ : Ev) : SOut := match getV ρ i with
  | some x => (match putIdx x y d with
    | some z => .next (ρ.set i (some z))
    | none => .stk)
  | none => .stk
def dkD (i : Nat) (y d : D) (ρ : Ev) : SOut := match getV ρ i with
  | some (.list (x0 :: x1 :: r)) => (match putIdx x1 y d with
    | some z => .next (ρ.set i (some (.list (x0 :: z :: r))))
    | none => .stk)
  | _ => .stk
section
variable (call : Nat → List D → FRes) (hcall : Nat → D → FRes)
mutual
/-- cur: the exception that is handled -/
def evS : D → IS → Ev → SOut
  | _, .nil, ρ => .next ρ
  | cur, .cons s r, ρ => (evS cur s ρ).thn fun ρ => evS cur r ρ
  | cur, .asg t e, ρ => (evE call hcall cur e ρ).toS fun d ρ => (Out.lift (bindT t d ρ) ρ).toS fun ρ _ => .next ρ
  | cur, .set i e, ρ => (evE call hcall cur e ρ).toS fun d ρ => .next (ρ.set i (some d))
  | cur, .par i j a b, ρ => (evE call hcall cur a ρ).toS fun x ρ => (evE call hcall cur b ρ).toS fun y ρ => .next ((ρ.set i (some x)).set j (some y))
  | cur, .deck i f e, ρ => (evE call hcall cur e ρ).toS fun x ρ => deckD i (call f [x]) ρ
  | cur, .own i e, ρ => (evE call hcall cur e ρ).toS fun d ρ => ownS i d ρ
  | _, .frz _, ρ => .next ρ
  | cur, .app i e, ρ => if hasL ρ i = true then (evE call hcall cur e ρ).toS fun d ρ => appD i d ρ else .stk
  | cur, .seti i k e, ρ => (evE call hcall cur e ρ).toS fun d ρ => if hasL ρ i = true then (evE call hcall cur k ρ).toS fun y ρ => setD i y d ρ else .stk
  | cur, .dk1 i k e, ρ => (evE call hcall cur e ρ).toS fun d ρ => if hasL ρ i = true then (evE call hcall cur k ρ).toS fun y ρ => dkD i y d ρ else .stk
  | cur, .aug i o e, ρ => (match getV ρ i with
    | some x => (evE call hcall cur e ρ).toS fun d ρ => (Out.lift (opBin o x d) ρ).toS fun z ρ => .next (ρ.set i (some z))
    | none => .stk)
  | cur, .exp e, ρ => (evE call hcall cur e ρ).toS fun _ ρ => .next ρ
  | cur, .ifs c a b, ρ => (evE call hcall cur c ρ).toS fun k ρ => if tru k = true then evS cur a ρ else evS cur b ρ
  | cur, .fors t it b, ρ => (evW call hcall cur it ρ).toS fun xs ρ => forLoop (forT t (evS cur b)) xs ρ
  | cur, .whl c b, ρ => whlLoop (evE call hcall cur c) (evS cur b) whileFuel ρ
  | cur, .ret e, ρ => (evE call hcall cur e ρ).toS fun d ρ => .ret d ρ
  | _, .rtn, ρ => .ret .none ρ
  | _, .reto i, ρ => (Out.lift (getV ρ i) ρ).toS fun d ρ => .ret d (ρ.set i none)
  | cur, .rais c keep e, ρ => (evE call hcall cur e ρ).toS fun d ρ => .exc (mkExc c (if keep then d else .none)) ρ
  | cur, .tri b hs, ρ => (match evS cur b ρ with
    | .exc x ρ => evH hs x ρ
    | o => o)
  | _, .hnil, _ => .stk
  | _, .bad, _ => .stk
  | _, .hcons _ _ _ _, _ => .stk
def evH : IS → D → Ev → SOut
  | .hnil, x, ρ => .exc x ρ
  | .hcons cs sl b r, x, ρ => (match excCls x with
    | some c => if (cs.any fun h => excSub c h) = true then endH sl (evS x b (startH sl ρ)) else evH r x ρ
    | none => .stk)
  | _, _, _ => .stk
end
end
/-- a def: how many parameters, slots; whether the first parameter is the deck; whether what it returns is a new list; whether it is called with a caught exception alone -/
structure Fn where
  np : Nat
  ns : Nat
  io : Bool := false
  fr : Bool := false
  hot : Bool := false
  dk : Bool := false
  body : IS
def Fn.endS (f : Fn) : SOut → FRes
  | .next ρ => if f.fr = true then .stk else outS f ρ (.ret .none)
  | .ret d ρ => outS f ρ (.ret d)
  | .exc x ρ => outS f ρ (.exc x)
  | .stk => .stk
where outS (f : Fn) (ρ : Ev) (g : D → FRes) : FRes := if f.io = true then (match getV ρ 0 with
  | some o => g o
  | none => .stk) else g .none
def runB (P : Nat → Option Fn) : Nat → (Nat → List D → FRes) × (Nat → D → FRes)
  | 0 => (fun _ _ => .stk, fun _ _ => .stk)
  | k + 1 => (fun f ds => (match P f with
      | some fn => if ds.length = fn.np ∧ fn.hot = false then fn.endS (evS (runB P k).1 (runB P k).2 .none fn.body (ds.map some ++ List.replicate (fn.ns - fn.np) none)) else .stk
      | none => .stk),
    fun f x => (match P f with
      | some fn => if fn.hot = true then fn.endS (evS (runB P k).1 (runB P k).2 x fn.body (List.replicate fn.ns none)) else .stk
      | none => .stk))
abbrev run (P : Nat → Option Fn) (k : Nat) : Nat → List D → FRes := (runB P k).1
abbrev runH (P : Nat → Option Fn) (k : Nat) : Nat → D → FRes := (runB P k).2
end BV

/-! the evaluator computes -/
example : BV.evE (fun _ _ => .stk) (fun _ _ => .stk) .none (.bin .add (.var 0) (.cst (.int 1))) [some (.int 2)] = .ok (.int 3) [some (.int 2)] := rfl
set_option Elab.async false
set_option linter.all false
set_option maxRecDepth 100000
set_option maxHeartbeats 1000000
/-! BV3: data in the heap, the frame's relation, judgements. -/
namespace BV
open PySem PySem.Spec L2
open PyProof.Rows hiding St

/-- a text's code points are ones, it isn't too long -/
def strB (x : Str) : Bool := PyData.strOk x && Nat.ble x.length LIM
abbrev strG (x : Str) : Prop := strB x = true
theorem strG.ok {x : Str} (h : strG x) : PyData.strOk x = true := (Bool.and_eq_true_iff.mp h).1
theorem strG.len {x : Str} (h : strG x) : x.length ≤ LIM := Nat.le_of_ble_eq_true (Bool.and_eq_true_iff.mp h).2

/-- a tuple: not one of N, or of the written part -/
def SqN (K : PySem.W.Frag) (N : Addr → Prop) (H : Hp) (a : Addr) (xs : List V) : Prop :=
  (Rd H a (.tup xs) ∧ ¬ N a) ∨ ∃ (o : Obj) (its : Array Value) (n : Nat), K.lookup a = some o ∧ o.cls = .type "tuple" ∧ o.data = .seq its n ∧ its.size ≤ sizeLine ∧ Vals xs its.toList
theorem SqN.sqt {K : PySem.W.Frag} {N : Addr → Prop} {H : Hp} {a : Addr} {xs : List V} (h : SqN K N H a xs) : SqT K H a xs := h.elim (fun z => .inl z.1) .inr
theorem SqN.new {K : PySem.W.Frag} {N : Addr → Prop} {H : Hp} {a : Addr} {xs : List V} (h : H a = some (.tup xs)) (n : ¬ N a) : SqN K N H a xs := .inl ⟨.inl h, n⟩
section
variable (K : PySem.W.Frag) (N : Addr → Prop) (H : Hp)
mutual
/-- d stands at v; no object of it is one of N -/
inductive Rep : V → D → Prop
  | non : Rep .non .none
  | bl (b : Bool) : Rep (.bl b) (.bool b)
  | int (i : Int) : Rep (.int i) (.int i)
  | str (x : Str) (h : strG x) : Rep (.str x) (.str x)
  | lst {a : Addr} {xs : List V} {ds : List D} (h : Rd H a (.lst xs)) (n : ¬ N a) (r : RepA xs ds) : Rep (.ref a) (.list ds)
  | tup {a : Addr} {xs : List V} {ds : List D} (h : SqN K N H a xs) (r : RepA xs ds) : Rep (.ref a) (.tuple ds)
  | dct {a : Addr} (h : H a = some (.dK [])) (n : ¬ N a) : Rep (.ref a) (.dict [])
inductive RepA : List V → List D → Prop
  | nil : RepA [] []
  | cons {v : V} {vs : List V} {d : D} {ds : List D} (h : Rep v d) (t : RepA vs ds) : RepA (v :: vs) (d :: ds)
end
/-- .. but for its own top, a list that is read -/
inductive RepT : V → D → Prop
  | rep {v : V} {d : D} (h : Rep K N H v d) : RepT v d
  | lst {a : Addr} {xs : List V} {ds : List D} (h : Rd H a (.lst xs)) (z : a ≠ sysModules) (r : RepA K N H xs ds) : RepT (.ref a) (.list ds)
inductive RepTA : List V → List D → Prop
  | nil : RepTA [] []
  | cons {v : V} {vs : List V} {d : D} {ds : List D} (h : RepT K N H v d) (t : RepTA vs ds) : RepTA (v :: vs) (d :: ds)
end
abbrev RepM (b : Bool) (K : PySem.W.Frag) (N : Addr → Prop) (H : Hp) (v : V) (d : D) : Prop := match b with
  | true => RepT K N H v d
  | false => Rep K N H v d

/-- all that is tracked stays, but at O -/
def Keep (O : Addr → Prop) (H H' : Hp) : Prop := ∀ a o, H a = some o → ¬ O a → H' a = some o
abbrev none_ : Addr → Prop := fun _ => False
theorem Keep.refl {O : Addr → Prop} {H : Hp} : Keep O H H := fun _ _ h _ => h
theorem Keep.trans {O : Addr → Prop} {H H1 H2 : Hp} (a : Keep O H H1) (b : Keep O H1 H2) : Keep O H H2 := fun x o h n => b x o (a x o h n) n
theorem Keep.mono {O O' : Addr → Prop} {H H1 : Hp} (a : Keep O H H1) (h : ∀ x, O x → O' x) : Keep O' H H1 := fun x o e n => a x o e fun z => n (h x z)
theorem Keep.all {O : Addr → Prop} {H H1 : Hp} (a : Keep none_ H H1) : Keep O H H1 := a.mono fun _ z => z.elim
theorem Keep.new {O : Addr → Prop} {H : Hp} {p : Addr} {o : HO} (h : H p = none) : Keep O H (upd H p o) := fun a u e _ => by
  rw [upd_ne (ne_of_none e h)]; exact e
theorem Keep.at {O : Addr → Prop} {H : Hp} {p : Addr} {o : HO} (h : O p) : Keep O H (upd H p o) := fun a u e n => by
  have hn : a ≠ p := fun z => n (by rw [z]; exact h)
  rw [upd_ne hn]; exact e

section
variable {K : PySem.W.Frag} {N N' : Addr → Prop} {O : Addr → Prop} {H H' : Hp} {a : Addr} {xs : List V} {v : V} {d : D} {vs : List V} {ds : List D}
theorem sql_keep {u : HO} (h : Rd H a u) (k : Keep O H H') (n : ¬ O a) : Rd H' a u := by
  rcases h with h | ⟨o, h⟩
  · exact .inl (k _ _ h n)
  · exact .inr ⟨o, k _ _ h n⟩
theorem SqN.keep (h : SqN K N H a xs) (k : Keep O H H') (s : ∀ x, O x → N x) : SqN K N H' a xs := by
  rcases h with ⟨h, n⟩ | h
  · exact .inl ⟨sql_keep h k fun z => n (s _ z), n⟩
  · exact .inr h
theorem SqN.imp (h : SqN K N H a xs) (s : ∀ a, H a ≠ none → N' a → N a) : SqN K N' H a xs := by
  rcases h with ⟨h, n⟩ | h
  · refine .inl ⟨h, fun z => n (s _ (fun e => ?_) z)⟩
    rcases h with h | ⟨o, h⟩ <;> rw [e] at h <;> cases h
  · exact .inr h
mutual
theorem Rep.keep (k : Keep O H H') (s : ∀ x, O x → N x) : ∀ {v : V} {d : D}, Rep K N H v d → Rep K N H' v d
  | _, _, .non => .non
  | _, _, .bl b => .bl b
  | _, _, .int i => .int i
  | _, _, .str x h => .str x h
  | _, _, .lst h n r => .lst (sql_keep h k fun z => n (s _ z)) n (RepA.keep k s r)
  | _, _, .tup h r => .tup (h.keep k s) (RepA.keep k s r)
  | _, _, .dct h n => .dct (k _ _ h fun z => n (s _ z)) n
theorem RepA.keep (k : Keep O H H') (s : ∀ x, O x → N x) : ∀ {vs : List V} {ds : List D}, RepA K N H vs ds → RepA K N H' vs ds
  | _, _, .nil => .nil
  | _, _, .cons h t => .cons (Rep.keep k s h) (RepA.keep k s t)
end
theorem RepT.keepAll (k : Keep none_ H H') : RepT K N H v d → RepT K N H' v d
  | .rep h => .rep (h.keep k fun _ z => z.elim)
  | .lst h z r => .lst (sql_keep h k fun z => z) z (r.keep k fun _ z => z.elim)
theorem RepM.toT : ∀ {b : Bool}, RepM b K N H v d → RepT K N H v d
  | true, h => h
  | false, h => .rep h
/-- carried over the evaluation of a later operand -/
theorem RepM.carry {b : Bool} (h : RepM b K N H v d) (k : Keep O H H') (s : ∀ x, O x → N x) (q : b = true → Keep none_ H H') : RepT K N H' v d := by
  cases b with
  | true => exact RepT.keepAll (q rfl) h
  | false => exact .rep (Rep.keep k s h)
mutual
theorem Rep.impT (s : ∀ a, H a ≠ none → N' a → N a) : ∀ {v : V} {d : D}, Rep K N H v d → Rep K N' H v d
  | _, _, .non => .non
  | _, _, .bl b => .bl b
  | _, _, .int i => .int i
  | _, _, .str x h => .str x h
  | _, _, .lst h n r => .lst h (fun z => n (s _ (fun e => by
      rcases h with h | ⟨o, h⟩ <;> rw [e] at h <;> cases h) z)) (RepA.impT s r)
  | _, _, .tup h r => .tup (h.imp s) (RepA.impT s r)
  | _, _, .dct h n => .dct h (fun z => n (s _ (fun e => by rw [e] at h; cases h) z))
theorem RepA.impT (s : ∀ a, H a ≠ none → N' a → N a) : ∀ {vs : List V} {ds : List D}, RepA K N H vs ds → RepA K N' H vs ds
  | _, _, .nil => .nil
  | _, _, .cons h t => .cons (Rep.impT s h) (RepA.impT s t)
end
theorem Rep.imp (s : ∀ a, N' a → N a) (r : Rep K N H v d) : Rep K N' H v d := r.impT fun a _ => s a
theorem RepA.imp (s : ∀ a, N' a → N a) (r : RepA K N H vs ds) : RepA K N' H vs ds := r.impT fun a _ => s a
theorem RepA.length : ∀ {vs : List V} {ds : List D}, RepA K N H vs ds → vs.length = ds.length
  | _, _, .nil => rfl
  | _, _, .cons h t => congrArg (· + 1) (RepA.length t)
theorem RepA.get : ∀ {vs : List V} {ds : List D} {i : Nat} {d : D}, RepA K N H vs ds → ds[i]? = some d → ∃ v, vs[i]? = some v ∧ Rep K N H v d
  | _, _, _, _, .nil, e => by simp at e
  | _, _, 0, _, .cons h t, e => by simp at e; subst e; exact ⟨_, rfl, h⟩
  | _, _, i + 1, d, .cons h t, e => by
    obtain ⟨v, h1, h2⟩ := RepA.get (i := i) (d := d) t (by simpa using e)
    exact ⟨v, by simpa using h1, h2⟩
theorem RepA.getV : ∀ {vs : List V} {ds : List D} {i : Nat} {v : V}, RepA K N H vs ds → vs[i]? = some v → ∃ d, ds[i]? = some d ∧ Rep K N H v d
  | _, _, _, _, .nil, e => by simp at e
  | _, _, 0, _, .cons h t, e => by simp at e; subst e; exact ⟨_, rfl, h⟩
  | _, _, i + 1, v, .cons h t, e => by
    obtain ⟨d, h1, h2⟩ := RepA.getV (i := i) (v := v) t (by simpa using e)
    exact ⟨d, by simpa using h1, h2⟩
theorem RepA.append : ∀ {vs : List V} {ds : List D} {ws : List V} {es : List D}, RepA K N H vs ds → RepA K N H ws es → RepA K N H (vs ++ ws) (ds ++ es)
  | _, _, _, _, .nil, s => s
  | _, _, _, _, .cons h t, s => .cons h (RepA.append t s)
theorem RepA.set {v : V} {d : D} (h : Rep K N H v d) : ∀ {vs : List V} {ds : List D} (i : Nat), RepA K N H vs ds → RepA K N H (vs.set i v) (ds.set i d)
  | _, _, _, .nil => .nil
  | _, _, 0, .cons _ t => .cons h t
  | _, _, i + 1, .cons q t => .cons q (RepA.set h i t)
theorem RepA.take : ∀ {vs : List V} {ds : List D} (n : Nat), RepA K N H vs ds → RepA K N H (vs.take n) (ds.take n)
  | _, _, 0, _ => .nil
  | _, _, _ + 1, .nil => .nil
  | _, _, n + 1, .cons h t => .cons h (RepA.take n t)
theorem RepA.drop : ∀ {vs : List V} {ds : List D} (n : Nat), RepA K N H vs ds → RepA K N H (vs.drop n) (ds.drop n)
  | _, _, 0, r => r
  | _, _, _ + 1, .nil => .nil
  | _, _, n + 1, .cons _ t => RepA.drop n t
theorem RepA.reverse : ∀ {vs : List V} {ds : List D}, RepA K N H vs ds → RepA K N H vs.reverse ds.reverse
  | _, _, .nil => .nil
  | _, _, .cons h t => by
    rw [List.reverse_cons, List.reverse_cons]
    exact (RepA.reverse t).append (.cons h .nil)

mutual
theorem Rep.dp : ∀ {v : V} {d : D}, Rep K N H v d → noDict d = true → Dp K H v d
  | _, _, .non, _ => .non
  | _, _, .bl b, _ => .bl b
  | _, _, .int i, _ => .int i
  | _, _, .str x _, _ => .str x
  | _, _, .lst h _ r, e => .lst (.inl h) (RepA.dp r (by simpa only [noDict] using e))
  | _, _, .tup h r, e => .tup h.sqt (RepA.dp r (by simpa only [noDict] using e))
  | _, _, .dct _ _, e => by simp [noDict] at e
theorem RepA.dp : ∀ {vs : List V} {ds : List D}, RepA K N H vs ds → noDicts ds = true → DpAll K H vs ds
  | _, _, .nil, _ => .nil
  | _, _, .cons h t, e => by
    simp only [noDicts, Bool.and_eq_true] at e
    exact .cons (Rep.dp h e.1) (RepA.dp t e.2)
end
mutual
theorem Rep.lay : ∀ {v : V} {d : D}, Rep K N H v d → noDict d = true → d.canLay0 = true
  | _, _, .non, _ => by simp [PyData.canLay0]
  | _, _, .bl b, _ => by simp [PyData.canLay0]
  | _, _, .int i, _ => by simp [PyData.canLay0]
  | _, _, .str x h, _ => by simpa [PyData.canLay0] using h.ok
  | _, _, .lst h _ r, e => by simpa [PyData.canLay0] using RepA.lay r (by simpa only [noDict] using e)
  | _, _, .tup h r, e => by simpa [PyData.canLay0] using RepA.lay r (by simpa only [noDict] using e)
  | _, _, .dct _ _, e => by simp [noDict] at e
theorem RepA.lay : ∀ {vs : List V} {ds : List D}, RepA K N H vs ds → noDicts ds = true → PyData.canLayAll0 ds = true
  | _, _, .nil, _ => by simp [PyData.canLayAll0]
  | _, _, .cons h t, e => by
    simp only [noDicts, Bool.and_eq_true] at e
    simp [PyData.canLayAll0, Rep.lay h e.1, RepA.lay t e.2]
end
theorem RepT.dp : RepT K N H v d → noDict d = true → Dp K H v d
  | .rep h, e => h.dp e
  | .lst h _ r, e => .lst (.inl h) (r.dp (by simpa only [noDict] using e))
theorem RepT.lay : RepT K N H v d → noDict d = true → d.canLay0 = true
  | .rep h, e => h.lay e
  | .lst h _ r, e => by simpa [PyData.canLay0] using r.lay (by simpa only [noDict] using e)
-- texts are texts, dicts are empty
mutual
def layB : D → Bool
  | .none => true
  | .bool _ => true
  | .int _ => true
  | .str x => PyData.strOk x
  | .list xs => layBs xs
  | .tuple xs => layBs xs
  | .dict kvs => kvs.isEmpty
def layBs : List D → Bool
  | [] => true
  | x :: xs => layB x && layBs xs
end
mutual
theorem Rep.layB : ∀ {v : V} {d : D}, Rep K N H v d → BV.layB d = true
  | _, _, .non => by simp [BV.layB]
  | _, _, .bl b => by simp [BV.layB]
  | _, _, .int i => by simp [BV.layB]
  | _, _, .str x h => by simpa [BV.layB] using h.ok
  | _, _, .lst h _ r => by simpa [BV.layB] using RepA.layB r
  | _, _, .tup h r => by simpa [BV.layB] using RepA.layB r
  | _, _, .dct _ _ => by simp [BV.layB]
theorem RepA.layB : ∀ {vs : List V} {ds : List D}, RepA K N H vs ds → layBs ds = true
  | _, _, .nil => by simp [layBs]
  | _, _, .cons h t => by simp [layBs, Rep.layB h, RepA.layB t]
end
theorem RepT.layB : RepT K N H v d → BV.layB d = true
  | .rep h => h.layB
  | .lst h _ r => by simpa [BV.layB] using r.layB
end

/-! ### the frame -/
/-- what a slot holds: fz: data that nothing changes any more; l1: a list of one's own; dk: the law's deck -/
inductive Sh where
  | fz | l1 | dk | ex
  deriving DecidableEq
def Slot (K : PySem.W.Frag) (N : Addr → Prop) (H : Hp) (sh : Sh) (d : Option D) (v : Option V) (O : List Addr) : Prop := match sh, d with
  | _, none => O = []
  | .ex, some d => O = []
  | .fz, some d => O = [] ∧ ∃ x, v = some x ∧ Rep K N H x d
  | .l1, some d => ∃ a xs ds, v = some (.ref a) ∧ O = [a] ∧ H a = some (.lst xs) ∧ d = .list ds ∧ RepA K N H xs ds
  | .dk, some d => ∃ a b x xs ys d0 ds es, v = some (.ref a) ∧ O = [a, b] ∧ a ≠ b ∧ H a = some (.lst (x :: .ref b :: xs)) ∧ H b = some (.lst ys) ∧ d = .list (d0 :: .list es :: ds) ∧ Rep K N H x d0 ∧ RepA K N H xs ds ∧ RepA K N H ys es
/-- slots whose objects stay the same ones: the law's deck, a caught exception -/
abbrev FX := Nat × V × Bool
def getS (σ : St) (i : Nat) : Option V := (σ[i]?).bind id
/-- the forbidden objects: the callers' own ones, one's own ones -/
def NN (Z : Addr → Prop) (O : Nat → List Addr) : Addr → Prop := fun a => Z a ∨ ∃ i, a ∈ O i
def OO (O : Nat → List Addr) : Addr → Prop := fun a => ∃ i, a ∈ O i
structure SR (K : PySem.W.Frag) (Z : Addr → Prop) (Γ : List Sh) (fx : List FX) (ρ : Ev) (σ : St) (H : Hp) (O : Nat → List Addr) : Prop where
  lenR : ρ.length = Γ.length
  lenS : σ.length = Γ.length
  slot : ∀ i sh, Γ[i]? = some sh → Slot K (NN Z O) H sh (getV ρ i) (getS σ i) (O i)
  out : ∀ i, Γ.length ≤ i → O i = []
  dis : ∀ i j a, a ∈ O i → a ∈ O j → i = j
  trk : ∀ a, NN Z O a → H a ≠ none
  zo : ∀ a i, Z a → a ∉ O i
  fix : ∀ p ∈ fx, getS σ p.1 = some p.2.1
  sm : Z sysModules
theorem Slot.keep {K : PySem.W.Frag} {N : Addr → Prop} {H H' : Hp} {sh : Sh} {d : Option D} {v : Option V} {O : List Addr} (s : Slot K N H sh d v O) (k : Keep none_ H H') : Slot K N H' sh d v O := by
  cases d with
  | none => cases sh <;> exact s
  | some d =>
    cases sh with
    | ex => exact s
    | fz => obtain ⟨e, x, h1, h2⟩ := s; exact ⟨e, x, h1, h2.keep k fun _ z => z.elim⟩
    | l1 => obtain ⟨a, xs, ds, h1, h2, h3, h4, h5⟩ := s; exact ⟨a, xs, ds, h1, h2, k _ _ h3 fun z => z, h4, h5.keep k fun _ z => z.elim⟩
    | dk =>
      obtain ⟨a, b, x, xs, ys, d0, ds, es, h1, h2, h3, h4, h5, h6, h7, h8, h9⟩ := s
      exact ⟨a, b, x, xs, ys, d0, ds, es, h1, h2, h3, k _ _ h4 fun z => z, k _ _ h5 fun z => z, h6, h7.keep k fun _ z => z.elim, h8.keep k fun _ z => z.elim, h9.keep k fun _ z => z.elim⟩
theorem SR.keep {K : PySem.W.Frag} {Z : Addr → Prop} {Γ : List Sh} {fx : List FX} {ρ : Ev} {σ : St} {H H' : Hp} {O : Nat → List Addr} (s : SR K Z Γ fx ρ σ H O) (k : Keep none_ H H') : SR K Z Γ fx ρ σ H' O where
  lenR := s.lenR
  lenS := s.lenS
  slot := fun i sh h => (s.slot i sh h).keep k
  out := s.out
  dis := s.dis
  trk := fun a h e => by
    cases q : H a with
    | none => exact s.trk a h q
    | some o =>
      rw [k a o q fun z => z] at e
      cases e
  zo := s.zo
  fix := s.fix
  sm := s.sm
theorem SR.fresh {K : PySem.W.Frag} {Z : Addr → Prop} {Γ : List Sh} {fx : List FX} {ρ : Ev} {σ : St} {H : Hp} {O : Nat → List Addr} (s : SR K Z Γ fx ρ σ H O) {a : Addr} (h : H a = none) : ¬ NN Z O a := fun z => s.trk a z h

/-- one more forbidden object -/
def addZ (Z : Addr → Prop) (p : Addr) : Addr → Prop := fun a => Z a ∨ a = p
theorem NN_addZ {Z : Addr → Prop} {O : Nat → List Addr} {p a : Addr} : NN (addZ Z p) O a → NN Z O a ∨ a = p := fun h => by
  rcases h with (h | h) | h
  · exact .inl (.inl h)
  · exact .inr h
  · exact .inl (.inr h)
theorem Rep.addN {K : PySem.W.Frag} {Z : Addr → Prop} {O : Nat → List Addr} {H : Hp} {v : V} {d : D} {p : Addr} (r : Rep K (NN Z O) H v d) (h : H p = none) : Rep K (NN (addZ Z p) O) H v d := r.impT fun a ha z => by
  rcases NN_addZ z with z | z
  · exact z
  · exact absurd (z ▸ h) ha
theorem RepA.addN {K : PySem.W.Frag} {Z : Addr → Prop} {O : Nat → List Addr} {H : Hp} {vs : List V} {ds : List D} {p : Addr} (r : RepA K (NN Z O) H vs ds) (h : H p = none) : RepA K (NN (addZ Z p) O) H vs ds := r.impT fun a ha z => by
  rcases NN_addZ z with z | z
  · exact z
  · exact absurd (z ▸ h) ha
theorem Slot.imp {K : PySem.W.Frag} {N N' : Addr → Prop} {H : Hp} {sh : Sh} {d : Option D} {v : Option V} {O : List Addr} (s : Slot K N H sh d v O) (i : ∀ a, H a ≠ none → N' a → N a) : Slot K N' H sh d v O := by
  cases d with
  | none => cases sh <;> exact s
  | some d =>
    cases sh with
    | ex => exact s
    | fz => obtain ⟨e, x, h1, h2⟩ := s; exact ⟨e, x, h1, h2.impT i⟩
    | l1 => obtain ⟨a, xs, ds, h1, h2, h3, h4, h5⟩ := s; exact ⟨a, xs, ds, h1, h2, h3, h4, h5.impT i⟩
    | dk =>
      obtain ⟨a, b, x, xs, ys, d0, ds, es, h1, h2, h3, h4, h5, h6, h7, h8, h9⟩ := s
      exact ⟨a, b, x, xs, ys, d0, ds, es, h1, h2, h3, h4, h5, h6, h7.impT i, h8.impT i, h9.impT i⟩
/-- what is new is nothing that the frame knows -/
theorem SR.more {K : PySem.W.Frag} {Z : Addr → Prop} {Γ : List Sh} {fx : List FX} {ρ : Ev} {σ : St} {H H' : Hp} {O : Nat → List Addr} (s : SR K Z Γ fx ρ σ H O) {p : Addr} (h : H p = none) (k : Keep none_ H H') (h' : H' p ≠ none) : SR K (addZ Z p) Γ fx ρ σ H' O where
  lenR := s.lenR
  lenS := s.lenS
  slot := fun i sh e => ((s.slot i sh e).imp fun a ha z => by
    rcases NN_addZ z with z | z
    · exact z
    · exact absurd (z ▸ h) ha).keep k
  out := s.out
  dis := s.dis
  trk := fun a z e => by
    rcases NN_addZ z with z | z
    · exact (s.keep k).trk a z e
    · rw [z] at e; exact h' e
  zo := fun a i z m => by
    rcases z with z | z
    · exact s.zo a i z m
    · exact s.trk p (.inr ⟨i, z ▸ m⟩) h
  fix := s.fix
  sm := .inl s.sm
theorem SR.less {K : PySem.W.Frag} {Z : Addr → Prop} {Γ : List Sh} {fx : List FX} {ρ : Ev} {σ : St} {H : Hp} {O : Nat → List Addr} {p : Addr} (s : SR K (addZ Z p) Γ fx ρ σ H O) (sm : Z sysModules) : SR K Z Γ fx ρ σ H O where
  lenR := s.lenR
  lenS := s.lenS
  slot := fun i sh e => (s.slot i sh e).imp fun a ha z => z.elim (fun z => .inl (.inl z)) .inr
  out := s.out
  dis := s.dis
  trk := fun a z => s.trk a (z.elim (fun z => .inl (.inl z)) .inr)
  zo := fun a i z => s.zo a i (.inl z)
  fix := s.fix
  sm := sm
/-- a result that the frame doesn't know -/
def Fresh (K : PySem.W.Frag) (Z : Addr → Prop) (Γ : List Sh) (fx : List FX) (ρ : Ev) (σ : St) (H H' : Hp) (O : Nat → List Addr) (v : V) (d : D) : Prop := ∃ a xs ds, v = .ref a ∧ d = .list ds ∧ H a = none ∧ H' a = some (.lst xs) ∧ RepA K (NN (addZ Z a) O) H' xs ds ∧ SR K (addZ Z a) Γ fx ρ σ H' O

/-! ### judgements -/
/-- an exception's data, by its class and its own dict -/
abbrev XI := Value → Option Addr → Hp → D → Prop
/-- .. and the slot of the caught one -/
structure XP where
  xd : XI
  hi : Option Nat := none
abbrev XP.blk (XD : XP) : XP := { xd := XD.xd }
def HX (X : Cx) (XD : XP) (fx : List FX) : Prop := ∀ i, XD.hi = some i → ∃ a, X.A.handled = some (.ref a) ∧ (i, V.ref a, true) ∈ fx
def tV (K : PySem.W.Frag) (Z : Addr → Prop) (Γ : List Sh) (fx : List FX) (O : Nat → List Addr) (XD : XP) (W : WX) (bor fr q : Bool) (m : Ev → Out D) : TE := fun σ H Q => ∃ ρ, SR K Z Γ fx ρ σ H O ∧
  (m ρ).Post (fun d ρ' => ∀ v H', SR K Z Γ fx ρ' σ H' O → Keep (OO O) H H' → (q = true → Keep none_ H H') → RepM bor K (NN Z O) H' v d → (fr = true → Fresh K Z Γ fx ρ' σ H H' O v d) → Q v H')
    (fun x ρ' => ∀ cls d H', SR K Z Γ fx ρ' σ H' O → Keep (OO O) H H' → XD.xd cls d H' x → W cls d σ H')
def tT (K : PySem.W.Frag) (Z : Addr → Prop) (Γ : List Sh) (fx : List FX) (O : Nat → List Addr) (XD : XP) (W : WX) (q : Bool) (m : Ev → Out D) : TT := fun σ H Q => ∃ ρ, SR K Z Γ fx ρ σ H O ∧
  (m ρ).Post (fun d ρ' => ∀ H', SR K Z Γ fx ρ' σ H' O → Keep (OO O) H H' → (q = true → Keep none_ H H') → Q (tru d) H')
    (fun x ρ' => ∀ cls d H', SR K Z Γ fx ρ' σ H' O → Keep (OO O) H H' → XD.xd cls d H' x → W cls d σ H')
structure VE (X : Cx) (XD : XP) (W : WX) (Γ : List Sh) (e : Expr) (bor fr q : Bool) (m : Ev → Out D) : Prop where
  pe : ∀ Z fx O, HX X XD fx → PE X e (tV X.K Z Γ fx O XD W bor fr q m)
structure VT (X : Cx) (XD : XP) (W : WX) (Γ : List Sh) (e : Expr) (q : Bool) (m : Ev → Out D) : Prop where
  pt : ∀ Z fx O, HX X XD fx → PT X e (tT X.K Z Γ fx O XD W q m)
theorem PEimp {X : Cx} {e : Expr} {t t' : TE} (h : PE X e t) (i : ∀ σ H Q, t' σ H Q → t σ H Q) : PE X e t' := ⟨fun pins s σ H Q I q => h.run pins s σ H Q I (i σ H Q q)⟩
theorem PTimp {X : Cx} {e : Expr} {t t' : TT} (h : PT X e t) (i : ∀ σ H Q, t' σ H Q → t σ H Q) : PT X e t' := ⟨fun pins s σ H Q I q => h.run pins s σ H Q I (i σ H Q q)⟩
end BV
set_option Elab.async false
set_option linter.all false
set_option maxRecDepth 100000
set_option maxHeartbeats 2000000
/-! BV4: expressions: names, constants, displays, operators, comparisons, truth. -/
namespace BV
open PySem PySem.Spec L2
open PyProof.Rows hiding St

/-- argument lists -/
abbrev RepX (b : Bool) (K : PySem.W.Frag) (N : Addr → Prop) (H : Hp) (vs : List V) (ds : List D) : Prop := match b with
  | true => RepTA K N H vs ds
  | false => RepA K N H vs ds
def tA (K : PySem.W.Frag) (Z : Addr → Prop) (Γ : List Sh) (fx : List FX) (O : Nat → List Addr) (XD : XP) (W : WX) (bor q : Bool) (m : Ev → Out (List D)) : TA := fun σ H Q => ∃ ρ, SR K Z Γ fx ρ σ H O ∧
  (m ρ).Post (fun ds ρ' => ∀ vs H', SR K Z Γ fx ρ' σ H' O → Keep (OO O) H H' → (q = true → Keep none_ H H') → RepX bor K (NN Z O) H' vs ds → Q vs H')
    (fun x ρ' => ∀ cls d H', SR K Z Γ fx ρ' σ H' O → Keep (OO O) H H' → XD.xd cls d H' x → W cls d σ H')
structure VA (X : Cx) (XD : XP) (W : WX) (Γ : List Sh) (es : List Expr) (bor q : Bool) (m : Ev → Out (List D)) : Prop where
  pa : ∀ Z fx O, HX X XD fx → PA X es (tA X.K Z Γ fx O XD W bor q m)
theorem PAimp {X : Cx} {e : List Expr} {t t' : TA} (h : PA X e t) (i : ∀ σ H Q, t' σ H Q → t σ H Q) : PA X e t' := ⟨fun pos pins s σ H Q I q => h.run pos pins s σ H Q I (i σ H Q q)⟩

section
variable {K : PySem.W.Frag} {N : Addr → Prop} {O : Addr → Prop} {H H' : Hp} {a : Addr} {v : V} {d : D} {vs : List V} {ds : List D}
theorem RepTA.keepAll (k : Keep none_ H H') : ∀ {vs : List V} {ds : List D}, RepTA K N H vs ds → RepTA K N H' vs ds
  | _, _, .nil => .nil
  | _, _, .cons h t => .cons (h.keepAll k) (RepTA.keepAll k t)
theorem RepA.toT : ∀ {vs : List V} {ds : List D}, RepA K N H vs ds → RepTA K N H vs ds
  | _, _, .nil => .nil
  | _, _, .cons h t => .cons (.rep h) (RepA.toT t)
theorem RepX.toT : ∀ {b : Bool}, RepX b K N H vs ds → RepTA K N H vs ds
  | true, h => h
  | false, h => RepA.toT h
theorem RepTA.length : ∀ {vs : List V} {ds : List D}, RepTA K N H vs ds → vs.length = ds.length
  | _, _, .nil => rfl
  | _, _, .cons h t => congrArg (· + 1) (RepTA.length t)
theorem oo_nn {Z : Addr → Prop} {O : Nat → List Addr} : ∀ x, OO O x → NN Z O x := fun _ h => .inr h
end

section
variable {X : Cx} {XD : XP} {W : WX} {Γ : List Sh} {a b c : Expr} {ma mb mc : Ev → Out D} {pos : Pos} {ba bb bc fa fb fc qa qb qc : Bool}

/-- something new behind a heap that grew -/
theorem SR.back {K : PySem.W.Frag} {Z : Addr → Prop} {fx : List FX} {ρ : Ev} {σ : L2.St} {H H1 : Hp} {O : Nat → List Addr} (s : SR K Z Γ fx ρ σ H1 O) (k : Keep (OO O) H H1) {p : Addr} (h : H1 p = none) : H p = none := by
  cases e : H p with
  | none => rfl
  | some o =>
    have n : ¬ OO O p := fun z => s.trk p (.inr z) h
    rw [k p o e n] at h
    cases h

/-! ### names -/
theorem ve_var {i : Nat} {x : Str} (hN : X.N[i]? = some x) (hv : Vis X.env.scope x) (hd : (x == ("__debug__" : Str)) = false) (hcd : (x == ("__classdict__" : Str)) = false) (hΓ : Γ[i]? = some .fz) :
    VE X XD W Γ (.Name x pos) ba false true (fun ρ => Out.lift (getV ρ i) ρ) := by
  refine ⟨fun Z fx O hx => PEimp (pe_var hN hv hd hcd) fun σ H Q h => ?_⟩
  obtain ⟨ρ, S, h⟩ := h
  dsimp only at h
  have sl := S.slot i _ hΓ
  cases e : getV ρ i with
  | none => rw [e] at h; exact h.elim
  | some d =>
    rw [e] at h sl
    obtain ⟨_, v, hs, r⟩ := sl
    have hs' : σ[i]? = some (some v) := by
      unfold getS at hs
      cases q : σ[i]? with
      | none => rw [q] at hs; cases hs
      | some o => rw [q] at hs; exact congrArg some hs
    refine ⟨v, hs', h v H S Keep.refl (fun _ => Keep.refl) ?_ (fun z => nomatch z)⟩
    cases ba with
    | true => exact .rep r
    | false => exact r
theorem ve_varB {i : Nat} {x : Str} (hN : X.N[i]? = some x) (hv : Vis X.env.scope x) (hd : (x == ("__debug__" : Str)) = false) (hcd : (x == ("__classdict__" : Str)) = false) (hΓ : Γ[i]? = some .l1) :
    VE X XD W Γ (.Name x pos) true false true (fun ρ => Out.lift (getV ρ i) ρ) := by
  refine ⟨fun Z fx O hx => PEimp (pe_var hN hv hd hcd) fun σ H Q h => ?_⟩
  obtain ⟨ρ, S, h⟩ := h
  dsimp only at h
  have sl := S.slot i _ hΓ
  cases e : getV ρ i with
  | none => rw [e] at h; exact h.elim
  | some d =>
    rw [e] at h sl
    obtain ⟨a, xs, ds, hs, hO, hH, rfl, r⟩ := sl
    have hs' : σ[i]? = some (some (.ref a)) := by
      unfold getS at hs
      cases q : σ[i]? with
      | none => rw [q] at hs; cases hs
      | some o => rw [q] at hs; exact congrArg some hs
    exact ⟨_, hs', h _ H S Keep.refl (fun _ => Keep.refl) (.lst (.inl hH) (fun z => S.zo a i (z ▸ S.sm) (by rw [hO]; exact List.mem_singleton_self _)) r) (fun z => nomatch z)⟩

/-! ### constants -/
theorem ve_cst {d : D} {v : V} (h : PE X a (tC v)) (r : ∀ N H, Rep X.K N H v d) : VE X XD W Γ a ba false true (fun ρ => .ok d ρ) := by
  refine ⟨fun Z fx O hx => PEimp h fun σ H Q h => ?_⟩
  obtain ⟨ρ, S, h⟩ := h
  dsimp only at h
  refine h v H S Keep.refl (fun _ => Keep.refl) ?_ (fun z => nomatch z)
  cases ba with
  | true => exact .rep (r _ _)
  | false => exact r _ _
/-- a module's constant: data that stands in the written part -/
inductive KRep (K : PySem.W.Frag) : Value → D → Prop
  | non : KRep K .none .none
  | bl (b : Bool) : KRep K (.bool b) (.bool b)
  | int (i : Int) (t : Tok) : KRep K (.int i t) (.int i)
  | str (x : Str) (t : Tok) (h : strG x) : KRep K (.str x t) (.str x)
  | txts {a : Addr} {o : Obj} {its : Array Value} {n : Nat} {zs : List Str} (h : K.lookup a = some o) (hc : o.cls = .type "tuple") (hd : o.data = .seq its n) (hz : its.size ≤ sizeLine) (r : Vals (zs.map V.str) its.toList) (g : ∀ z ∈ zs, strG z) :
      KRep K (.ref a) (.tuple (zs.map .str))
theorem strs_rep {K : PySem.W.Frag} {N : Addr → Prop} {H : Hp} : ∀ {zs : List Str}, (∀ z ∈ zs, strG z) → RepA K N H (zs.map V.str) (zs.map .str)
  | [], _ => .nil
  | z :: zs, h => .cons (.str z (h z (List.mem_cons_self ..))) (strs_rep fun y hy => h y (List.mem_cons_of_mem _ hy))
theorem KRep.rep {K : PySem.W.Frag} {u : Value} {d : D} (k : KRep K u d) : ∃ v, RelV v u ∧ ∀ (N : Addr → Prop) (H : Hp), Rep K N H v d := by
  cases k with
  | non => exact ⟨.non, rfl, fun _ _ => .non⟩
  | bl b => exact ⟨.bl b, rfl, fun _ _ => .bl b⟩
  | int i t => exact ⟨.int i, ⟨t, rfl⟩, fun _ _ => .int i⟩
  | str x t h => exact ⟨.str x, ⟨t, rfl⟩, fun _ _ => .str x h⟩
  | @txts a o its n zs h hc hd hz r g => exact ⟨.ref a, rfl, fun N H => .tup (.inr ⟨o, its, n, h, hc, hd, hz, r⟩) (strs_rep g)⟩
theorem ve_glb {x : Str} {u : Value} {d : D} (hg : Gl X x) (hm : X.mg x = some u) (k : KRep X.K u d) (hd : (x == ("__debug__" : Str)) = false) : VE X XD W Γ (.Name x pos) ba false true (fun ρ => .ok d ρ) := by
  refine ⟨fun Z fx O hx => ⟨fun pins s σ H Q I h => ?_⟩⟩
  obtain ⟨ρ, S, h⟩ := h
  dsimp only at h
  obtain ⟨v, rv, r⟩ := k.rep
  have r' : Rep X.K (NN Z O) H v d := r _ _
  refine ld_glob I hg hm ⟨v, H, I, rv, h v H S Keep.refl (fun _ => Keep.refl) ?_ (fun z => nomatch z)⟩ hd
  cases ba with
  | true => exact .rep r'
  | false => exact r'

/-! ### argument lists -/
theorem va_nil : VA X XD W Γ [] ba true (fun ρ => .ok [] ρ) := by
  refine ⟨fun Z fx O hx => PAimp pa_nil fun σ H Q h => ?_⟩
  obtain ⟨ρ, S, h⟩ := h
  dsimp only at h
  refine h [] H S Keep.refl (fun _ => Keep.refl) ?_
  cases ba with
  | true => exact .nil
  | false => exact .nil
theorem va_cons {es : List Expr} {mr : Ev → Out (List D)} (ha : VE X XD W Γ a ba fa qa ma) (hr : VA X XD W Γ es ba qb mr) (hq : ba = true → qb = true) (hs : starEach (a :: es) X.env = (false, eval a X.env) :: starEach es X.env) :
    VA X XD W Γ (a :: es) ba (qa && qb) (fun ρ => (ma ρ).bind fun x ρ => (mr ρ).bind fun xs ρ => .ok (x :: xs) ρ) := by
  refine ⟨fun Z fx O hx => PAimp (pa_cons (ha.pe Z fx O hx) (hr.pa Z fx O hx) hs) fun σ H Q h => ?_⟩
  obtain ⟨ρ, S, h⟩ := h
  dsimp only at h
  rw [Out.Post.bind] at h
  refine ⟨ρ, S, h.mono (fun d ρ1 h1 v H1 S1 k1 q1 r1 _ => ?_) fun _ _ z => z⟩
  rw [Out.Post.bind] at h1
  refine ⟨ρ1, S1, h1.mono (fun ds ρ2 h2 vs H2 S2 k2 q2 r2 => ?_) fun x ρ2 z cls dd H2 S2 k2 => z cls dd H2 S2 (k1.trans k2)⟩
  refine h2 (v :: vs) H2 S2 (k1.trans k2) (fun z => (q1 (Bool.and_eq_true_iff.mp z).1).trans (q2 (Bool.and_eq_true_iff.mp z).2)) ?_
  cases ba with
  | true => exact .cons (RepT.keepAll (q2 (hq rfl)) r1) r2
  | false => exact .cons (Rep.keep k2 oo_nn r1) r2

/-! ### tuples, lists -/
theorem ve_tup {es : List Expr} {k : Nat} {m : Ev → Out (List D)} (h : VA X XD W Γ es false qa m) (hl : es.length ≤ LIM) (hlen : ∀ ρ ds ρ', m ρ = .ok ds ρ' → ds.length = es.length) :
    VE X XD W Γ (.Tuple es k pos) ba false qa (fun ρ => (m ρ).bind fun ds ρ => .ok (.tuple ds) ρ) := by
  refine ⟨fun Z fx O hx => PEimp (pe_tup (h.pa Z fx O hx)) fun σ H Q h => ?_⟩
  obtain ⟨ρ, S, h⟩ := h
  dsimp only at h
  rw [Out.Post.bind] at h
  refine ⟨ρ, S, ?_⟩
  cases e : m ρ with
  | stk => rw [e] at h; exact h
  | exc x ρ1 => rw [e] at h; exact h
  | ok ds ρ1 =>
    rw [e] at h
    intro vs H1 S1 k1 q1 r1
    have r1 : RepA X.K (NN Z O) H1 vs ds := r1
    refine ⟨by rw [r1.length, hlen _ _ _ e, sizeLine_eq]; exact hl, fun p hp => ?_⟩
    have kn : Keep none_ H1 (upd H1 p (.tup vs)) := Keep.new hp
    refine h (.ref p) _ (S1.keep kn) (k1.trans kn.all) (fun z => (q1 z).trans kn) ?_ (fun z => nomatch z)
    have r : Rep X.K (NN Z O) (upd H1 p (.tup vs)) (.ref p) (.tuple ds) := .tup (.new upd_same (S1.fresh hp)) (r1.keep kn fun _ z => z.elim)
    cases ba with
    | true => exact .rep r
    | false => exact r
theorem ve_lst {es : List Expr} {m : Ev → Out (List D)} (h : VA X XD W Γ es false qa m) (hl : es.length ≤ LIM) (hlen : ∀ ρ ds ρ', m ρ = .ok ds ρ' → ds.length = es.length) :
    VE X XD W Γ (.List es pos) ba true qa (fun ρ => (m ρ).bind fun ds ρ => .ok (.list ds) ρ) := by
  refine ⟨fun Z fx O hx => PEimp (pe_lst (h.pa Z fx O hx)) fun σ H Q h => ?_⟩
  obtain ⟨ρ, S, h⟩ := h
  dsimp only at h
  rw [Out.Post.bind] at h
  refine ⟨ρ, S, ?_⟩
  cases e : m ρ with
  | stk => rw [e] at h; exact h
  | exc x ρ1 => rw [e] at h; exact h
  | ok ds ρ1 =>
    rw [e] at h
    intro vs H1 S1 k1 q1 r1
    have r1 : RepA X.K (NN Z O) H1 vs ds := r1
    refine ⟨by rw [r1.length, hlen _ _ _ e, sizeLine_eq]; exact hl, fun p hp => ?_⟩
    have kn : Keep none_ H1 (upd H1 p (.lst vs)) := Keep.new hp
    refine h (.ref p) _ (S1.keep kn) (k1.trans kn.all) (fun z => (q1 z).trans kn) ?_ (fun _ => ⟨p, vs, ds, rfl, rfl, S1.back k1 hp, upd_same, (r1.addN hp).keep kn (fun _ z => z.elim), S1.more hp kn (by rw [upd_same]; exact fun z => nomatch z)⟩)
    have r : Rep X.K (NN Z O) (upd H1 p (.lst vs)) (.ref p) (.list ds) := .lst (.inl upd_same) (S1.fresh hp) (r1.keep kn fun _ z => z.elim)
    cases ba with
    | true => exact .rep r
    | false => exact r

/-! ### two operands -/
/-- a new object -/
def New (K : PySem.W.Frag) (N : Addr → Prop) (v : V) (d : D) (H H' : Hp) : Prop := ∃ a xs ds, v = .ref a ∧ d = .list ds ∧ H a = none ∧ H' a = some (.lst xs) ∧ RepA K (fun b => N b ∨ b = a) H' xs ds
/-- what an operation on data asks: it is defined there, and its end is wanted of whatever stands for the result; old: nothing tracked has changed, what is new is new -/
def rD (K : PySem.W.Frag) (f : D → D → Option D) (fr : Bool) : R2 := fun x y H Q => ∃ (N : Addr → Prop) (dx dy d : D), (∀ a, N a → H a ≠ none) ∧ RepT K N H x dx ∧ RepT K N H y dy ∧ f dx dy = some d ∧
  ∀ v H', Keep none_ H H' → Rep K N H' v d → (fr = true → New K N v d H H') → Q v H'
theorem ve_two {f : D → D → Option D} {fr : Bool} {e : Expr} {t : R2} (mk : ∀ ta tb, PE X a ta → PE X b tb → PE X e (tOp t ta tb)) (ht : ∀ x y H Q, rD X.K f fr x y H Q → t x y H Q)
    (ha : VE X XD W Γ a ba fa qa ma) (hb : VE X XD W Γ b bb fb qb mb) (hq : ba = true → qb = true) :
    VE X XD W Γ e bc fr (qa && qb) (fun ρ => (ma ρ).bind fun x ρ => (mb ρ).bind fun y ρ => Out.lift (f x y) ρ) := by
  refine ⟨fun Z fx O hx => PEimp (mk _ _ (ha.pe Z fx O hx) (hb.pe Z fx O hx)) fun σ H Q h => ?_⟩
  obtain ⟨ρ, S, h⟩ := h
  dsimp only at h
  rw [Out.Post.bind] at h
  refine ⟨ρ, S, h.mono (fun d ρ1 h1 v H1 S1 k1 q1 r1 _ => ?_) fun _ _ z => z⟩
  rw [Out.Post.bind] at h1
  refine ⟨ρ1, S1, h1.mono (fun d2 ρ2 h2 v2 H2 S2 k2 q2 r2 _ => ?_) fun x ρ2 z cls dd H2 S2 k2 => z cls dd H2 S2 (k1.trans k2)⟩
  cases e : f d d2 with
  | none => rw [e] at h2; exact h2.elim
  | some r =>
    rw [e] at h2
    refine ht _ _ _ _ ⟨NN Z O, d, d2, r, S2.trk, r1.carry k2 oo_nn (fun z => q2 (hq z)), r2.toT, e, fun w H3 k3 r3 f3 => ?_⟩
    refine h2 w H3 (S2.keep k3) ((k1.trans k2).trans k3.all) (fun z => ((q1 (Bool.and_eq_true_iff.mp z).1).trans (q2 (Bool.and_eq_true_iff.mp z).2)).trans k3) ?_ (fun z => ?_)
    · cases bc with
      | true => exact .rep r3
      | false => exact r3
    · obtain ⟨p, xs, ds, e1, e4, e2, e3, e5⟩ := f3 z
      exact ⟨p, xs, ds, e1, e4, S2.back (k1.trans k2) e2, e3, e5.imp (fun _ z => NN_addZ z), S2.more e2 k3 (by rw [e3]; exact fun z => nomatch z)⟩

/-! ### truth -/
theorem tru_of {K : PySem.W.Frag} {N : Addr → Prop} {H : Hp} {v : V} {d : D} (r : RepT K N H v d) : TruV K v H (tru d) := by
  have key : ∀ {v : V} {d : D}, Rep K N H v d → TruV K v H (tru d) := fun {v d} r => by
    cases r with
    | non => rfl
    | bl b => rfl
    | int i => rfl
    | str x g => exact ⟨by rw [sizeLine_eq]; exact g.len, by show (x.length != 0) = ((x.length : Int) != 0); rw [Bool.eq_iff_iff]; simp⟩
    | @lst a xs ds h _ r => exact .inl ⟨xs, .inl h, by have := r.length; cases xs <;> cases ds <;> simp [tru] at this ⊢⟩
    | @tup a xs ds h r => exact .inr (.inl ⟨xs, h.sqt, by have := r.length; cases xs <;> cases ds <;> simp [tru] at this ⊢⟩)
    | dct h n => exact .inr (.inr ⟨[], h, rfl⟩)
  cases r with
  | rep h => exact key h
  | @lst a xs ds h _ r => exact .inl ⟨xs, .inl h, by have := r.length; cases xs <;> cases ds <;> simp [tru] at this ⊢⟩
end
end BV
set_option Elab.async false
set_option linter.all false
set_option maxRecDepth 100000
set_option maxHeartbeats 2000000
/-! BV5: binary operators, comparisons. -/
namespace BV
open PySem PySem.Spec L2
open PyProof.Rows hiding St

section
variable {X : Cx} {K : PySem.W.Frag} {N : Addr → Prop} {H H' : Hp} {v : V} {d : D}
theorem RepT.int_inv {i : Int} (r : RepT K N H v (.int i)) : v = .int i := by
  cases r with
  | rep h => cases h; rfl
theorem RepT.bool_inv {b : Bool} (r : RepT K N H v (.bool b)) : v = .bl b := by
  cases r with
  | rep h => cases h; rfl
theorem RepT.none_inv (r : RepT K N H v .none) : v = .non := by
  cases r with
  | rep h => cases h; rfl
theorem RepT.str_inv {x : Str} (r : RepT K N H v (.str x)) : v = .str x ∧ strG x := by
  cases r with
  | rep h => cases h with
    | str _ g => exact ⟨rfl, g⟩
theorem RepT.list_inv {ds : List D} (r : RepT K N H v (.list ds)) : ∃ a xs, v = .ref a ∧ Rd H a (.lst xs) ∧ RepA K N H xs ds := by
  cases r with
  | rep h => cases h with
    | lst h _ r => exact ⟨_, _, rfl, h, r⟩
  | lst h _ r => exact ⟨_, _, rfl, h, r⟩
theorem RepT.tup_inv {ds : List D} (r : RepT K N H v (.tuple ds)) : ∃ a xs, v = .ref a ∧ SqT K H a xs ∧ SqN K N H a xs ∧ RepA K N H xs ds := by
  cases r with
  | rep h => cases h with
    | tup h r => exact ⟨_, _, rfl, h.sqt, h, r⟩
theorem strG.app {x y : Str} (hx : strG x) (hy : strG y) (hl : x.length + y.length ≤ LIM) : strG (x ++ y) := by
  have h1 := hx.ok
  have h2 := hy.ok
  refine Bool.and_eq_true_iff.mpr ⟨?_, Nat.ble_eq_true_of_le ?_⟩
  · show (x.cps ++ y.cps).all (fun c => decide (c < 0x110000)) = true
    rw [Array.all_append]
    exact Bool.and_eq_true_iff.mpr ⟨h1, h2⟩
  · show (x.cps ++ y.cps).size ≤ LIM
    rw [Array.size_append]
    exact hl

/-! ### + -/
theorem or_left {X : Cx} {f : Value → Value → Sem Value} {r r' : R2} (h : OpR X f r) (i : ∀ x y H Q, r' x y H Q → r x y H Q) : OpR X f r' := fun pins s σ H x y v u Q I rx ry q => h pins s σ H x y v u Q I rx ry (i x y H Q q)
theorem Inv.rdl {X : Cx} {pins : List (Addr × Obj)} {σ : L2.St} {H : Hp} {s : Shared} {l : Addr} {xs : List V} (I : L2.Inv X pins σ H s) (h : Rd H l (.lst xs)) :
    xs.length ≤ sizeLine ∧ ∃ (its : List Value) (n : Nat), Vals xs its ∧ s.heap.get? l = some { cls := .type "list", data := .seq its.toArray n } := by
  obtain ⟨z, its, n, r, e⟩ := h.ok I.hok
  exact ⟨z, its, n, r, e⟩
theorem add_lists {X : Cx} : OpR X (binaryOp .Add) (fun x y H Q => ∃ l b xs zs, x = .ref l ∧ y = .ref b ∧ Rd H l (.lst xs) ∧ Rd H b (.lst zs) ∧ xs.length + zs.length ≤ sizeLine ∧ ∀ p, H p = none → Q (.ref p) (upd H p (.lst (xs ++ zs)))) := by
  intro pins s σ H x y v u Q I rx ry h
  obtain ⟨l, b, xs, zs, rfl, rfl, hH, hB, hz, q⟩ := h
  cases rx
  cases ry
  obtain ⟨z, its, n, r, e⟩ := Inv.rdl I hH
  obtain ⟨z2, its2, n2, r2, e2⟩ := Inv.rdl I hB
  have l1 := r.length
  have l2 := r2.length
  refine PySem.P.add_list e e2 ?_ (by rw [List.size_toArray, List.size_toArray]; omega)
  have ea : its.toArray ++ its2.toArray = (its ++ its2).toArray := by simp
  rw [ea]
  exact ⟨.ref _, _, I.lnew (r.append r2) (by rw [List.length_append]; exact hz), rfl, q _ I.fresh⟩
theorem add_tupsN {X : Cx} : OpR X (binaryOp .Add) (fun x y H Q => ∃ a b ys, x = .ref a ∧ y = .ref b ∧ SqT X.K H a [] ∧ SqT X.K H b ys ∧ Q (.ref b) H) := by
  intro pins s σ H x y v u Q I rx ry h
  obtain ⟨a, b, ys, rfl, rfl, ha, hb, q⟩ := h
  cases rx
  cases ry
  obtain ⟨its, r1, p1, _⟩ := I.tuple ha
  obtain ⟨its2, r2, p2, _⟩ := I.tuple hb
  cases r1
  obtain ⟨⟨cls, dd, data, sl⟩, ho, hc, n, hd⟩ := id p1
  obtain ⟨⟨cls2, dd2, data2, sl2⟩, ho2, hc2, n2, hd2⟩ := id p2
  simp only at hc hd hc2 hd2
  subst hc hd hc2 hd2
  exact PySem.concat_meets ⟨_, ho, rfl⟩ ⟨_, ho2, rfl⟩ noFill_tuple_add seq_tuple_add PySem.F.slot_tuple_add PySem.F.entry_tuple_add (PySem.F.args_tuple_add_2 _ _)
    (tuple_addW0 a b #[] its2.toArray n n2 dd dd2 sl sl2 rfl) ⟨ho, ho2, ⟨.ref b, H, I, rfl, q⟩⟩
theorem op_addD : OpR X (binaryOp .Add) (rD X.K (opBin .add) false) := by
  intro pins s σ H x y v u Q I rx ry h
  obtain ⟨N, dx, dy, d, hN, r1, r2, e, q⟩ := h
  cases dx with
  | int i =>
    cases dy with
    | int j =>
      cases e
      rw [r1.int_inv] at rx
      rw [r2.int_inv] at ry
      exact op_add pins s σ H _ _ v u Q I rx ry ⟨i, j, rfl, rfl, q _ H Keep.refl (.int _) (fun z => nomatch z)⟩
    | _ => cases e
  | str a =>
    cases dy with
    | str b =>
      obtain ⟨e1, g1⟩ := r1.str_inv
      obtain ⟨e2, g2⟩ := r2.str_inv
      rw [e1] at rx
      rw [e2] at ry
      have e' : (if a.length + b.length ≤ LIM then some (PyData.str (a ++ b)) else none) = some d := e
      by_cases hl : a.length + b.length ≤ LIM
      · rw [if_pos hl] at e'
        cases e'
        exact op_add_str pins s σ H _ _ v u Q I rx ry ⟨a, b, rfl, rfl, by rw [sizeLine_eq]; exact hl, q _ H Keep.refl (.str _ (g1.app g2 hl)) (fun z => nomatch z)⟩
      · rw [if_neg hl] at e'; cases e'
    | _ => cases e
  | list as =>
    cases dy with
    | list bs =>
      obtain ⟨l, xs, e1, hl1, ra⟩ := r1.list_inv
      obtain ⟨l2, ys, e2, hl2, rb⟩ := r2.list_inv
      rw [e1] at rx
      rw [e2] at ry
      have e' : (if as.length + bs.length ≤ LIM then some (PyData.list (as ++ bs)) else none) = some d := e
      by_cases hl : as.length + bs.length ≤ LIM
      · rw [if_pos hl] at e'
        cases e'
        refine add_lists pins s σ H _ _ v u Q I rx ry ⟨l, l2, xs, ys, rfl, rfl, hl1, hl2, by rw [ra.length, rb.length, sizeLine_eq]; exact hl, fun p hp => ?_⟩
        have kn : Keep none_ H (upd H p (.lst (xs ++ ys))) := Keep.new hp
        exact q _ _ kn (.lst (.inl upd_same) (fun z => hN p z hp) ((ra.append rb).keep kn fun _ z => z.elim)) (fun z => nomatch z)
      · rw [if_neg hl] at e'; cases e'
    | _ => cases e
  | tuple as =>
    cases dy with
    | tuple bs =>
      obtain ⟨l, xs, e1, hl1, n1, ra⟩ := r1.tup_inv
      obtain ⟨l2, ys, e2, hl2, n2, rb⟩ := r2.tup_inv
      rw [e1] at rx
      rw [e2] at ry
      have e' : (if as.length + bs.length ≤ LIM then some (PyData.tuple (as ++ bs)) else none) = some d := e
      by_cases hl : as.length + bs.length ≤ LIM
      · rw [if_pos hl] at e'
        cases e'
        by_cases hx : xs = []
        · subst hx
          cases ra
          refine add_tupsN pins s σ H _ _ v u Q I rx ry ⟨l, l2, ys, rfl, rfl, hl1, hl2, q _ H Keep.refl (.tup n2 rb) (fun z => nomatch z)⟩
        · refine op_catT pins s σ H _ _ v u Q I rx ry ⟨l, l2, xs, ys, rfl, rfl, hl1, hl2, hx, by rw [ra.length, rb.length, sizeLine_eq]; exact hl, fun hy => ?_, fun hy p hp => ?_⟩
          · subst hy
            cases rb
            rw [List.append_nil] at q
            exact q _ H Keep.refl (.tup n1 ra) (fun z => nomatch z)
          · have kn : Keep none_ H (upd H p (.tup (xs ++ ys))) := Keep.new hp
            exact q _ _ kn (.tup (.new upd_same (fun z => hN p z hp)) ((ra.append rb).keep kn fun _ z => z.elim)) (fun z => nomatch z)
      · rw [if_neg hl] at e'; cases e'
    | _ => cases e
  | _ => cases dy <;> cases e

/-! ### the other operators: ints -/
theorem op_int2 {op : Operator} {o : BOp} {C : Int → Int → Prop} {g : Int → Int → Int} (h : OpR X (binaryOp op) (rI C fun i j => .int (g i j)))
    (hd : ∀ x y d, opBin o x y = some d → ∃ i j, x = .int i ∧ y = .int j ∧ d = .int (g i j) ∧ C i j) : OpR X (binaryOp op) (rD X.K (opBin o) false) := by
  intro pins s σ H x y v u Q I rx ry hh
  obtain ⟨N, dx, dy, d, hN, r1, r2, e, q⟩ := hh
  obtain ⟨i, j, rfl, rfl, rfl, c⟩ := hd _ _ _ e
  rw [r1.int_inv] at rx
  rw [r2.int_inv] at ry
  exact h pins s σ H _ _ v u Q I rx ry ⟨i, j, rfl, rfl, c, q _ H Keep.refl (.int _) (fun z => nomatch z)⟩
theorem op_subD : OpR X (binaryOp .Sub) (rD X.K (opBin .sub) false) :=
  op_int2 (C := fun _ _ => True) (g := fun i j => i - j) (or_left op_sub fun x y H Q ⟨i, j, a, b, _, q⟩ => ⟨i, j, a, b, q⟩) fun x y d e => by
    cases x <;> cases y <;> first | (cases e; exact ⟨_, _, rfl, rfl, rfl, trivial⟩) | cases e
/-- a list, n times -/
theorem rep_list : OpR X (binaryOp .Mult) (fun x y H Q => ∃ l xs, ∃ k : Int, x = .ref l ∧ y = .int k ∧ Rd H l (.lst xs) ∧ (-(2 ^ 63) ≤ k ∧ k < 2 ^ 63) ∧ xs.length * k.toNat ≤ sizeLine ∧ ∀ p, H p = none → Q (.ref p) (upd H p (.lst (List.replicate k.toNat xs).flatten))) := by
  intro pins s σ H x y v u Q I rx ry ⟨l, xs, k, ex, ey, hR, ⟨h1, h2⟩, hz, q⟩
  subst ex
  subst ey
  cases rx
  obtain ⟨t, rfl⟩ := ry
  obtain ⟨z, its, n, r, e⟩ := hR.ok I.hok
  have hl : xs.length = its.length := r.length
  have hlen : its.toArray.size * k.toNat ≤ sizeLine := by
    rw [List.size_toArray]
    exact hl ▸ hz
  have hcap := Nat.not_lt.mpr (Nat.le_trans hlen (show sizeLine ≤ (2 ^ 63 - 1) / 8 by decide))
  have hfit : (!Builtin.List.listFitsIndex k) ≠ true := fun w => by
    rw [fitsIndex_both h1 h2] at w
    cases w
  have hlong : Builtin.List.listTooLong (its.toArray.size * k.toNat) ≠ true := fun w => by
    rw [notLongL hlen] at w
    cases w
  have fl : ∀ m : Nat, (List.replicate m its.toArray).foldl (fun a b => a ++ b) #[] = (List.replicate m its).flatten.toArray := fun m => (foldl_rep its m []).trans (by rw [List.nil_append])
  have hnew : (List.replicate (if its.toArray.isEmpty = true then 0 else k.toNat) its.toArray).foldl (fun a b => a ++ b) #[] = (List.replicate k.toNat its).flatten.toArray := by
    rw [fl]
    cases its
    · simp
    · rfl
  have fin : EP X pins σ Q (.ref s.heap.objs.size) _ := ⟨.ref _, _, I.lnew (t' := s.toks) (r.rep k.toNat) (by rw [PyProof.Rows.lm_len_rep_flat, Nat.mul_comm]; exact hz), rfl, q _ I.fresh⟩
  refine wpAny_binaryOp_repeat_ref (T := "list") (U := "int") (by decide) ⟨_, e, rfl⟩ (fun s' => typeIs_int s' k t) noFill_list_mul F.fills_int_mul F.slot_int_rmul repeat_list F.slot_int_index.lookup (call_meets F.slot_int_rmul (typeIs_int s k t) F.entry_int_rmul
    (F.args_int_rmul_2 _ _) (int___rmul___int_list k t l its.toArray n) ⟨e, rfl, ⟨_, e, rfl⟩, call_meets F.slot_list_mul ⟨_, e, rfl⟩ F.entry_list_mul (F.args_list_mul_2 _ _)
      (AutoListH.list___mul___list_int_3 l its.toArray n k t hfit hcap hlong) ⟨e, ?_⟩⟩)
  show EP X pins σ Q _ _
  rw [hnew]
  exact fin
theorem rep_len {xs : List D} : ∀ m : Nat, ((List.replicate m xs).flatten).length = xs.length * m := by
  intro m
  rw [PyProof.Rows.lm_len_rep_flat, Nat.mul_comm]
theorem RepA.rep {K : PySem.W.Frag} {N : Addr → Prop} {H : Hp} {vs : List V} {ds : List D} (r : RepA K N H vs ds) : ∀ m : Nat, RepA K N H (List.replicate m vs).flatten (List.replicate m ds).flatten
  | 0 => .nil
  | m + 1 => by
    rw [List.replicate_succ, List.replicate_succ, List.flatten_cons, List.flatten_cons]
    exact r.append (RepA.rep r m)
theorem op_mulD : OpR X (binaryOp .Mult) (rD X.K (opBin .mul) false) := by
  intro pins s σ H x y v u Q I rx ry hh
  obtain ⟨N, dx, dy, d, hN, r1, r2, e, q⟩ := hh
  cases dx with
  | int i =>
    cases dy with
    | int j =>
      have e' : (if mulOk i j = true then some (PyData.int (i * j)) else none) = some d := e
      by_cases h : mulOk i j = true
      · rw [if_pos h] at e'
        cases e'
        rw [r1.int_inv] at rx
        rw [r2.int_inv] at ry
        refine op_mul pins s σ H _ _ v u Q I rx ry ⟨i, j, rfl, rfl, ?_, q _ H Keep.refl (.int _) (fun z => nomatch z)⟩
        simp only [mulOk, Bool.or_eq_true, Bool.and_eq_true, decide_eq_true_eq] at h
        exact h
      · rw [if_neg h] at e'; cases e'
    | _ => cases e
  | list xs =>
    cases dy with
    | int n =>
      obtain ⟨l, ys, e1, hl1, ra⟩ := r1.list_inv
      rw [e1] at rx
      rw [r2.int_inv] at ry
      have e' : (if -(2 ^ 62) ≤ n ∧ n ≤ LIM ∧ xs.length * n.toNat ≤ LIM then some (PyData.list (List.replicate n.toNat xs).flatten) else none) = some d := e
      by_cases h : -(2 ^ 62) ≤ n ∧ n ≤ LIM ∧ xs.length * n.toNat ≤ LIM
      · rw [if_pos h] at e'
        cases e'
        have hL : (LIM : Int) < 2 ^ 63 := by decide
        refine rep_list pins s σ H _ _ v u Q I rx ry ⟨l, ys, n, rfl, rfl, hl1, ⟨by omega, by omega⟩, by rw [ra.length, sizeLine_eq]; exact h.2.2, fun p hp => ?_⟩
        have kn : Keep none_ H (upd H p (.lst (List.replicate n.toNat ys).flatten)) := Keep.new hp
        exact q _ _ kn (.lst (.inl upd_same) (fun z => hN p z hp) ((ra.rep n.toNat).keep kn fun _ z => z.elim)) (fun z => nomatch z)
      · rw [if_neg h] at e'; cases e'
    | _ => cases e
  | _ => cases dy <;> cases e
theorem op_fdivD : OpR X (binaryOp .FloorDiv) (rD X.K (opBin .fdiv) false) :=
  op_int2 (g := fun i j => i / j) op_fdiv fun x y d e => by
    cases x with
    | int i =>
      cases y with
      | int j =>
        have e' : (if 0 < j ∧ j < 1073741824 then some (PyData.int (i / j)) else none) = some d := e
        by_cases h : 0 < j ∧ j < 1073741824
        · rw [if_pos h] at e'
          cases e'
          exact ⟨i, j, rfl, rfl, rfl, h⟩
        · rw [if_neg h] at e'; cases e'
      | _ => cases e
    | _ => cases y <;> cases e
theorem op_modD : OpR X (binaryOp .Mod) (rD X.K (opBin .mod) false) :=
  op_int2 (g := fun i j => i % j) op_mod fun x y d e => by
    cases x with
    | int i =>
      cases y with
      | int j =>
        have e' : (if 0 < j then some (PyData.int (i % j)) else none) = some d := e
        by_cases h : 0 < j
        · rw [if_pos h] at e'
          cases e'
          exact ⟨i, j, rfl, rfl, rfl, h⟩
        · rw [if_neg h] at e'; cases e'
      | _ => cases e
    | _ => cases y <;> cases e
theorem op_powD : OpR X (binaryOp .Pow) (rD X.K (opBin .pow) false) :=
  op_int2 (g := fun i j => i ^ j.toNat) op_pow fun x y d e => by
    cases x with
    | int i =>
      cases y with
      | int j =>
        have e' : (if 0 ≤ j ∧ j ≤ 1000000 ∧ i.natAbs < 2 ^ 64 then some (PyData.int (i ^ j.toNat)) else none) = some d := e
        by_cases h : 0 ≤ j ∧ j ≤ 1000000 ∧ i.natAbs < 2 ^ 64
        · rw [if_pos h] at e'
          cases e'
          exact ⟨i, j, rfl, rfl, rfl, h⟩
        · rw [if_neg h] at e'; cases e'
      | _ => cases e
    | _ => cases y <;> cases e
def BOp.ast : BOp → Operator
  | .add => .Add
  | .sub => .Sub
  | .mul => .Mult
  | .fdiv => .FloorDiv
  | .mod => .Mod
  | .pow => .Pow
theorem op_binD : ∀ o : BOp, OpR X (binaryOp o.ast) (rD X.K (opBin o) false)
  | .add => op_addD
  | .sub => op_subD
  | .mul => op_mulD
  | .fdiv => op_fdivD
  | .mod => op_modD
  | .pow => op_powD

/-! ### reading -/
section
variable {pins : List (Addr × Obj)} {s : Shared} {σ : L2.St} {H : Hp} {N : Addr → Prop}
mutual
theorem Rep.reads (I : L2.Inv X pins σ H s) : ∀ {v : V} {d : D} {u : Value}, Rep X.K N H v d → RelV v u → ∃ as, Reads s.heap u d as ∧ (N sysModules → sysModules ∉ as)
  | _, _, _, .non, r => by cases r; exact ⟨_, Reads.none, fun _ z => nomatch z⟩
  | _, _, _, .bl b, r => by cases r; exact ⟨_, Reads.bool b, fun _ z => nomatch z⟩
  | _, _, _, .int i, r => by obtain ⟨t, rfl⟩ := r; exact ⟨_, Reads.int i t, fun _ z => nomatch z⟩
  | _, _, _, .str x _, r => by obtain ⟨t, rfl⟩ := r; exact ⟨_, Reads.str x t, fun _ z => nomatch z⟩
  | _, _, _, .lst h n ra, r => by
    cases r
    obtain ⟨its, rv, ⟨o, n', ho, hc, _, hd⟩, _⟩ := I.list (.inl h)
    obtain ⟨as, hr, hs⟩ := RepA.reads I ra rv
    refine ⟨_, Reads.list ho hc hd hr, fun z m => ?_⟩
    rcases List.mem_cons.mp m with m | m
    · exact n (m ▸ z)
    · exact hs z m
  | _, _, _, .tup h ra, r => by
    cases r
    obtain ⟨its, rv, ⟨o, ho, hc, n', hd⟩, _⟩ := I.tuple h.sqt
    obtain ⟨as, hr, hs⟩ := RepA.reads I ra rv
    exact ⟨_, Reads.tuple ho hc hd hr, hs⟩
  | _, _, _, @Rep.dct _ _ _ a h n, r => by
    cases r
    obtain ⟨z, hd, vs, rel, o, es, ep, e1, e2, e3, _, e4, _⟩ := dk_of I.hok h
    cases rel
    have e5 : es.toList = [] := by
      generalize es.toList = l at e4
      cases e4
      rfl
    refine ⟨_, Reads.dict (as := []) (bs := []) (kvs := []) e1 e2.1 e3 (by rw [e5]; exact .nil) (by rw [e5]; exact .nil), fun z m => ?_⟩
    have : sysModules = a := by simpa using m
    exact n (this ▸ z)
theorem RepA.reads (I : L2.Inv X pins σ H s) : ∀ {vs : List V} {ds : List D} {us : List Value}, RepA X.K N H vs ds → Vals vs us → ∃ as, ReadsAll s.heap us ds as ∧ (N sysModules → sysModules ∉ as)
  | _, _, _, .nil, r => by cases r; exact ⟨_, ReadsAll.nil, fun _ z => nomatch z⟩
  | _, _, _, .cons h t, r => by
    cases r with
    | cons r1 r2 =>
      obtain ⟨as, q1, z1⟩ := Rep.reads I h r1
      obtain ⟨bs, q2, z2⟩ := RepA.reads I t r2
      refine ⟨_, ReadsAll.cons q1 q2, fun z m => ?_⟩
      rcases List.mem_append.mp m with m | m
      · exact z1 z m
      · exact z2 z m
end
theorem RepT.reads (I : L2.Inv X pins σ H s) {v : V} {d : D} {u : Value} (h : RepT X.K N H v d) (r : RelV v u) : ∃ as, Reads s.heap u d as ∧ (N sysModules → sysModules ∉ as) := by
  cases h with
  | rep h => exact h.reads I r
  | lst h n ra =>
    cases r
    obtain ⟨its, rv, ⟨o, n', ho, hc, _, hd⟩, _⟩ := I.list (.inl h)
    obtain ⟨as, hr, hs⟩ := RepA.reads I ra rv
    refine ⟨_, Reads.list ho hc hd hr, fun z m => ?_⟩
    rcases List.mem_cons.mp m with m | m
    · exact n m.symm
    · exact hs z m
end
/-! ### comparisons -/
theorem lay_of {dx : D} (h : dx.canLay0 = true) : dx.canLay0 = true := h
theorem eqOk_1 {x y : D} (e : eqOk x y = true) : noDict x = true ∧ noDict y = true := Bool.and_eq_true_iff.mp (Bool.and_eq_true_iff.mp e).1
theorem eqv_ok {neg : Bool} (hu : X.A.units + 64 < cLine) {pins : List (Addr × Obj)} {s : Shared} {σ : L2.St} {H : Hp} {x y : V} {v u : Value} {dx dy : D} {N : Addr → Prop} (I : L2.Inv X pins σ H s) (rx : RelV x v) (ry : RelV y u) (r1 : RepT X.K N H x dx) (r2 : RepT X.K N H y dy)
    (e : eqOk dx dy = true) {Q : Value → Shared → Prop} (q : Q (.bool (PyData.eqv dx dy)) s) : wpAny (model X.prog X.w) X.A (compareOp .Eq v u) Q X.xe s := by
  obtain ⟨n1, n2⟩ := eqOk_1 e
  obtain ⟨as, h1⟩ := Dp.reads I dx x v (r1.dp n1) rx
  obtain ⟨bs, h2⟩ := Dp.reads I dy y u (r2.dp n2) ry
  have e3 := of_decide_eq_true (Bool.and_eq_true_iff.mp e).2
  exact SeqAt.compareEq_reads h1 h2 (r1.lay n1) (r2.lay n2) (by omega) q
theorem rep_bl {X : Cx} {pins : List (Addr × Obj)} {σ : L2.St} {H : Hp} {s : Shared} {Q : VK} {k : Bool} (I : L2.Inv X pins σ H s) (N : Addr → Prop) (q : ∀ v H', Keep none_ H H' → Rep X.K N H' v (.bool k) → (false = true → New X.K N v (.bool k) H H') → Q v H') : EP X pins σ Q (.bool k) s :=
  ⟨.bl k, H, I, rfl, q _ H Keep.refl (.bl k) (fun z => nomatch z)⟩
abbrev bD (f : D → D → Option Bool) : D → D → Option D := fun x y => (f x y).map PyData.bool
theorem op_eqB (hu : X.A.units + 64 < cLine) : OpR X (compareOp .Eq) (rD X.K (bD (opCmp .eq)) false) := by
  intro pins s σ H x y v u Q I rx ry h
  obtain ⟨N, dx, dy, d, hN, r1, r2, e, q⟩ := h
  have e' : (if eqOk dx dy = true then some (PyData.eqv dx dy) else none).map PyData.bool = some d := e
  by_cases h : eqOk dx dy = true
  · rw [if_pos h] at e'
    cases e'
    exact eqv_ok (neg := false) hu I rx ry r1 r2 h (rep_bl I N q)
  · rw [if_neg h] at e'; cases e'
theorem op_neB (hu : X.A.units + 64 < cLine) : OpR X (compareOp .NotEq) (rD X.K (bD (opCmp .ne)) false) := by
  intro pins s σ H x y v u Q I rx ry h
  obtain ⟨N, dx, dy, d, hN, r1, r2, e, q⟩ := h
  have e' : (if eqOk dx dy = true then some (!PyData.eqv dx dy) else none).map PyData.bool = some d := e
  by_cases h : eqOk dx dy = true
  · rw [if_pos h] at e'
    cases e'
    obtain ⟨n1, n2⟩ := eqOk_1 h
    obtain ⟨as, h1⟩ := Dp.reads I dx x v (r1.dp n1) rx
    obtain ⟨bs, h2⟩ := Dp.reads I dy y u (r2.dp n2) ry
    have e3 := of_decide_eq_true (Bool.and_eq_true_iff.mp h).2
    exact SeqAt.compareNe_reads h1 h2 (r1.lay n1) (r2.lay n2) (by omega) (rep_bl I N q)
  · rw [if_neg h] at e'; cases e'
/-- from the first pair that differs on -/
def cmpL (op : D → D → Bool) (z : Bool) : List D → List D → Bool
  | x :: xs, y :: ys => if PyData.eqv x y = true then cmpL op z xs ys else op x y
  | _, _ => z
theorem lexAt_cmp {op : D → D → Bool} {z : Bool} (xs ys : List D) : ∀ k i : Nat, min xs.length ys.length - i = k → i ≤ min xs.length ys.length →
    Ob.lexAt (fun j => PyData.eqv (xs.getD j .none) (ys.getD j .none)) (fun j => op (xs.getD j .none) (ys.getD j .none)) z i k = cmpL op z (xs.drop i) (ys.drop i) := by
  intro k
  induction k with
  | zero =>
    intro i h1 h2
    rw [Ob.lexAt_zero]
    by_cases hx : xs.length ≤ i
    · rw [List.drop_of_length_le hx]; rfl
    · have hy : ys.length ≤ i := by omega
      rw [List.drop_of_length_le hy]
      cases xs.drop i <;> rfl
  | succ k ih =>
    intro i h1 h2
    have hx : i < xs.length := by omega
    have hy : i < ys.length := by omega
    rw [Ob.lexAt_succ, ih (i + 1) (by omega) (by omega), List.drop_eq_getElem_cons hx, List.drop_eq_getElem_cons hy]
    have ex : xs.getD i .none = xs[i] := by simp [List.getD, hx]
    have ey : ys.getD i .none = ys[i] := by simp [List.getD, hy]
    rw [ex, ey]
    rfl
theorem eqv_flat {x y : D} (h : flatAlike x y = true) : PyData.eqv x y = PyData.eqv y x := by
  cases x <;> cases y <;> first | cases h | skip
  · show (_ == _) = (_ == _)
    rw [Bool.eq_iff_iff]; simp only [beq_iff_eq]; exact eq_comm
  · show (_ == _) = (_ == _)
    rw [Bool.eq_iff_iff]; simp only [beq_iff_eq]; exact eq_comm
theorem cmpL_lt : ∀ (xs ys : List D) (z : Bool), z = decide (xs.length < ys.length) → cmpL atomLt z xs ys = ltL xs ys
  | [], [], z, h => by rw [h]; rfl
  | [], _ :: _, z, h => by rw [h]; simp [cmpL, ltL]
  | _ :: _, [], z, h => by rw [h]; simp [cmpL, ltL]
  | x :: xs, y :: ys, z, h => by
    show (if _ then _ else _) = (if _ then _ else _)
    rw [cmpL_lt xs ys z (by rw [h]; simp)]
theorem cmpL_ge : ∀ (xs ys : List D) (z : Bool), z = decide (xs.length ≥ ys.length) → cmpL (fun x y => !atomLt x y) z xs ys = !ltL xs ys
  | [], [], z, h => by rw [h]; rfl
  | [], _ :: _, z, h => by rw [h]; simp [cmpL, ltL]
  | _ :: _, [], z, h => by rw [h]; simp [cmpL, ltL]
  | x :: xs, y :: ys, z, h => by
    show (if _ then _ else _) = !(if _ then _ else _)
    rw [cmpL_ge xs ys z (by rw [h]; simp)]
    split <;> rfl
theorem cmpL_gt : ∀ (xs ys : List D) (z : Bool), z = decide (xs.length > ys.length) → flatAll ys xs = true → cmpL (fun x y => atomLt y x) z xs ys = ltL ys xs
  | [], [], z, h, _ => by rw [h]; rfl
  | [], _ :: _, z, h, _ => by rw [h]; simp [cmpL, ltL]
  | _ :: _, [], z, h, _ => by rw [h]; simp [cmpL, ltL]
  | x :: xs, y :: ys, z, h, f => by
    have f' := Bool.and_eq_true_iff.mp f
    show (if _ then _ else _) = (if _ then _ else _)
    rw [cmpL_gt xs ys z (by rw [h]; simp) f'.2, eqv_flat f'.1]
theorem cmpL_le : ∀ (xs ys : List D) (z : Bool), z = decide (xs.length ≤ ys.length) → flatAll ys xs = true → cmpL (fun x y => !atomLt y x) z xs ys = !ltL ys xs
  | [], [], z, h, _ => by rw [h]; rfl
  | [], _ :: _, z, h, _ => by rw [h]; simp [cmpL, ltL]
  | _ :: _, [], z, h, _ => by rw [h]; simp [cmpL, ltL]
  | x :: xs, y :: ys, z, h, f => by
    have f' := Bool.and_eq_true_iff.mp f
    show (if _ then _ else _) = !(if _ then _ else _)
    rw [cmpL_le xs ys z (by rw [h]; simp) f'.2, eqv_flat f'.1]
    split <;> rfl
theorem flatAll_get : ∀ (xs ys : List D) (j : Nat), flatAll xs ys = true → j < xs.length → j < ys.length → flatAlike (xs.getD j .none) (ys.getD j .none) = true
  | [], _, _, _, h, _ => absurd h (Nat.not_lt_zero _)
  | _ :: _, [], _, _, _, h => absurd h (Nat.not_lt_zero _)
  | x :: xs, y :: ys, 0, f, _, _ => (Bool.and_eq_true_iff.mp f).1
  | x :: xs, y :: ys, j + 1, f, h1, h2 => flatAll_get xs ys j (Bool.and_eq_true_iff.mp f).2 (Nat.lt_of_succ_lt_succ h1) (Nat.lt_of_succ_lt_succ h2)
theorem flat_sym {x y : D} (h : flatAlike x y = true) : flatAlike y x = true := by
  cases x <;> cases y <;> first | rfl | cases h
theorem pairEq_get : ∀ (xs ys : List D) (j : Nat), j < xs.length → j < ys.length → SeqAt.pairEq xs ys j = PyData.eqv (xs.getD j .none) (ys.getD j .none)
  | [], _, _, h, _ => absurd h (Nat.not_lt_zero _)
  | _ :: _, [], _, _, h => absurd h (Nat.not_lt_zero _)
  | x :: xs, y :: ys, 0, _, _ => by simp [SeqAt.pairEq]
  | x :: xs, y :: ys, j + 1, h1, h2 => by
    have := pairEq_get xs ys j (Nat.lt_of_succ_lt_succ h1) (Nat.lt_of_succ_lt_succ h2)
    simpa [SeqAt.pairEq] using this
/-- atoms at the same place of two tuples -/
theorem atoms_at {h : Heap} {vs : List Value} {xs : List D} {as : List Addr} (r : ReadsAll h vs xs as) {j : Nat} (hj : j < vs.length) : ∃ bs, j < xs.length ∧ Reads h vs[j] (xs.getD j .none) bs := by
  induction xs generalizing vs as j with
  | nil => cases r; exact absurd hj (Nat.not_lt_zero _)
  | cons x xs ih =>
    cases r with
    | cons h1 h2 =>
      cases j with
      | zero => exact ⟨_, Nat.succ_pos _, h1⟩
      | succ j =>
        obtain ⟨bs, l, q⟩ := ih h2 (Nat.lt_of_succ_lt_succ hj)
        exact ⟨bs, Nat.succ_lt_succ l, q⟩
end
end BV
set_option Elab.async false
set_option linter.all false
set_option maxRecDepth 100000
set_option maxHeartbeats 2000000
/-! BV6: order, identity, membership, places, slices. -/
namespace BV
open PySem PySem.Spec L2
open PyProof.Rows hiding St

section
variable {X : Cx}
/-! ### order -/
theorem flat_cases {a b : D} (h : flatAlike a b = true) : (∃ i j, a = .int i ∧ b = .int j) ∨ ∃ x y, a = .str x ∧ b = .str y := by
  cases a with
  | int i => cases b with
    | int j => exact .inl ⟨i, j, rfl, rfl⟩
    | _ => cases h
  | str x => cases b with
    | str y => exact .inr ⟨x, y, rfl, rfl⟩
    | _ => cases h
  | _ => cases b <;> cases h
/-- one of the four orders, by x < y and y < x -/
def ordD (o : COp) (x y : D) : Option Bool := opCmp o x y
theorem tup_ord {op : CmpOp} {f : D → D → Bool} {xs ys : List D} {N : Addr → Prop} {pins : List (Addr × Obj)} {s : Shared} {σ : L2.St} {H : Hp} {x y : V} {v u : Value} {Q : Value → Shared → Prop} {k : Bool}
    (hu : X.A.units + 64 < cLine) (I : L2.Inv X pins σ H s) (rx : RelV x v) (ry : RelV y u) (r1 : RepT X.K N H x (.tuple xs)) (r2 : RepT X.K N H y (.tuple ys))
    (fl : flatAll xs ys = true ∨ flatAll ys xs = true)
    (at_ : ∀ (a b : D) (va vb : Value) (as bs : List Addr), Reads s.heap va a as → Reads s.heap vb b bs → flatAlike a b = true → Ob.RcOp op X.A.in1 s va vb (f a b))
    (fin : ∀ {l b : Addr} {items items2 : Array Value} {e r : Nat → Bool}, s.heap.IsTuple l items → s.heap.IsTuple b items2 → (∀ j (h1 : j < items.size) (h2 : j < items2.size), SeqAt.EqAt X.A.in1 s items[j] items2[j] (e j)) →
      (∀ j (h1 : j < items.size) (h2 : j < items2.size), e j = false → Ob.RcOp op X.A.in1 s items[j] items2[j] (r j)) →
      items.size = xs.length → items2.size = ys.length → (∀ j, e j = PyData.eqv (xs.getD j .none) (ys.getD j .none)) → (∀ j, r j = f (xs.getD j .none) (ys.getD j .none)) → wpAny (model X.prog X.w) X.A (compareOp op (.ref l) (.ref b)) Q X.xe s) :
    wpAny (model X.prog X.w) X.A (compareOp op v u) Q X.xe s := by
  obtain ⟨a1, vs, e1, h1, _, ra⟩ := r1.tup_inv
  obtain ⟨a2, ws, e2, h2, _, rb⟩ := r2.tup_inv
  subst e1 e2
  cases rx
  cases ry
  obtain ⟨its, q1, p1, _⟩ := I.tuple h1
  obtain ⟨its2, q2, p2, _⟩ := I.tuple h2
  obtain ⟨as, R1, _⟩ := ra.reads I q1
  obtain ⟨bs, R2, _⟩ := rb.reads I q2
  have n1 : its.length = xs.length := by rw [← q1.length, ra.length]
  have n2 : its2.length = ys.length := by rw [← q2.length, rb.length]
  have flat : ∀ j, j < xs.length → j < ys.length → flatAlike (xs.getD j .none) (ys.getD j .none) = true := fun j j1 j2 => by
    rcases fl with fl | fl
    · exact flatAll_get xs ys j fl j1 j2
    · exact flat_sym (flatAll_get ys xs j fl j2 j1)
  refine fin (e := fun j => PyData.eqv (xs.getD j .none) (ys.getD j .none)) (r := fun j => f (xs.getD j .none) (ys.getD j .none)) p1 p2 (fun j j1 j2 => ?_) (fun j j1 j2 _ => ?_) (by simpa using n1) (by simpa using n2) (fun _ => rfl) (fun _ => rfl)
  · have j1' : j < its.length := by simpa using j1
    have j2' : j < its2.length := by simpa using j2
    obtain ⟨cs, l1, z1⟩ := atoms_at R1 j1'
    obtain ⟨ds, l2, z2⟩ := atoms_at R2 j2'
    have fa := flat j l1 l2
    have d0 : (xs.getD j .none).depth = 0 := by
      rcases flat_cases fa with ⟨i, k, e1, e2⟩ | ⟨i, k, e1, e2⟩ <;> rw [e1] <;> simp [PyData.depth]
    have c1 : (xs.getD j .none).canLay0 = true := by
      obtain ⟨w, _, rw_⟩ := ra.get (i := j) (d := xs.getD j .none) (by simp [List.getD, l1])
      exact rw_.lay (by rcases flat_cases fa with ⟨i, k, e1, e2⟩ | ⟨i, k, e1, e2⟩ <;> rw [e1] <;> rfl)
    have c2 : (ys.getD j .none).canLay0 = true := by
      obtain ⟨w, _, rw_⟩ := rb.get (i := j) (d := ys.getD j .none) (by simp [List.getD, l2])
      exact rw_.lay (by rcases flat_cases fa with ⟨i, k, e1, e2⟩ | ⟨i, k, e1, e2⟩ <;> rw [e2] <;> rfl)
    have := SeqAt.eqAt_reads _ _ X.A.in1 s _ _ _ _ z1 z2 c1 c2 (by rw [d0]; show X.A.units + 1 + _ < cLine; omega)
    simpa using this
  · have j1' : j < its.length := by simpa using j1
    have j2' : j < its2.length := by simpa using j2
    obtain ⟨cs, l1, z1⟩ := atoms_at R1 j1'
    obtain ⟨ds, l2, z2⟩ := atoms_at R2 j2'
    have := at_ _ _ _ _ _ _ z1 z2 (flat j l1 l2)
    simpa using this
theorem atom_lt {A : Around} {s : Shared} (a b : D) (va vb : Value) (as bs : List Addr) (ra : Reads s.heap va a as) (rb : Reads s.heap vb b bs) (f : flatAlike a b = true) : Ob.RcOp .Lt A s va vb (atomLt a b) := by
  rcases flat_cases f with ⟨i, j, rfl, rfl⟩ | ⟨i, j, rfl, rfl⟩
  · cases ra; cases rb; exact fun _ _ _ _ h => PyProof.Rows.lt_int h
  · cases ra; cases rb; exact fun _ _ _ _ h => PyProof.Rows.lt_str h
theorem not_lt_int (i j : Int) : (!decide (i < j)) = decide (j ≤ i) := by rw [Bool.eq_iff_iff]; simp
theorem atom_ge {A : Around} {s : Shared} (a b : D) (va vb : Value) (as bs : List Addr) (ra : Reads s.heap va a as) (rb : Reads s.heap vb b bs) (f : flatAlike a b = true) : Ob.RcOp .GtE A s va vb (!atomLt a b) := by
  rcases flat_cases f with ⟨i, j, rfl, rfl⟩ | ⟨i, j, rfl, rfl⟩
  · cases ra; cases rb
    refine fun _ _ _ _ h => PyProof.Rows.ge_int ?_
    rw [← not_lt_int]; exact h
  · cases ra; cases rb; exact fun _ _ _ _ h => PySem.P.ge_str h
theorem atom_gt {A : Around} {s : Shared} (a b : D) (va vb : Value) (as bs : List Addr) (ra : Reads s.heap va a as) (rb : Reads s.heap vb b bs) (f : flatAlike a b = true) : Ob.RcOp .Gt A s va vb (atomLt b a) := by
  rcases flat_cases f with ⟨i, j, rfl, rfl⟩ | ⟨i, j, rfl, rfl⟩
  · cases ra; cases rb; exact fun _ _ _ _ h => PyProof.Rows.gt_int h
  · cases ra; cases rb; exact fun _ _ _ _ h => PySem.P.gt_str h
theorem atom_le {A : Around} {s : Shared} (a b : D) (va vb : Value) (as bs : List Addr) (ra : Reads s.heap va a as) (rb : Reads s.heap vb b bs) (f : flatAlike a b = true) : Ob.RcOp .LtE A s va vb (!atomLt b a) := by
  rcases flat_cases f with ⟨i, j, rfl, rfl⟩ | ⟨i, j, rfl, rfl⟩
  · cases ra; cases rb
    refine fun _ _ _ _ h => PyProof.Rows.le_int ?_
    rw [← not_lt_int]; exact h
  · cases ra; cases rb; exact fun _ _ _ _ h => PySem.P.le_str h
theorem lexAt_eq {e r e' r' : Nat → Bool} {z : Bool} (he : ∀ j, e j = e' j) (hr : ∀ j, r j = r' j) (i k : Nat) : Ob.lexAt e r z i k = Ob.lexAt e' r' z i k := by
  rw [show e = e' from funext he, show r = r' from funext hr]
theorem ltD_cases {x y : D} {b : Bool} (h : ltD x y = some b) : (∃ i j, x = .int i ∧ y = .int j ∧ b = decide (i < j)) ∨ (∃ p q, x = .str p ∧ y = .str q ∧ b = strLt p q) ∨ ∃ xs ys, x = .tuple xs ∧ y = .tuple ys ∧ flatAll xs ys = true ∧ b = ltL xs ys := by
  cases x with
  | int i => cases y with
    | int j => cases h; exact .inl ⟨i, j, rfl, rfl, rfl⟩
    | _ => cases h
  | str p => cases y with
    | str q => cases h; exact .inr (.inl ⟨p, q, rfl, rfl, rfl⟩)
    | _ => cases h
  | tuple xs => cases y with
    | tuple ys =>
      have h' : (if flatAll xs ys = true then some (ltL xs ys) else none) = some b := h
      by_cases f : flatAll xs ys = true
      · rw [if_pos f] at h'; cases h'; exact .inr (.inr ⟨xs, ys, rfl, rfl, f, rfl⟩)
      · rw [if_neg f] at h'; cases h'
    | _ => cases h
  | _ => cases y <;> cases h
theorem map_bool {o : Option Bool} {g : Bool → Bool} {d : D} (h : (o.map g).map PyData.bool = some d) : ∃ b, o = some b ∧ d = .bool (g b) := by
  cases o with
  | none => cases h
  | some b => cases h; exact ⟨b, rfl, rfl⟩
theorem map_bool0 {o : Option Bool} {d : D} (h : o.map PyData.bool = some d) : ∃ b, o = some b ∧ d = .bool b := by
  cases o with
  | none => cases h
  | some b => cases h; exact ⟨b, rfl, rfl⟩
theorem op_ltB (hu : X.A.units + 64 < cLine) : OpR X (compareOp .Lt) (rD X.K (bD (opCmp .lt)) false) := by
  intro pins s σ H x y v u Q I rx ry h
  obtain ⟨N, dx, dy, d, hN, r1, r2, e, q⟩ := h
  obtain ⟨b, e2, rfl⟩ := map_bool0 e
  rcases ltD_cases e2 with ⟨i, j, rfl, rfl, rfl⟩ | ⟨i, j, rfl, rfl, rfl⟩ | ⟨xs, ys, rfl, rfl, f, rfl⟩
  · rw [r1.int_inv] at rx; rw [r2.int_inv] at ry
    exact op_lt pins s σ H _ _ v u Q I rx ry ⟨i, j, rfl, rfl, q _ H Keep.refl (.bl _) (fun z => nomatch z)⟩
  · rw [r1.str_inv.1] at rx; rw [r2.str_inv.1] at ry
    exact op_lt_str pins s σ H _ _ v u Q I rx ry ⟨i, j, rfl, rfl, q _ H Keep.refl (.bl _) (fun z => nomatch z)⟩
  · refine tup_ord (k := true) hu I rx ry r1 r2 (.inl f) atom_lt fun p1 p2 he hr n1 n2 ee er => Ob.RcOp.tuples_lt p1 p2 (by omega) he hr _ _ _ _ ?_
    rw [lexAt_eq ee er, n1, n2, lexAt_cmp xs ys _ 0 (Nat.sub_zero _) (Nat.zero_le _), List.drop_zero, List.drop_zero, cmpL_lt xs ys _ rfl]
    exact rep_bl I N q
theorem op_gtB (hu : X.A.units + 64 < cLine) : OpR X (compareOp .Gt) (rD X.K (bD (opCmp .gt)) false) := by
  intro pins s σ H x y v u Q I rx ry h
  obtain ⟨N, dx, dy, d, hN, r1, r2, e, q⟩ := h
  obtain ⟨b, e2, rfl⟩ := map_bool0 e
  rcases ltD_cases e2 with ⟨j, i, rfl, rfl, rfl⟩ | ⟨j, i, rfl, rfl, rfl⟩ | ⟨ys, xs, rfl, rfl, f, rfl⟩
  · rw [r1.int_inv] at rx; rw [r2.int_inv] at ry
    exact op_gt pins s σ H _ _ v u Q I rx ry ⟨i, j, rfl, rfl, q _ H Keep.refl (.bl _) (fun z => nomatch z)⟩
  · rw [r1.str_inv.1] at rx; rw [r2.str_inv.1] at ry
    exact op_gt_str pins s σ H _ _ v u Q I rx ry ⟨i, j, rfl, rfl, q _ H Keep.refl (.bl _) (fun z => nomatch z)⟩
  · refine tup_ord (k := true) hu I rx ry r1 r2 (.inr f) atom_gt fun p1 p2 he hr n1 n2 ee er => Ob.RcOp.tuples_gt p1 p2 (by omega) he hr _ _ _ _ ?_
    rw [lexAt_eq ee er, n1, n2, lexAt_cmp (op := fun a b => atomLt b a) xs ys _ 0 (Nat.sub_zero _) (Nat.zero_le _), List.drop_zero, List.drop_zero, cmpL_gt xs ys _ rfl f]
    exact rep_bl I N q
theorem op_leB (hu : X.A.units + 64 < cLine) : OpR X (compareOp .LtE) (rD X.K (bD (opCmp .le)) false) := by
  intro pins s σ H x y v u Q I rx ry h
  obtain ⟨N, dx, dy, d, hN, r1, r2, e, q⟩ := h
  obtain ⟨b, e2, rfl⟩ := map_bool (g := (!·)) e
  rcases ltD_cases e2 with ⟨j, i, rfl, rfl, rfl⟩ | ⟨j, i, rfl, rfl, rfl⟩ | ⟨ys, xs, rfl, rfl, f, rfl⟩
  · rw [r1.int_inv] at rx; rw [r2.int_inv] at ry
    rw [not_lt_int] at q
    exact op_le pins s σ H _ _ v u Q I rx ry ⟨i, j, rfl, rfl, q _ H Keep.refl (.bl _) (fun z => nomatch z)⟩
  · rw [r1.str_inv.1] at rx; rw [r2.str_inv.1] at ry
    exact op_le_str pins s σ H _ _ v u Q I rx ry ⟨i, j, rfl, rfl, q _ H Keep.refl (.bl _) (fun z => nomatch z)⟩
  · refine tup_ord (k := true) hu I rx ry r1 r2 (.inr f) atom_le fun p1 p2 he hr n1 n2 ee er => Ob.RcOp.tuples_le p1 p2 (by omega) he hr _ _ _ _ ?_
    rw [lexAt_eq ee er, n1, n2, lexAt_cmp (op := fun a b => !atomLt b a) xs ys _ 0 (Nat.sub_zero _) (Nat.zero_le _), List.drop_zero, List.drop_zero, cmpL_le xs ys _ rfl f]
    exact rep_bl I N q
theorem op_geB (hu : X.A.units + 64 < cLine) : OpR X (compareOp .GtE) (rD X.K (bD (opCmp .ge)) false) := by
  intro pins s σ H x y v u Q I rx ry h
  obtain ⟨N, dx, dy, d, hN, r1, r2, e, q⟩ := h
  obtain ⟨b, e2, rfl⟩ := map_bool (g := (!·)) e
  rcases ltD_cases e2 with ⟨i, j, rfl, rfl, rfl⟩ | ⟨i, j, rfl, rfl, rfl⟩ | ⟨xs, ys, rfl, rfl, f, rfl⟩
  · rw [r1.int_inv] at rx; rw [r2.int_inv] at ry
    rw [not_lt_int] at q
    exact op_ge pins s σ H _ _ v u Q I rx ry ⟨i, j, rfl, rfl, q _ H Keep.refl (.bl _) (fun z => nomatch z)⟩
  · rw [r1.str_inv.1] at rx; rw [r2.str_inv.1] at ry
    exact op_ge_str pins s σ H _ _ v u Q I rx ry ⟨i, j, rfl, rfl, q _ H Keep.refl (.bl _) (fun z => nomatch z)⟩
  · refine tup_ord (k := true) hu I rx ry r1 r2 (.inl f) atom_ge fun p1 p2 he hr n1 n2 ee er => Ob.RcOp.tuples_ge p1 p2 (by omega) he hr _ _ _ _ ?_
    rw [lexAt_eq ee er, n1, n2, lexAt_cmp (op := fun a b => !atomLt a b) xs ys _ 0 (Nat.sub_zero _) (Nat.zero_le _), List.drop_zero, List.drop_zero, cmpL_ge xs ys _ rfl]
    exact rep_bl I N q
end
end BV
set_option Elab.async false
set_option linter.all false
set_option maxRecDepth 100000
set_option maxHeartbeats 2000000
/-! BV7: identity, membership, places, slices. -/
namespace BV
open PySem PySem.Spec L2
open PyProof.Rows hiding St
open PyProof.Rows (slot_tuple_getitem)

section
variable {X : Cx}
/-! ### is -/
theorem is_bool_at {K : PySem.W.Frag} {N : Addr → Prop} {H : Hp} {x : V} {v : Value} {d : D} (r : RepT K N H x d) (rx : RelV x v) (b : Bool) : plainIs v (.bool b) = true ∧ ((v == Value.bool b) = isBl b d) := by
  have key : ∀ {x : V} {d : D}, Rep K N H x d → ∀ v, RelV x v → plainIs v (.bool b) = true ∧ ((v == Value.bool b) = isBl b d) := fun {x d} r v rx => by
    cases r with
    | non => cases rx; exact ⟨rfl, rfl⟩
    | bl c =>
      cases rx
      refine ⟨rfl, ?_⟩
      show (Value.bool c == Value.bool b) = (b == c)
      cases b <;> cases c <;> rfl
    | int i => obtain ⟨t, rfl⟩ := rx; exact ⟨rfl, rfl⟩
    | str z _ => obtain ⟨t, rfl⟩ := rx; exact ⟨rfl, rfl⟩
    | lst => cases rx; exact ⟨rfl, rfl⟩
    | tup => cases rx; exact ⟨rfl, rfl⟩
    | dct => cases rx; exact ⟨rfl, rfl⟩
  cases r with
  | rep h => exact key h v rx
  | lst => cases rx; exact ⟨rfl, rfl⟩
theorem is_none_at {K : PySem.W.Frag} {N : Addr → Prop} {H : Hp} {x : V} {d : D} (r : RepT K N H x d) : decide (x = .non) = isNone d := by
  have key : ∀ {x : V} {d : D}, Rep K N H x d → decide (x = .non) = isNone d := fun {x d} r => by
    cases r <;> rfl
  cases r with
  | rep h => exact key h
  | lst => rfl
theorem is_cases {neg : Bool} {x y : D} {d : D} (h : ((if neg then opCmp .isnot x y else opCmp .is x y).map PyData.bool) = some d) :
    (y = .none ∧ d = .bool (if neg then !isNone x else isNone x)) ∨ ∃ b, y = .bool b ∧ d = .bool (if neg then !isBl b x else isBl b x) := by
  cases neg <;> cases y <;> first | (cases h; exact .inl ⟨rfl, rfl⟩) | (cases h; exact .inr ⟨_, rfl, rfl⟩) | cases h
theorem op_isB : OpR X (compareOp .Is) (rD X.K (bD (opCmp .is)) false) := by
  intro pins s σ H x y v u Q I rx ry h
  obtain ⟨N, dx, dy, d, hN, r1, r2, e, q⟩ := h
  rcases is_cases (neg := false) e with ⟨rfl, rfl⟩ | ⟨b, rfl, rfl⟩
  · rw [r2.none_inv] at ry
    refine op_isN pins s σ H x _ v u Q I rx ry ⟨rfl, ?_⟩
    rw [is_none_at r1]
    exact q _ H Keep.refl (.bl _) (fun z => nomatch z)
  · rw [r2.bool_inv] at ry
    cases ry
    obtain ⟨h1, h2⟩ := is_bool_at r1 rx b
    refine wpAny_is_plain h1 ?_
    rw [h2]
    exact rep_bl I N q
theorem op_isnotB : OpR X (compareOp .IsNot) (rD X.K (bD (opCmp .isnot)) false) := by
  intro pins s σ H x y v u Q I rx ry h
  obtain ⟨N, dx, dy, d, hN, r1, r2, e, q⟩ := h
  rcases is_cases (neg := true) e with ⟨rfl, rfl⟩ | ⟨b, rfl, rfl⟩
  · rw [r2.none_inv] at ry
    refine op_notN pins s σ H x _ v u Q I rx ry ⟨rfl, ?_⟩
    rw [is_none_at r1]
    exact q _ H Keep.refl (.bl _) (fun z => nomatch z)
  · rw [r2.bool_inv] at ry
    cases ry
    obtain ⟨h1, h2⟩ := is_bool_at r1 rx b
    refine wpAny_isNot_plain h1 ?_
    rw [h2]
    exact rep_bl I N q

/-! ### in -/
theorem mem_cases {x y : D} {b : Bool} (h : opMem x y = some b) : (∃ ys, (y = .list ys ∨ y = .tuple ys) ∧ (noDict x = true ∧ noDicts ys = true) ∧ min (PyData.depthAll ys) x.depth ≤ 64 ∧ b = ys.any fun z => PyData.eqv z x) ∨
    (∃ w z, x = .str w ∧ y = .str z ∧ b = !(Builtin.Str.occurrences z w 0 z.length 1).isEmpty) := by
  cases y with
  | list ys =>
    have h' : (if (noDict x && noDicts ys && decide (min (PyData.depthAll ys) x.depth ≤ 64)) = true then some (ys.any fun z => PyData.eqv z x) else none) = some b := h
    by_cases c : (noDict x && noDicts ys && decide (min (PyData.depthAll ys) x.depth ≤ 64)) = true
    · rw [if_pos c] at h'
      cases h'
      exact .inl ⟨ys, .inl rfl, Bool.and_eq_true_iff.mp (Bool.and_eq_true_iff.mp c).1, of_decide_eq_true (Bool.and_eq_true_iff.mp c).2, rfl⟩
    · rw [if_neg c] at h'; cases h'
  | tuple ys =>
    have h' : (if (noDict x && noDicts ys && decide (min (PyData.depthAll ys) x.depth ≤ 64)) = true then some (ys.any fun z => PyData.eqv z x) else none) = some b := h
    by_cases c : (noDict x && noDicts ys && decide (min (PyData.depthAll ys) x.depth ≤ 64)) = true
    · rw [if_pos c] at h'
      cases h'
      exact .inl ⟨ys, .inr rfl, Bool.and_eq_true_iff.mp (Bool.and_eq_true_iff.mp c).1, of_decide_eq_true (Bool.and_eq_true_iff.mp c).2, rfl⟩
    · rw [if_neg c] at h'; cases h'
  | str z =>
    cases x with
    | str w => cases h; exact .inr ⟨w, z, rfl, rfl, rfl⟩
    | _ => cases h
  | _ => cases h
theorem op_memB (hu : X.A.units + 70 < cLine) : OpR X (compareOp .In) (rD X.K (bD (opCmp .mem)) false) := by
  intro pins s σ H x y v u Q I rx ry h
  obtain ⟨N, dx, dy, d, hN, r1, r2, e, q⟩ := h
  obtain ⟨b, e2, rfl⟩ := map_bool0 e
  rcases mem_cases e2 with ⟨ys, hy, ⟨n1, n2⟩, hd, rfl⟩ | ⟨w, z, rfl, rfl, rfl⟩
  · have n3 : noDict dy = true := by rcases hy with rfl | rfl <;> simpa only [noDict] using n2
    obtain ⟨as, h1⟩ := Dp.reads I dx x v (r1.dp n1) rx
    obtain ⟨bs, h2⟩ := Dp.reads I dy y u (r2.dp n3) ry
    have l2 := r2.lay n3
    rcases hy with rfl | rfl
    · exact SeqAt.in_list_reads h2 h1 (by simpa [PyData.canLay0] using l2) (r1.lay n1) (by omega) (rep_bl I N q)
    · exact SeqAt.in_tuple_reads h2 h1 (by simpa [PyData.canLay0] using l2) (r1.lay n1) (by omega) (rep_bl I N q)
  · rw [r1.str_inv.1] at rx; rw [r2.str_inv.1] at ry
    exact op_in_str pins s σ H _ _ v u Q I rx ry ⟨w, z, rfl, rfl, q _ H Keep.refl (.bl _) (fun z => nomatch z)⟩
theorem op_notinB (hu : X.A.units + 70 < cLine) : OpR X (compareOp .NotIn) (rD X.K (bD (opCmp .notin)) false) := by
  intro pins s σ H x y v u Q I rx ry h
  obtain ⟨N, dx, dy, d, hN, r1, r2, e, q⟩ := h
  obtain ⟨b, e2, rfl⟩ := map_bool (g := (!·)) e
  rcases mem_cases e2 with ⟨ys, hy, ⟨n1, n2⟩, hd, rfl⟩ | ⟨w, z, rfl, rfl, rfl⟩
  · have n3 : noDict dy = true := by rcases hy with rfl | rfl <;> simpa only [noDict] using n2
    obtain ⟨as, h1⟩ := Dp.reads I dx x v (r1.dp n1) rx
    obtain ⟨bs, h2⟩ := Dp.reads I dy y u (r2.dp n3) ry
    have l2 := r2.lay n3
    rcases hy with rfl | rfl
    · exact SeqAt.notIn_list_reads h2 h1 (by simpa [PyData.canLay0] using l2) (r1.lay n1) (by omega) (rep_bl I N q)
    · exact SeqAt.notIn_tuple_reads h2 h1 (by simpa [PyData.canLay0] using l2) (r1.lay n1) (by omega) (rep_bl I N q)
  · rw [r1.str_inv.1] at rx; rw [r2.str_inv.1] at ry
    exact op_notin_str pins s σ H _ _ v u Q I rx ry ⟨w, z, rfl, rfl, q _ H Keep.refl (.bl _) (fun z => nomatch z)⟩
def COp.ast : COp → CmpOp
  | .eq => .Eq
  | .ne => .NotEq
  | .lt => .Lt
  | .le => .LtE
  | .gt => .Gt
  | .ge => .GtE
  | .is => .Is
  | .isnot => .IsNot
  | .mem => .In
  | .notin => .NotIn
theorem op_cmpB (hu : X.A.units + 70 < cLine) : ∀ o : COp, OpR X (compareOp o.ast) (rD X.K (bD (opCmp o)) false)
  | .eq => op_eqB (by omega)
  | .ne => op_neB (by omega)
  | .lt => op_ltB (by omega)
  | .le => op_leB (by omega)
  | .gt => op_gtB (by omega)
  | .ge => op_geB (by omega)
  | .is => op_isB
  | .isnot => op_isnotB
  | .mem => op_memB hu
  | .notin => op_notinB hu

/-! ### places -/
theorem atIx_eq (n : Nat) (i : Int) : atIx n i = ixN n i := rfl
theorem atIx_lt {n : Nat} {i : Int} {k : Nat} (h : atIx n i = some k) : k < n := (ixN_seq h).2.1
theorem ix_D : IxR X (rD X.K opIdx false) := by
  intro value slice pins s σ H x y v u Q I rx ry h hs
  obtain ⟨N, dx, dy, d, hN, r1, r2, e, q⟩ := h
  cases dy with
  | int i =>
    rw [r2.int_inv] at ry
    cases dx with
    | list ds =>
      obtain ⟨a, xs, e1, h1, ra⟩ := r1.list_inv
      rw [e1] at rx
      have e' : ((atIx ds.length i).bind fun k => ds[k]?) = some d := e
      cases hk : atIx ds.length i with
      | none => rw [hk] at e'; cases e'
      | some k =>
        rw [hk] at e'
        obtain ⟨w, hw, rw_⟩ := ra.get (show ds[k]? = some d from e')
        refine ix_list value slice pins s σ H _ _ v u Q I rx ry ⟨a, xs, i, w, rfl, rfl, .inl h1, ?_, q w H Keep.refl rw_ (fun z => nomatch z)⟩ hs
        unfold atI
        rw [ra.length, ← atIx_eq, hk]
        exact hw
    | tuple ds =>
      obtain ⟨a, xs, e1, h1, _, ra⟩ := r1.tup_inv
      rw [e1] at rx
      have e' : ((atIx ds.length i).bind fun k => ds[k]?) = some d := e
      cases hk : atIx ds.length i with
      | none => rw [hk] at e'; cases e'
      | some k =>
        rw [hk] at e'
        obtain ⟨w, hw, rw_⟩ := ra.get (show ds[k]? = some d from e')
        refine ix_tup value slice pins s σ H _ _ v u Q I rx ry ⟨a, xs, i, w, rfl, rfl, h1, ?_, q w H Keep.refl rw_ (fun z => nomatch z)⟩ hs
        unfold atI
        rw [ra.length, ← atIx_eq, hk]
        exact hw
    | str z =>
      obtain ⟨e1, g⟩ := r1.str_inv
      rw [e1] at rx
      have e' : ((atIx z.length i).bind fun k => z.cps[k]?.map fun c => PyData.str ⟨#[c]⟩) = some d := e
      cases hk : atIx z.length i with
      | none => rw [hk] at e'; cases e'
      | some k =>
        rw [hk] at e'
        have e2 : (z.cps[k]?.map fun c => PyData.str ⟨#[c]⟩) = some d := e'
        cases hc : z.cps[k]? with
        | none => rw [hc] at e2; cases e2
        | some c =>
          rw [hc] at e2
          cases e2
          have hlt : c < 0x110000 := by
            have h1 := g.ok
            unfold PyData.strOk at h1
            rw [Array.all_eq_true] at h1
            obtain ⟨hk', rfl⟩ := Array.getElem?_eq_some_iff.mp hc
            exact of_decide_eq_true (h1 k hk')
          have g1 : strG ⟨#[c]⟩ := by
            refine Bool.and_eq_true_iff.mpr ⟨?_, show Nat.ble 1 LIM = true from by decide⟩
            show (#[c].all fun c => decide (c < 0x110000)) = true
            simp [hlt]
          refine ix_str value slice pins s σ H _ _ v u Q I rx ry ⟨z, i, c, rfl, rfl, by rw [sizeLine_eq]; exact g.len, ?_, q _ H Keep.refl (.str _ g1) (fun z => nomatch z)⟩ hs
          unfold atI
          rw [show z.cps.toList.length = z.length by simp [Str.length], ← atIx_eq, hk]
          simpa using hc
    | _ => cases e
  | _ => cases dx <;> cases e
end
end BV
set_option Elab.async false
set_option linter.all false
set_option maxRecDepth 100000
set_option maxHeartbeats 2000000
/-! BV8: the operators' judgements; truth, and, or, not, if; slices. -/
namespace BV
open PySem PySem.Spec L2
open PyProof.Rows hiding St

/-- an expression whose test is its value's truth -/
def plainT : Expr → Bool
  | .UnaryOp .Not _ _ => false
  | .BoolOp _ _ _ => false
  | .IfExp _ _ _ _ => false
  | .Compare _ _ _ _ => false
  | _ => true
theorem plainT_is {e : Expr} {env : PySem.Env} (h : plainT e = true) (whole : Sem Value) : PySem.isTrue e env whole = (do let v ← whole; standAt e.pos; holding [v] (PySem.truthy v)) := by
  cases e with
  | UnaryOp op _ _ => cases op <;> first | rfl | cases h
  | BoolOp => cases h
  | IfExp => cases h
  | Compare => cases h
  | _ => rfl
/-- what stands as an index -/
def plainIxB : Expr → Bool
  | .Slice _ _ _ _ => false
  | .Tuple _ _ _ => false
  | .Name _ _ => true
  | .Constant _ _ _ => true
  | .BinOp _ _ _ _ => true
  | .UnaryOp _ _ _ => true
  | .Call _ _ _ _ => true
  | .Subscript _ _ _ => true
  | .IfExp _ _ _ _ => true
  | _ => false
theorem plainIx_is {b : Expr} (h : plainIxB b = true) : PlainIx b := by
  cases b <;> first | (cases h; done) | (intro o i; rfl)
section
variable {X : Cx} {XD : XP} {W : WX} {Γ : List Sh} {a b c e : Expr} {ma mb mc : Ev → Out D} {pos : Pos} {ba bb bc fa fb fc qa qb qc : Bool}
theorem ve_bin {o : BOp} {op : Operator} (ho : op = o.ast) (ha : VE X XD W Γ a ba fa qa ma) (hb : VE X XD W Γ b bb fb qb mb) (hq : ba = true → qb = true) :
    VE X XD W Γ (.BinOp a op b pos) bc false (qa && qb) (fun ρ => (ma ρ).bind fun x ρ => (mb ρ).bind fun y ρ => Out.lift (opBin o x y) ρ) := by
  subst ho
  exact ve_two (t := rD X.K (opBin o) false) (fun ta tb h1 h2 => pe_op (op_binD o) h1 h2) (fun _ _ _ _ z => z) ha hb hq
theorem ve_cmp {o : COp} {op : CmpOp} (hu : X.A.units + 70 < cLine) (ho : op = o.ast) (ha : VE X XD W Γ a ba fa qa ma) (hb : VE X XD W Γ b bb fb qb mb) (hq : ba = true → qb = true) (hm : behindInMarks op b = false) :
    VE X XD W Γ (.Compare a [op] [b] pos) bc false (qa && qb) (fun ρ => (ma ρ).bind fun x ρ => (mb ρ).bind fun y ρ => Out.lift ((opCmp o x y).map PyData.bool) ρ) := by
  subst ho
  exact ve_two (t := rD X.K (bD (opCmp o)) false) (fun ta tb h1 h2 => pe_cmpR (op_cmpB hu o) h1 h2 hm) (fun _ _ _ _ z => z) ha hb hq
theorem vt_cmp {o : COp} {op : CmpOp} (hu : X.A.units + 70 < cLine) (ho : op = o.ast) (ha : VE X XD W Γ a ba fa qa ma) (hb : VE X XD W Γ b bb fb qb mb) (hq : ba = true → qb = true) (hm : behindInMarks op b = false) :
    VT X XD W Γ (.Compare a [op] [b] pos) (qa && qb) (fun ρ => (ma ρ).bind fun x ρ => (mb ρ).bind fun y ρ => Out.lift ((opCmp o x y).map PyData.bool) ρ) := by
  subst ho
  refine ⟨fun Z fx O hx => PTimp (pt_cmpR (op_cmpB hu o) (ha.pe Z fx O hx) (hb.pe Z fx O hx) hm) fun σ H Q h => ?_⟩
  obtain ⟨ρ, S, h⟩ := h
  dsimp only at h
  rw [Out.Post.bind] at h
  refine ⟨ρ, S, h.mono (fun d ρ1 h1 v H1 S1 k1 q1 r1 _ => ?_) fun _ _ z => z⟩
  rw [Out.Post.bind] at h1
  refine ⟨ρ1, S1, h1.mono (fun d2 ρ2 h2 v2 H2 S2 k2 q2 r2 _ => ?_) fun x ρ2 z cls dd H2 S2 k2 => z cls dd H2 S2 (k1.trans k2)⟩
  cases e : opCmp o d d2 with
  | none => rw [e] at h2; exact h2.elim
  | some r =>
    rw [e] at h2
    refine ⟨NN Z O, d, d2, .bool r, S2.trk, r1.carry k2 oo_nn (fun z => q2 (hq z)), r2.toT, congrArg (Option.map PyData.bool) e, fun w H3 k3 r3 f3 => ?_⟩
    refine ⟨r, (RepT.rep r3).bool_inv, ?_⟩
    exact h2 H3 (S2.keep k3) ((k1.trans k2).trans k3.all) (fun z => ((q1 (Bool.and_eq_true_iff.mp z).1).trans (q2 (Bool.and_eq_true_iff.mp z).2)).trans k3)
theorem ve_idx (ha : VE X XD W Γ a ba fa qa ma) (hb : VE X XD W Γ b bb fb qb mb) (hq : ba = true → qb = true) (hs : plainIxB b = true) :
    VE X XD W Γ (.Subscript a b pos) bc false (qa && qb) (fun ρ => (ma ρ).bind fun x ρ => (mb ρ).bind fun y ρ => Out.lift (opIdx x y) ρ) :=
  ve_two (t := rD X.K opIdx false) (fun ta tb h1 h2 => pe_ix ix_D h1 h2 (plainIx_is hs)) (fun _ _ _ _ z => z) ha hb hq

/-! ### tests -/
theorem vt_of (h : VE X XD W Γ e ba fa qa ma) (hp : plainT e = true) : VT X XD W Γ e qa ma := by
  refine ⟨fun Z fx O hx => PTimp (pt_truth (h.pe Z fx O hx) (plainT_is hp)) fun σ H Q h => ?_⟩
  obtain ⟨ρ, S, h⟩ := h
  refine ⟨ρ, S, h.mono (fun d ρ1 h1 v H1 S1 k1 q1 r1 _ => ?_) fun _ _ z => z⟩
  exact ⟨_, tru_of r1.toT, h1 H1 S1 k1 q1⟩
theorem ve_not (ha : VE X XD W Γ a ba fa qa ma) : VE X XD W Γ (.UnaryOp .Not a pos) bc false qa (fun ρ => (ma ρ).bind fun x ρ => .ok (.bool (!tru x)) ρ) := by
  refine ⟨fun Z fx O hx => PEimp (pe_notT (ha.pe Z fx O hx)) fun σ H Q h => ?_⟩
  obtain ⟨ρ, S, h⟩ := h
  dsimp only at h
  rw [Out.Post.bind] at h
  refine ⟨ρ, S, h.mono (fun d ρ1 h1 v H1 S1 k1 q1 r1 _ => ?_) fun _ _ z => z⟩
  refine ⟨_, tru_of r1.toT, h1 _ H1 S1 k1 q1 ?_ (fun z => nomatch z)⟩
  cases bc with
  | true => exact .rep (.bl _)
  | false => exact .bl _
theorem vt_not (ha : VT X XD W Γ a qa ma) : VT X XD W Γ (.UnaryOp .Not a pos) qa (fun ρ => (ma ρ).bind fun x ρ => .ok (.bool (!tru x)) ρ) := by
  refine ⟨fun Z fx O hx => PTimp (pt_not (ha.pt Z fx O hx)) fun σ H Q h => ?_⟩
  obtain ⟨ρ, S, h⟩ := h
  dsimp only at h
  rw [Out.Post.bind] at h
  exact ⟨ρ, S, h.mono (fun d ρ1 h1 H1 S1 k1 q1 => h1 H1 S1 k1 q1) fun _ _ z => z⟩
/-- tests whatever their whole is -/
structure VW (X : Cx) (XD : XP) (W : WX) (Γ : List Sh) (e : Expr) (q : Bool) (m : Ev → Out D) : Prop where
  pw : ∀ Z fx O, HX X XD fx → PW X e (tT X.K Z Γ fx O XD W q m)
theorem PWimp {X : Cx} {e : Expr} {t t' : TT} (h : PW X e t) (i : ∀ σ H Q, t' σ H Q → t σ H Q) : PW X e t' := ⟨fun wh pins s σ H Q I q => h.run wh pins s σ H Q I (i σ H Q q)⟩
theorem VW.vt (h : VW X XD W Γ e qa ma) : VT X XD W Γ e qa ma := ⟨fun Z fx O hx => (h.pw Z fx O hx).pt⟩
theorem vw_and1 (ha : VT X XD W Γ a qa ma) : VW X XD W Γ (.BoolOp .And [a] pos) qa ma := ⟨fun Z fx O hx => pw_and1 (ha.pt Z fx O hx)⟩
theorem vw_or1 (ha : VT X XD W Γ a qa ma) : VW X XD W Γ (.BoolOp .Or [a] pos) qa ma := ⟨fun Z fx O hx => pw_or1 (ha.pt Z fx O hx)⟩
theorem vw_and {rest : List Expr} (ha : VT X XD W Γ a qa ma) (hb : VW X XD W Γ (.BoolOp .And (b :: rest) pos) qb mb) :
    VW X XD W Γ (.BoolOp .And (a :: b :: rest) pos) (qa && qb) (fun ρ => (ma ρ).bind fun x ρ => if tru x = true then mb ρ else .ok x ρ) := by
  refine ⟨fun Z fx O hx => PWimp (pw_and (ha.pt Z fx O hx) (hb.pw Z fx O hx)) fun σ H Q h => ?_⟩
  obtain ⟨ρ, S, h⟩ := h
  dsimp only at h
  rw [Out.Post.bind] at h
  refine ⟨ρ, S, h.mono (fun d ρ1 h1 H1 S1 k1 q1 => ?_) fun _ _ z => z⟩
  dsimp only
  by_cases c : tru d = true
  · rw [if_pos c]
    rw [if_pos c] at h1
    exact ⟨ρ1, S1, h1.mono (fun d2 ρ2 h2 H2 S2 k2 q2 => h2 H2 S2 (k1.trans k2) fun z => (q1 (Bool.and_eq_true_iff.mp z).1).trans (q2 (Bool.and_eq_true_iff.mp z).2)) fun x ρ2 z cls dd H2 S2 k2 => z cls dd H2 S2 (k1.trans k2)⟩
  · rw [if_neg c]
    rw [if_neg c] at h1
    have h2 := h1 H1 S1 k1 fun z => q1 (Bool.and_eq_true_iff.mp z).1
    rwa [show tru d = false by simpa using c] at h2
theorem vw_or {rest : List Expr} (ha : VT X XD W Γ a qa ma) (hb : VW X XD W Γ (.BoolOp .Or (b :: rest) pos) qb mb) :
    VW X XD W Γ (.BoolOp .Or (a :: b :: rest) pos) (qa && qb) (fun ρ => (ma ρ).bind fun x ρ => if tru x = true then .ok x ρ else mb ρ) := by
  refine ⟨fun Z fx O hx => PWimp (pw_or (ha.pt Z fx O hx) (hb.pw Z fx O hx)) fun σ H Q h => ?_⟩
  obtain ⟨ρ, S, h⟩ := h
  dsimp only at h
  rw [Out.Post.bind] at h
  refine ⟨ρ, S, h.mono (fun d ρ1 h1 H1 S1 k1 q1 => ?_) fun _ _ z => z⟩
  dsimp only
  by_cases c : tru d = true
  · rw [if_pos c]
    rw [if_pos c] at h1
    have h2 := h1 H1 S1 k1 fun z => q1 (Bool.and_eq_true_iff.mp z).1
    rwa [c] at h2
  · rw [if_neg c]
    rw [if_neg c] at h1
    exact ⟨ρ1, S1, h1.mono (fun d2 ρ2 h2 H2 S2 k2 q2 => h2 H2 S2 (k1.trans k2) fun z => (q1 (Bool.and_eq_true_iff.mp z).1).trans (q2 (Bool.and_eq_true_iff.mp z).2)) fun x ρ2 z cls dd H2 S2 k2 => z cls dd H2 S2 (k1.trans k2)⟩
/-! as values -/
theorem ve_one {op : BoolOp} (ha : VE X XD W Γ a ba fa qa ma) : VE X XD W Γ (.BoolOp op [a] pos) ba fa qa ma := ⟨fun Z fx O hx => pe_one (ha.pe Z fx O hx)⟩
theorem VE.nofresh (ha : VE X XD W Γ a ba fa qa ma) : VE X XD W Γ a ba false qa ma := ⟨fun Z fx O hx => PEimp (ha.pe Z fx O hx) fun σ H Q ⟨ρ, S, h⟩ => ⟨ρ, S, h.mono (fun d ρ1 h1 v H1 S1 k1 q1 r1 _ => h1 v H1 S1 k1 q1 r1 (fun z => nomatch z)) fun _ _ z => z⟩⟩
theorem VE.borrow (ha : VE X XD W Γ a false fa qa ma) : VE X XD W Γ a ba fa qa ma := ⟨fun Z fx O hx => PEimp (ha.pe Z fx O hx) fun σ H Q ⟨ρ, S, h⟩ => ⟨ρ, S, h.mono (fun d ρ1 h1 v H1 S1 k1 q1 r1 f1 => h1 v H1 S1 k1 q1 (by
  cases ba with
  | true => exact .rep r1
  | false => exact r1) f1) fun _ _ z => z⟩⟩
theorem ve_and {rest : List Expr} (ha : VE X XD W Γ a false fa qa ma) (hb : VE X XD W Γ (.BoolOp .And (b :: rest) pos) false fb qb mb) :
    VE X XD W Γ (.BoolOp .And (a :: b :: rest) pos) false false (qa && qb) (fun ρ => (ma ρ).bind fun x ρ => if tru x = true then mb ρ else .ok x ρ) := by
  refine ⟨fun Z fx O hx => PEimp (pe_andT (ha.pe Z fx O hx) (hb.pe Z fx O hx)) fun σ H Q h => ?_⟩
  obtain ⟨ρ, S, h⟩ := h
  dsimp only at h
  rw [Out.Post.bind] at h
  refine ⟨ρ, S, h.mono (fun d ρ1 h1 v H1 S1 k1 q1 r1 _ => ?_) fun _ _ z => z⟩
  refine ⟨_, tru_of (RepM.toT (b := false) r1), ?_⟩
  by_cases c : tru d = true
  · rw [if_pos c]
    rw [if_pos c] at h1
    exact ⟨ρ1, S1, h1.mono (fun d2 ρ2 h2 v2 H2 S2 k2 q2 r2 _ => h2 v2 H2 S2 (k1.trans k2) (fun z => (q1 (Bool.and_eq_true_iff.mp z).1).trans (q2 (Bool.and_eq_true_iff.mp z).2)) r2 (fun z => nomatch z)) fun x ρ2 z cls dd H2 S2 k2 => z cls dd H2 S2 (k1.trans k2)⟩
  · rw [if_neg c]
    rw [if_neg c] at h1
    exact h1 v H1 S1 k1 (fun z => q1 (Bool.and_eq_true_iff.mp z).1) r1 (fun z => nomatch z)
theorem ve_or {rest : List Expr} (ha : VE X XD W Γ a false fa qa ma) (hb : VE X XD W Γ (.BoolOp .Or (b :: rest) pos) false fb qb mb) :
    VE X XD W Γ (.BoolOp .Or (a :: b :: rest) pos) false false (qa && qb) (fun ρ => (ma ρ).bind fun x ρ => if tru x = true then .ok x ρ else mb ρ) := by
  refine ⟨fun Z fx O hx => PEimp (pe_orT (ha.pe Z fx O hx) (hb.pe Z fx O hx)) fun σ H Q h => ?_⟩
  obtain ⟨ρ, S, h⟩ := h
  dsimp only at h
  rw [Out.Post.bind] at h
  refine ⟨ρ, S, h.mono (fun d ρ1 h1 v H1 S1 k1 q1 r1 _ => ?_) fun _ _ z => z⟩
  refine ⟨_, tru_of (RepM.toT (b := false) r1), ?_⟩
  by_cases c : tru d = true
  · rw [if_pos c]
    rw [if_pos c] at h1
    exact h1 v H1 S1 k1 (fun z => q1 (Bool.and_eq_true_iff.mp z).1) r1 (fun z => nomatch z)
  · rw [if_neg c]
    rw [if_neg c] at h1
    exact ⟨ρ1, S1, h1.mono (fun d2 ρ2 h2 v2 H2 S2 k2 q2 r2 _ => h2 v2 H2 S2 (k1.trans k2) (fun z => (q1 (Bool.and_eq_true_iff.mp z).1).trans (q2 (Bool.and_eq_true_iff.mp z).2)) r2 (fun z => nomatch z)) fun x ρ2 z cls dd H2 S2 k2 => z cls dd H2 S2 (k1.trans k2)⟩
theorem ve_ife (hc : VT X XD W Γ c qc mc) (ha : VE X XD W Γ a bc fa qa ma) (hb : VE X XD W Γ b bc fb qb mb) :
    VE X XD W Γ (.IfExp c a b pos) bc (fa && fb) (qc && (qa && qb)) (fun ρ => (mc ρ).bind fun x ρ => if tru x = true then ma ρ else mb ρ) := by
  refine ⟨fun Z fx O hx => PEimp (pe_ifExp (hc.pt Z fx O hx) (ha.pe Z fx O hx) (hb.pe Z fx O hx)) fun σ H Q h => ?_⟩
  obtain ⟨ρ, S, h⟩ := h
  dsimp only at h
  rw [Out.Post.bind] at h
  refine ⟨ρ, S, h.mono (fun d ρ1 h1 H1 S1 k1 q1 => ?_) fun _ _ z => z⟩
  dsimp only
  by_cases c : tru d = true
  · rw [if_pos c]
    rw [if_pos c] at h1
    refine ⟨ρ1, S1, h1.mono (fun d2 ρ2 h2 v2 H2 S2 k2 q2 r2 f2 => h2 v2 H2 S2 (k1.trans k2) (fun z => ?_) r2 fun z => ?_) fun x ρ2 z cls dd H2 S2 k2 => z cls dd H2 S2 (k1.trans k2)⟩
    · obtain ⟨z1, z2⟩ := Bool.and_eq_true_iff.mp z
      exact (q1 z1).trans (q2 (Bool.and_eq_true_iff.mp z2).1)
    · obtain ⟨p, xs, ds, e1, e5, e2, e3, e4⟩ := f2 (Bool.and_eq_true_iff.mp z).1
      exact ⟨p, xs, ds, e1, e5, S1.back k1 e2, e3, e4⟩
  · rw [if_neg c]
    rw [if_neg c] at h1
    refine ⟨ρ1, S1, h1.mono (fun d2 ρ2 h2 v2 H2 S2 k2 q2 r2 f2 => h2 v2 H2 S2 (k1.trans k2) (fun z => ?_) r2 fun z => ?_) fun x ρ2 z cls dd H2 S2 k2 => z cls dd H2 S2 (k1.trans k2)⟩
    · obtain ⟨z1, z2⟩ := Bool.and_eq_true_iff.mp z
      exact (q1 z1).trans (q2 (Bool.and_eq_true_iff.mp z2).2)
    · obtain ⟨p, xs, ds, e1, e5, e2, e3, e4⟩ := f2 (Bool.and_eq_true_iff.mp z).2
      exact ⟨p, xs, ds, e1, e5, S1.back k1 e2, e3, e4⟩

/-! ### a op b op c -/
theorem ve_cmp3 {o p : COp} {op op' : CmpOp} (hu : X.A.units + 70 < cLine) (ho : op = o.ast) (hp : op' = p.ast) (ha : VE X XD W Γ a false fa qa ma) (hb : VE X XD W Γ b false fb qb mb) (hc : VE X XD W Γ c false fc qc mc) (hm : lastMarks [op, op'] [b, c] = false) :
    VE X XD W Γ (.Compare a [op, op'] [b, c] pos) ba false (qa && (qb && qc)) (fun ρ => (ma ρ).bind fun x ρ => (mb ρ).bind fun y ρ => (Out.lift (opCmp o x y) ρ).bind fun k ρ =>
      if k = true then (mc ρ).bind fun z ρ => Out.lift ((opCmp p y z).map PyData.bool) ρ else .ok (.bool false) ρ) := by
  subst ho hp
  refine ⟨fun Z fx O hx => PEimp (pe_chain (op_cmpB hu o) (op_cmpB hu p) (ha.pe Z fx O hx) (hb.pe Z fx O hx) (hc.pe Z fx O hx) hm) fun σ H Q h => ?_⟩
  obtain ⟨ρ, S, h⟩ := h
  dsimp only at h
  rw [Out.Post.bind] at h
  refine ⟨ρ, S, h.mono (fun d ρ1 h1 v H1 S1 k1 q1 r1 _ => ?_) fun _ _ z => z⟩
  rw [Out.Post.bind] at h1
  refine ⟨ρ1, S1, h1.mono (fun d2 ρ2 h2 v2 H2 S2 k2 q2 r2 _ => ?_) fun x ρ2 z cls dd H2 S2 k2 => z cls dd H2 S2 (k1.trans k2)⟩
  cases e : opCmp o d d2 with
  | none => rw [e] at h2; exact h2.elim
  | some r =>
    rw [e] at h2
    refine ⟨NN Z O, d, d2, .bool r, S2.trk, .rep (Rep.keep k2 oo_nn r1), .rep r2, congrArg (Option.map PyData.bool) e, fun w H3 k3 r3 f3 => ?_⟩
    refine ⟨r, (RepT.rep r3).bool_inv, ?_⟩
    have S3 := S2.keep k3
    cases r with
    | true =>
      rw [if_pos rfl]
      have h2' : Out.Post ((mc ρ2).bind fun z ρ => Out.lift ((opCmp p d2 z).map PyData.bool) ρ) _ _ := h2
      rw [Out.Post.bind] at h2'
      refine ⟨ρ2, S3, h2'.mono (fun d4 ρ4 h4 v4 H4 S4 k4 q4 r4 _ => ?_) fun x ρ4 z cls dd H4 S4 k4 => z cls dd H4 S4 (((k1.trans k2).trans k3.all).trans k4)⟩
      cases e4 : opCmp p d2 d4 with
      | none => rw [e4] at h4; exact h4.elim
      | some r' =>
        rw [e4] at h4
        refine ⟨NN Z O, d2, d4, .bool r', S4.trk, .rep (Rep.keep k4 oo_nn (Rep.keep k3 (fun _ z => z.elim) r2)), .rep r4, congrArg (Option.map PyData.bool) e4, fun w5 H5 k5 r5 f5 => ?_⟩
        refine h4 w5 H5 (S4.keep k5) ((((k1.trans k2).trans k3.all).trans k4).trans k5.all) (fun z => ?_) ?_ (fun z => nomatch z)
        · obtain ⟨z1, z2⟩ := Bool.and_eq_true_iff.mp z
          obtain ⟨z3, z4⟩ := Bool.and_eq_true_iff.mp z2
          exact ((((q1 z1).trans (q2 z3)).trans k3).trans (q4 z4)).trans k5
        · cases ba with
          | true => exact .rep r5
          | false => exact r5
    | false =>
      rw [if_neg Bool.false_ne_true]
      refine h2 (.bl false) H3 S3 ((k1.trans k2).trans k3.all) (fun z => ?_) ?_ (fun z => nomatch z)
      · obtain ⟨z1, z2⟩ := Bool.and_eq_true_iff.mp z
        obtain ⟨z3, z4⟩ := Bool.and_eq_true_iff.mp z2
        exact ((q1 z1).trans (q2 z3)).trans k3
      · cases ba with
        | true => exact .rep (.bl false)
        | false => exact .bl false
theorem vt_cmp3 {o p : COp} {op op' : CmpOp} (hu : X.A.units + 70 < cLine) (ho : op = o.ast) (hp : op' = p.ast) (ha : VE X XD W Γ a false fa qa ma) (hb : VE X XD W Γ b false fb qb mb) (hc : VE X XD W Γ c false fc qc mc) (hm : lastMarks [op, op'] [b, c] = false) :
    VT X XD W Γ (.Compare a [op, op'] [b, c] pos) (qa && (qb && qc)) (fun ρ => (ma ρ).bind fun x ρ => (mb ρ).bind fun y ρ => (Out.lift (opCmp o x y) ρ).bind fun k ρ =>
      if k = true then (mc ρ).bind fun z ρ => Out.lift ((opCmp p y z).map PyData.bool) ρ else .ok (.bool false) ρ) := by
  subst ho hp
  refine ⟨fun Z fx O hx => PTimp (pt_chain (op_cmpB hu o) (op_cmpB hu p) (ha.pe Z fx O hx) (hb.pe Z fx O hx) (hc.pe Z fx O hx) hm) fun σ H Q h => ?_⟩
  obtain ⟨ρ, S, h⟩ := h
  dsimp only at h
  rw [Out.Post.bind] at h
  refine ⟨ρ, S, h.mono (fun d ρ1 h1 v H1 S1 k1 q1 r1 _ => ?_) fun _ _ z => z⟩
  rw [Out.Post.bind] at h1
  refine ⟨ρ1, S1, h1.mono (fun d2 ρ2 h2 v2 H2 S2 k2 q2 r2 _ => ?_) fun x ρ2 z cls dd H2 S2 k2 => z cls dd H2 S2 (k1.trans k2)⟩
  cases e : opCmp o d d2 with
  | none => rw [e] at h2; exact h2.elim
  | some r =>
    rw [e] at h2
    refine ⟨NN Z O, d, d2, .bool r, S2.trk, .rep (Rep.keep k2 oo_nn r1), .rep r2, congrArg (Option.map PyData.bool) e, fun w H3 k3 r3 f3 => ?_⟩
    refine ⟨r, (RepT.rep r3).bool_inv, ?_⟩
    have S3 := S2.keep k3
    cases r with
    | true =>
      rw [if_pos rfl]
      have h2' : Out.Post ((mc ρ2).bind fun z ρ => Out.lift ((opCmp p d2 z).map PyData.bool) ρ) _ _ := h2
      rw [Out.Post.bind] at h2'
      refine ⟨ρ2, S3, h2'.mono (fun d4 ρ4 h4 v4 H4 S4 k4 q4 r4 _ => ?_) fun x ρ4 z cls dd H4 S4 k4 => z cls dd H4 S4 (((k1.trans k2).trans k3.all).trans k4)⟩
      cases e4 : opCmp p d2 d4 with
      | none => rw [e4] at h4; exact h4.elim
      | some r' =>
        rw [e4] at h4
        refine ⟨NN Z O, d2, d4, .bool r', S4.trk, .rep (Rep.keep k4 oo_nn (Rep.keep k3 (fun _ z => z.elim) r2)), .rep r4, congrArg (Option.map PyData.bool) e4, fun w5 H5 k5 r5 f5 => ?_⟩
        refine ⟨r', (RepT.rep r5).bool_inv, h4 H5 (S4.keep k5) ((((k1.trans k2).trans k3.all).trans k4).trans k5.all) (fun z => ?_)⟩
        obtain ⟨z1, z2⟩ := Bool.and_eq_true_iff.mp z
        obtain ⟨z3, z4⟩ := Bool.and_eq_true_iff.mp z2
        exact ((((q1 z1).trans (q2 z3)).trans k3).trans (q4 z4)).trans k5
    | false =>
      rw [if_neg Bool.false_ne_true]
      refine ⟨false, rfl, h2 H3 S3 ((k1.trans k2).trans k3.all) (fun z => ?_)⟩
      obtain ⟨z1, z2⟩ := Bool.and_eq_true_iff.mp z
      obtain ⟨z3, z4⟩ := Bool.and_eq_true_iff.mp z2
      exact ((q1 z1).trans (q2 z3)).trans k3
end
end BV
set_option Elab.async false
set_option linter.all false
set_option maxRecDepth 100000
set_option maxHeartbeats 2000000
/-! BV9: built-in functions and methods; isinstance; slices. -/
namespace BV
open PySem PySem.Spec L2
open PyProof.Rows hiding St

/-! ### texts of data are texts -/
theorem ok_iff {x : Str} : PyData.strOk x = true ↔ ∀ c ∈ x.cps.toList, c < 0x110000 := by
  unfold PyData.strOk
  rw [Array.all_eq_true_iff_forall_mem]
  constructor
  · intro h c hc
    exact of_decide_eq_true (h c (Array.mem_toList_iff.mp hc))
  · intro h c hc
    exact decide_eq_true (h c (Array.mem_toList_iff.mpr hc))
theorem char_lt (c : Char) : c.toNat < 0x110000 := by
  have h := c.valid
  have ht : c.toNat = c.val.toNat := rfl
  rw [ht]
  simp only [UInt32.isValidChar, Nat.isValidChar] at h
  omega
theorem ok_ofString (s : String) : PyData.strOk (Str.ofString s) = true := by
  rw [ok_iff, Str.ofString_eq_toList]
  intro c hc
  simp only [List.mem_map] at hc
  obtain ⟨d, _, rfl⟩ := hc
  exact char_lt d
theorem ok_app {x y : Str} (hx : PyData.strOk x = true) (hy : PyData.strOk y = true) : PyData.strOk (x ++ y) = true := by
  rw [ok_iff] at *
  intro c hc
  have e : (x ++ y).cps.toList = x.cps.toList ++ y.cps.toList := by
    show (x.cps ++ y.cps).toList = _
    simp
  rw [e, List.mem_append] at hc
  rcases hc with h | h
  · exact hx c h
  · exact hy c h
theorem ok_join {sep : Str} (hs : PyData.strOk sep = true) : ∀ {ts : List Str}, (∀ t ∈ ts, PyData.strOk t = true) → PyData.strOk (Str.join sep ts) = true
  | [], _ => ok_ofString ""
  | [t], h => h t (List.mem_cons_self ..)
  | t :: u :: r, h => by
    have ih := ok_join hs (ts := u :: r) fun z hz => h z (List.mem_cons_of_mem _ hz)
    show PyData.strOk (t ++ sep ++ Str.join sep (u :: r)) = true
    exact ok_app (ok_app (h t (List.mem_cons_self ..)) hs) ih
theorem ok_textFrom : ∀ (ts : List Str) (k : Nat) (acc : Str), PyData.strOk acc = true → (∀ t ∈ ts, PyData.strOk t = true) → PyData.strOk (textFrom k acc ts) = true
  | [], _, _, h, _ => h
  | t :: r, k, acc, h, ht => by
    unfold textFrom
    refine ok_textFrom r _ _ ?_ fun z hz => ht z (List.mem_cons_of_mem _ hz)
    have h1 := ht t (List.mem_cons_self ..)
    split
    · exact ok_app (ok_app h (ok_ofString _)) h1
    · exact ok_app h h1
theorem reprChar_ok {q c : Nat} (hq : q < 0x110000) (hc : c < 0x110000) : ∀ z ∈ Builtin.Str.reprChar q c, z < 0x110000 := by
  have hex : ∀ (w z : Nat), z ∈ List.replicate (w - ((Nat.toDigits 16 c).map Char.toNat).length) 48 ++ (Nat.toDigits 16 c).map Char.toNat → z < 0x110000 := fun w z hz => by
    rcases List.mem_append.mp hz with h | h
    · have := (List.mem_replicate.mp h).2; omega
    · obtain ⟨d, _, rfl⟩ := List.mem_map.mp h
      exact char_lt d
  intro z hz
  unfold Builtin.Str.reprChar at hz
  dsimp only at hz
  split at hz
  · simp only [List.mem_cons, List.not_mem_nil, or_false] at hz; omega
  · split at hz
    · simp only [List.mem_cons, List.not_mem_nil, or_false] at hz; omega
    · split at hz
      · simp only [List.mem_cons, List.not_mem_nil, or_false] at hz; omega
      · split at hz
        · simp only [List.mem_cons, List.not_mem_nil, or_false] at hz; omega
        · split at hz
          · simp only [List.mem_cons, List.not_mem_nil, or_false] at hz; omega
          · split at hz
            · rcases List.mem_append.mp hz with h | h
              · simp only [List.mem_cons, List.not_mem_nil, or_false] at h; omega
              · exact hex _ z h
            · split at hz
              · rcases List.mem_append.mp hz with h | h
                · simp only [List.mem_cons, List.not_mem_nil, or_false] at h; omega
                · exact hex _ z h
              · rcases List.mem_append.mp hz with h | h
                · simp only [List.mem_cons, List.not_mem_nil, or_false] at h; omega
                · exact hex _ z h
theorem fold_ok {q : Nat} (hq : q < 0x110000) : ∀ (l : List Nat) (acc : Array Nat), (∀ c ∈ l, c < 0x110000) → (∀ c ∈ acc.toList, c < 0x110000) → ∀ c ∈ (l.foldl (fun out c => out ++ (Builtin.Str.reprChar q c).toArray) acc).toList, c < 0x110000
  | [], _, _, h => h
  | x :: r, acc, hl, h => by
    refine fold_ok hq r _ (fun c hc => hl c (List.mem_cons_of_mem _ hc)) fun c hc => ?_
    rw [Array.toList_append] at hc
    rcases List.mem_append.mp hc with h1 | h1
    · exact h c h1
    · exact reprChar_ok hq (hl x (List.mem_cons_self ..)) c (by simpa using h1)
theorem reprText_ok {x : Str} (h : PyData.strOk x = true) : PyData.strOk (reprText x) = true := by
  rw [ok_iff] at *
  have hq : reprQuote x < 0x110000 := by unfold reprQuote; split <;> omega
  intro c hc
  unfold reprText at hc
  simp only [Array.toList_push, List.mem_append, List.mem_singleton] at hc
  rcases hc with h1 | h1
  · refine fold_ok hq x.cps.toList #[reprQuote x] h (fun c hc => ?_) c ?_
    · have : c = reprQuote x := by simpa using hc
      omega
    · rw [← Array.foldl_toList] at h1
      simpa using h1
  · omega
mutual
theorem shown_ok : ∀ d : D, layB d = true → PyData.strOk d.shown = true
  | .none, _ => by simp only [PyData.shown]; exact ok_ofString _
  | .bool b, _ => by
    simp only [PyData.shown]
    cases b
    · exact ok_ofString _
    · exact ok_ofString _
  | .int i, _ => by simp only [PyData.shown]; exact ok_ofString _
  | .str x, h => by simp only [PyData.shown]; exact reprText_ok (by simpa [layB] using h)
  | .list xs, h => by
    simp only [PyData.shown]
    exact ok_app (ok_textFrom _ _ _ (ok_ofString _) (shownAll_ok xs (by simpa [layB] using h))) (ok_ofString _)
  | .tuple xs, h => by
    simp only [PyData.shown]
    refine ok_app (ok_app (ok_ofString _) (ok_join (ok_ofString _) (shownAll_ok xs (by simpa [layB] using h)))) ?_
    split <;> exact ok_ofString _
  | .dict kvs, h => by
    have : kvs = [] := by simpa [layB] using h
    subst this
    decide +kernel
theorem shownAll_ok : ∀ xs : List D, layBs xs = true → ∀ t ∈ PyData.shownAll xs, PyData.strOk t = true
  | [], _, t, ht => by simp [PyData.shownAll] at ht
  | x :: xs, h, t, ht => by
    have h' : layB x = true ∧ layBs xs = true := by simpa [layBs] using h
    simp only [PyData.shownAll, List.mem_cons] at ht
    rcases ht with rfl | ht
    · exact shown_ok x h'.1
    · exact shownAll_ok xs h'.2 t ht
end
end BV
set_option Elab.async false
set_option linter.all false
set_option maxRecDepth 100000
set_option maxHeartbeats 2000000
/-! BV10: built-in functions. -/
namespace BV
open PySem PySem.Spec L2
open PyProof.Rows hiding St

/-- what a call of data asks -/
def rDA (K : PySem.W.Frag) (f : List D → Option D) (fr : Bool) : List V → Hp → VK → Prop := fun vs H Q => ∃ (N : Addr → Prop) (ds : List D) (d : D), (∀ a, N a → H a ≠ none) ∧ RepTA K N H vs ds ∧ f ds = some d ∧
  ∀ v H', Keep none_ H H' → Rep K N H' v d → (fr = true → New K N v d H H') → Q v H'
section
variable {K : PySem.W.Frag} {N : Addr → Prop} {H : Hp} {vs : List V}
theorem RepTA.one_inv {d : D} (r : RepTA K N H vs [d]) : ∃ v, vs = [v] ∧ RepT K N H v d := by
  cases r with
  | cons h t => cases t; exact ⟨_, rfl, h⟩
theorem RepTA.two_inv {d e : D} (r : RepTA K N H vs [d, e]) : ∃ v w, vs = [v, w] ∧ RepT K N H v d ∧ RepT K N H w e := by
  cases r with
  | cons h t =>
    obtain ⟨w, rfl, h2⟩ := RepTA.one_inv t
    exact ⟨_, w, rfl, h, h2⟩
theorem repA_ints : ∀ {vs : List V} {ds : List D}, RepA K N H vs ds → ds.all isInt = true → vs = (ds.map intOf).map V.int
  | _, _, .nil, _ => rfl
  | _, _, .cons (d := d) h t, e => by
    have e' := Bool.and_eq_true_iff.mp (show (isInt d && _) = true from e)
    cases d <;> first | (cases e'.1; done) | skip
    rw [(RepT.rep h).int_inv, repA_ints t e'.2]
    rfl
theorem repA_bools : ∀ {vs : List V} {ds : List D}, RepA K N H vs ds → ds.all isBool = true → vs = (ds.map tru).map V.bl
  | _, _, .nil, _ => rfl
  | _, _, .cons (d := d) h t, e => by
    have e' := Bool.and_eq_true_iff.mp (show (isBool d && _) = true from e)
    cases d <;> first | (cases e'.1; done) | skip
    rw [(RepT.rep h).bool_inv, repA_bools t e'.2]
    rfl
/-- a text out of data -/
def strOf : D → Str
  | .str y => y
  | _ => Str.empty
theorem repA_strs : ∀ {vs : List V} {ds : List D}, RepA K N H vs ds → ds.all isStr = true → vs = (ds.map strOf).map V.str ∧ ∀ z ∈ ds.map strOf, strG z
  | _, _, .nil, _ => ⟨rfl, fun z h => by simp at h⟩
  | _, _, .cons (d := d) h t, e => by
    have e' := Bool.and_eq_true_iff.mp (show (isStr d && _) = true from e)
    cases d <;> first | (cases e'.1; done) | skip
    obtain ⟨h1, h2⟩ := (RepT.rep h).str_inv
    obtain ⟨h3, h4⟩ := repA_strs t e'.2
    refine ⟨by rw [h1, h3]; rfl, fun z hz => ?_⟩
    rcases List.mem_cons.mp hz with rfl | hz
    · exact h2
    · exact h4 z hz
end
section
variable {X : Cx} {XD : XP} {W : WX} {Γ : List Sh} {e : Expr} {es : List Expr} {m : Ev → Out (List D)} {pos p : Pos} {ba bb fa qa : Bool} {x : Str}

/-- .. where sysModules is forbidden -/
def rDS (K : PySem.W.Frag) (f : List D → Option D) (fr : Bool) : List V → Hp → VK → Prop := fun vs H Q => ∃ (N : Addr → Prop) (ds : List D) (d : D), (∀ a, N a → H a ≠ none) ∧ RepTA K N H vs ds ∧ (f ds = some d ∧ N sysModules) ∧
  ∀ v H', Keep none_ H H' → Rep K N H' v d → (fr = true → New K N v d H H') → Q v H'
theorem ve_argsS {f : List D → Option D} {fr : Bool} {r : List V → Hp → VK → Prop} (mk : ∀ ta, PA X es ta → PE X e (tCB r ta)) (ht : ∀ vs H Q, rDS X.K f fr vs H Q → r vs H Q) (ha : VA X XD W Γ es ba qa m) :
    VE X XD W Γ e bb fr qa (fun ρ => (m ρ).bind fun ds ρ => Out.lift (f ds) ρ) := by
  refine ⟨fun Z fx O hx => PEimp (mk _ (ha.pa Z fx O hx)) fun σ H Q h => ?_⟩
  obtain ⟨ρ, S, h⟩ := h
  dsimp only at h
  rw [Out.Post.bind] at h
  refine ⟨ρ, S, h.mono (fun ds ρ1 h1 vs H1 S1 k1 q1 r1 => ?_) fun _ _ z => z⟩
  cases e : f ds with
  | none => rw [e] at h1; exact h1.elim
  | some d =>
    rw [e] at h1
    refine ht _ _ _ ⟨NN Z O, ds, d, S1.trk, r1.toT, ⟨e, .inl S1.sm⟩, fun w H3 k3 r3 f3 => ?_⟩
    refine h1 w H3 (S1.keep k3) (k1.trans k3.all) (fun z => (q1 z).trans k3) ?_ (fun z => ?_)
    · cases bb with
      | true => exact .rep r3
      | false => exact r3
    · obtain ⟨p, xs, ds, e1, e4, e2, e3, e5⟩ := f3 z
      exact ⟨p, xs, ds, e1, e4, S1.back k1 e2, e3, e5.imp (fun _ z => NN_addZ z), S1.more e2 k3 (by rw [e3]; exact fun z => nomatch z)⟩

theorem ve_args {f : List D → Option D} {fr : Bool} {r : List V → Hp → VK → Prop} (mk : ∀ ta, PA X es ta → PE X e (tCB r ta)) (ht : ∀ vs H Q, rDA X.K f fr vs H Q → r vs H Q) (ha : VA X XD W Γ es ba qa m) :
    VE X XD W Γ e bb fr qa (fun ρ => (m ρ).bind fun ds ρ => Out.lift (f ds) ρ) := ve_argsS mk (fun vs H Q ⟨N, ds, d, h1, h2, h3, h4⟩ => ht vs H Q ⟨N, ds, d, h1, h2, h3.1, h4⟩) ha
theorem if_some {α : Type} {c : Prop} [Decidable c] {a d : α} (e : (if c then some a else none) = some d) : c ∧ a = d := by
  by_cases h : c
  · rw [if_pos h] at e; exact ⟨h, Option.some.inj e⟩
  · rw [if_neg h] at e; cases e
theorem cl_len : CallR X (.builtin "len") (rDA X.K (opBlt .len) false) := by
  intro pins s σ H xs us Q I r h
  obtain ⟨N, ds, d, hN, rs, e, q⟩ := h
  have fin : ∀ n : Nat, d = .int n → Q (.int n) H := fun n hn => q _ H Keep.refl (hn ▸ .int _) (fun z => nomatch z)
  rcases ds with _ | ⟨d0, _ | ⟨d1, r1⟩⟩
  · cases e
  · obtain ⟨v, rfl, r0⟩ := rs.one_inv
    refine call_len pins s σ H _ us Q I r ?_
    cases d0 with
    | list ds => obtain ⟨a, xs, rfl, h1, h2⟩ := r0.list_inv; cases e; exact ⟨_, _, rfl, .inl ⟨xs, .inl h1, rfl⟩, by rw [h2.length]; exact fin _ rfl⟩
    | tuple ds => obtain ⟨a, xs, rfl, h1, _, h2⟩ := r0.tup_inv; cases e; exact ⟨_, _, rfl, .inr ⟨xs, h1, rfl⟩, by rw [h2.length]; exact fin _ rfl⟩
    | str y => obtain ⟨rfl, g⟩ := r0.str_inv; cases e; exact ⟨_, _, rfl, ⟨by rw [sizeLine_eq]; exact g.len, rfl⟩, fin _ rfl⟩
    | _ => cases e
  · cases d0 <;> cases e
theorem cl_abs : CallR X (.builtin "abs") (rDA X.K (opBlt .abs) false) := by
  intro pins s σ H xs us Q I r h
  obtain ⟨N, ds, d, hN, rs, e, q⟩ := h
  rcases ds with _ | ⟨d0, _ | ⟨d1, r1⟩⟩
  · cases e
  · obtain ⟨v, rfl, r0⟩ := rs.one_inv
    refine call_abs pins s σ H _ us Q I r ?_
    cases d0 with
    | int i => rw [r0.int_inv]; cases e; exact ⟨i, rfl, q _ H Keep.refl (.int _) (fun z => nomatch z)⟩
    | _ => cases e
  · cases d0 <;> cases e
theorem cl_int : CallR X (.type "int") (rDA X.K (opBlt .int) false) := by
  intro pins s σ H xs us Q I r h
  obtain ⟨N, ds, d, hN, rs, e, q⟩ := h
  rcases ds with _ | ⟨d0, _ | ⟨d1, r1⟩⟩
  · cases e
  · obtain ⟨v, rfl, r0⟩ := rs.one_inv
    refine call_int1 pins s σ H _ us Q I r ?_
    cases d0 with
    | int i => rw [r0.int_inv]; cases e; exact .inl ⟨i, rfl, q _ H Keep.refl (.int _) (fun z => nomatch z)⟩
    | bool b => rw [r0.bool_inv]; cases e; exact .inr ⟨b, rfl, q _ H Keep.refl (.int _) (fun z => nomatch z)⟩
    | _ => cases e
  · cases d0 <;> cases e
theorem cl_str : CallR X (.type "str") (rDA X.K (opBlt .str) false) := by
  intro pins s σ H xs us Q I r h
  obtain ⟨N, ds, d, hN, rs, e, q⟩ := h
  rcases ds with _ | ⟨d0, _ | ⟨d1, r1⟩⟩
  · cases e
  · obtain ⟨v, rfl, r0⟩ := rs.one_inv
    cases d0 with
    | int i =>
      rw [r0.int_inv] at r
      obtain ⟨⟨hl, h2⟩, rfl⟩ := if_some (show (if i.natAbs.log2 < 1920 ∧ (toString i : Str).length ≤ LIM then some (PyData.str (toString i)) else none) = some d from e)
      exact call_str_int pins s σ H _ us Q I r ⟨i, rfl, hl, q _ H Keep.refl (.str _ (Bool.and_eq_true_iff.mpr ⟨ok_ofString _, Nat.ble_eq_true_of_le h2⟩)) (fun z => nomatch z)⟩
    | str y =>
      obtain ⟨rfl, g⟩ := r0.str_inv
      cases e
      exact SkE.call_str_str pins s σ H _ us Q I r ⟨y, rfl, q _ H Keep.refl (.str _ g) (fun z => nomatch z)⟩
    | _ => cases e
  · cases d0 <;> cases e
theorem cl_max2 (hc : X.calm = true) : CallR X (.builtin "max") (rDA X.K (opBlt .max2) false) := by
  intro pins s σ H xs us Q I r h
  obtain ⟨N, ds, d, hN, rs, e, q⟩ := h
  rcases ds with _ | ⟨d0, _ | ⟨d1, _ | ⟨d2, r2⟩⟩⟩
  · cases e
  · cases d0 <;> cases e
  · obtain ⟨v, w, rfl, r0, r1⟩ := rs.two_inv
    refine call_max2 hc pins s σ H _ us Q I r ?_
    cases d0 <;> cases d1 <;> first | (cases e; done) | skip
    cases e
    exact ⟨_, _, by rw [r0.int_inv, r1.int_inv], q _ H Keep.refl (.int _) (fun z => nomatch z)⟩
  · cases d0 <;> cases d1 <;> cases e
theorem cl_min2 (hc : X.calm = true) : CallR X (.builtin "min") (rDA X.K (opBlt .min2) false) := by
  intro pins s σ H xs us Q I r h
  obtain ⟨N, ds, d, hN, rs, e, q⟩ := h
  rcases ds with _ | ⟨d0, _ | ⟨d1, _ | ⟨d2, r2⟩⟩⟩
  · cases e
  · cases d0 <;> cases e
  · obtain ⟨v, w, rfl, r0, r1⟩ := rs.two_inv
    refine call_min2 hc pins s σ H _ us Q I r ?_
    cases d0 <;> cases d1 <;> first | (cases e; done) | skip
    cases e
    exact ⟨_, _, by rw [r0.int_inv, r1.int_inv], q _ H Keep.refl (.int _) (fun z => nomatch z)⟩
  · cases d0 <;> cases d1 <;> cases e
theorem cl_sum (hc : X.calm = true) : CallR X (.builtin "sum") (rDA X.K (opBlt .sum) false) := by
  intro pins s σ H xs us Q I r h
  obtain ⟨N, ds, d, hN, rs, e, q⟩ := h
  rcases ds with _ | ⟨d0, _ | ⟨d1, r1⟩⟩
  · cases e
  · obtain ⟨v, rfl, r0⟩ := rs.one_inv
    cases d0 with
    | list ds =>
      obtain ⟨a, xs, rfl, h1, h2⟩ := r0.list_inv
      obtain ⟨h3, rfl⟩ := if_some e
      exact cr_sum hc pins s σ H _ us Q I r ⟨a, ds.map intOf, rfl, .inl (repA_ints h2 h3 ▸ h1), q _ H Keep.refl (.int _) (fun z => nomatch z)⟩
    | _ => cases e
  · cases d0 <;> cases e
theorem map_any (f : D → Bool) : ∀ xs : List D, (xs.map f).any id = xs.any f
  | [] => rfl
  | x :: xs => by simp [map_any f xs]
theorem map_all (f : D → Bool) : ∀ xs : List D, (xs.map f).all id = xs.all f
  | [] => rfl
  | x :: xs => by simp [map_all f xs]
theorem cl_all (hc : X.calm = true) : CallR X (.builtin "all") (rDA X.K (opBlt .all) false) := by
  intro pins s σ H xs us Q I r h
  obtain ⟨N, ds, d, hN, rs, e, q⟩ := h
  rcases ds with _ | ⟨d0, _ | ⟨d1, r1⟩⟩
  · cases e
  · obtain ⟨v, rfl, r0⟩ := rs.one_inv
    cases d0 with
    | list ds =>
      obtain ⟨a, xs, rfl, h1, h2⟩ := r0.list_inv
      obtain ⟨h3, rfl⟩ := if_some e
      exact cr_all hc pins s σ H _ us Q I r ⟨a, ds.map tru, rfl, .inl (repA_bools h2 h3 ▸ h1), q _ H Keep.refl (map_all tru ds ▸ .bl _) (fun z => nomatch z)⟩
    | _ => cases e
  · cases d0 <;> cases e
theorem cl_any (hc : X.calm = true) : CallR X (.builtin "any") (rDA X.K (opBlt .any) false) := by
  intro pins s σ H xs us Q I r h
  obtain ⟨N, ds, d, hN, rs, e, q⟩ := h
  rcases ds with _ | ⟨d0, _ | ⟨d1, r1⟩⟩
  · cases e
  · obtain ⟨v, rfl, r0⟩ := rs.one_inv
    cases d0 with
    | list ds =>
      obtain ⟨a, xs, rfl, h1, h2⟩ := r0.list_inv
      obtain ⟨h3, rfl⟩ := if_some e
      exact cr_any hc pins s σ H _ us Q I r ⟨a, ds.map tru, rfl, .inl (repA_bools h2 h3 ▸ h1), q _ H Keep.refl (map_any tru ds ▸ .bl _) (fun z => nomatch z)⟩
    | _ => cases e
  · cases d0 <;> cases e
theorem cl_list : CallR X (.type "list") (rDA X.K (opBlt .list) true) := by
  intro pins s σ H xs us Q I r h
  obtain ⟨N, ds, d, hN, rs, e, q⟩ := h
  rcases ds with _ | ⟨d0, _ | ⟨d1, r1⟩⟩
  · cases e
  · obtain ⟨v, rfl, r0⟩ := rs.one_inv
    have key : ∀ {a : Addr} {xs : List V} {ds : List D}, d = .list ds → RepA X.K N H xs ds → ∀ l, H l = none → Q (.ref l) (upd H l (.lst xs)) := fun {a xs ds} hd h2 l hl => by
      have kn : Keep none_ H (upd H l (.lst xs)) := Keep.new hl
      refine q _ _ kn (hd ▸ .lst (.inl upd_same) (fun z => hN l z hl) (h2.keep kn fun _ z => z.elim)) fun _ => ⟨l, xs, ds, rfl, hd, hl, upd_same, (h2.impT fun a ha z => z.elim id fun z => absurd (z ▸ hl) ha).keep kn fun _ z => z.elim⟩
    cases d0 with
    | list ds =>
      obtain ⟨a, xs, rfl, h1, h2⟩ := r0.list_inv
      cases e
      exact call_list_of pins s σ H _ us Q I r ⟨a, xs, rfl, .inl (.inl h1), key (a := a) rfl h2⟩
    | tuple ds =>
      obtain ⟨a, xs, rfl, h1, _, h2⟩ := r0.tup_inv
      cases e
      exact call_list_of pins s σ H _ us Q I r ⟨a, xs, rfl, .inr h1, key (a := a) rfl h2⟩
    | _ => cases e
  · cases d0 <;> cases e
theorem cl_tuple : CallR X (.type "tuple") (rDA X.K (opBlt .tuple) false) := by
  intro pins s σ H xs us Q I r h
  obtain ⟨N, ds, d, hN, rs, e, q⟩ := h
  rcases ds with _ | ⟨d0, _ | ⟨d1, r1⟩⟩
  · cases e
  · obtain ⟨v, rfl, r0⟩ := rs.one_inv
    cases d0 with
    | list ds =>
      obtain ⟨a, xs, rfl, h1, h2⟩ := r0.list_inv
      cases e
      refine call_tuple_of pins s σ H _ us Q I r ⟨a, xs, rfl, .inl ⟨.inl h1, fun l hl => ?_⟩⟩
      have kn : Keep none_ H (upd H l (.tup xs)) := Keep.new hl
      exact q _ _ kn (.tup (.new upd_same (fun z => hN l z hl)) (h2.keep kn fun _ z => z.elim)) fun z => nomatch z
    | tuple ds =>
      obtain ⟨a, xs, rfl, h1, n, h2⟩ := r0.tup_inv
      cases e
      exact call_tuple_of pins s σ H _ us Q I r ⟨a, xs, rfl, .inr ⟨h1, q _ H Keep.refl (.tup n h2) fun z => nomatch z⟩⟩
    | _ => cases e
  · cases d0 <;> cases e
theorem cl_repr (hg : X.A.guards = some []) (hu : X.A.units + 70 < cLine) : CallR X (.builtin "repr") (rDS X.K (opBlt .repr) false) := by
  intro pins s σ H xs us Q I r h
  obtain ⟨N, ds, d, hN, rs, ⟨e, hsm⟩, q⟩ := h
  rcases ds with _ | ⟨d0, _ | ⟨d1, r1⟩⟩
  · cases e
  · obtain ⟨v, rfl, r0⟩ := rs.one_inv
    have e' : (if d0.showable = true ∧ d0.shown.length ≤ LIM ∧ d0.depth ≤ 64 then some (PyData.str d0.shown) else none) = some d := e
    obtain ⟨⟨h1, h2, h3⟩, rfl⟩ := if_some e'
    have fin : Q (.str d0.shown) H := q _ H Keep.refl (.str _ (Bool.and_eq_true_iff.mpr ⟨shown_ok _ r0.layB, Nat.ble_eq_true_of_le h2⟩)) fun z => nomatch z
    obtain ⟨u, rfl, r1⟩ := vals1 r
    have href : ∀ a, v = .ref a → wpAny (model X.prog X.w) X.A (call (.builtin "repr") [u]) (EP X pins σ Q) X.xe s := fun a ha => by
      obtain ⟨as, rd, hns⟩ := r0.reads I r1
      subst ha
      cases r1
      exact repr_of_reads' rd h1 (fun _ => hns hsm) hg (by omega) (fun _ _ z => z) (fun h' w tk hk => ⟨.str _, H, I.kept hk, ⟨_, rfl⟩, fin⟩) (by rw [sizeLine_eq]; exact h2)
    cases d0 with
    | none =>
      rw [r0.none_inv] at r1
      cases r1
      exact PySem.P.repr_of_none ⟨.str "None", H, I.tok _, ⟨_, rfl⟩, fin⟩
    | bool b =>
      rw [r0.bool_inv] at r1
      cases r1
      exact PySem.P.repr_of_bool ⟨.str (if b then "True" else "False"), H, I.tok _, ⟨_, rfl⟩, by cases b <;> exact fin⟩
    | int i =>
      rw [r0.int_inv] at r1
      obtain ⟨t, rfl⟩ := r1
      exact PySem.P.repr_of_int (of_decide_eq_true (by simpa [PyData.showable] using h1)) ⟨.str (toString i), H, I.tok _, ⟨_, rfl⟩, fin⟩
    | str y =>
      obtain ⟨rfl, g⟩ := r0.str_inv
      obtain ⟨t, rfl⟩ := r1
      exact PySem.P.repr_of_str ⟨.str (reprText y), H, I.tok _, ⟨_, rfl⟩, fin⟩ (by rw [sizeLine_eq]; exact h2)
    | list xs => obtain ⟨a, _, ha, _⟩ := r0.list_inv; exact href a ha
    | tuple xs => obtain ⟨a, _, ha, _⟩ := r0.tup_inv; exact href a ha
    | dict kvs =>
      cases r0 with
      | rep h =>
        cases h with
        | dct _ _ => exact href _ rfl
  · cases e
end
end BV
set_option Elab.async false
set_option linter.all false
set_option maxRecDepth 100000
set_option maxHeartbeats 2000000
/-! BV11: methods; isinstance; slices. -/
namespace BV
open PySem PySem.Spec L2
open PyProof.Rows hiding St

/-- what a method's call asks -/
def rDM (K : PySem.W.Frag) (f : D → List D → Option D) (fr : Bool) : V → List V → Hp → VK → Prop := fun x vs H Q => ∃ (N : Addr → Prop) (dx : D) (ds : List D) (d : D), (∀ a, N a → H a ≠ none) ∧ RepT K N H x dx ∧ RepTA K N H vs ds ∧ f dx ds = some d ∧
  ∀ v H', Keep none_ H H' → Rep K N H' v d → (fr = true → New K N v d H H') → Q v H'
theorem tyV_of {K : PySem.W.Frag} {N : Addr → Prop} {H : Hp} {v : V} {d : D} {T : String} (h : isT T d = true) (r : RepT K N H v d) : tyV K T v H := by
  unfold isT at h
  split at h
  · rw [r.str_inv.1]; rfl
  · obtain ⟨a, xs, rfl, h1, _⟩ := r.list_inv
    exact .inl ⟨rfl, xs, .inl h1⟩
  · cases r with
    | rep r =>
      cases r with
      | dct h _ => exact .inr (.inr (.inl ⟨rfl, .inl ⟨_, h⟩⟩))
  · cases h
section
variable {X : Cx} {XD : XP} {W : WX} {Γ : List Sh} {a b e : Expr} {es : List Expr} {ma mb : Ev → Out D} {m : Ev → Out (List D)} {pos p p2 : Pos} {ba bb bc fa fb qa qb : Bool} {x : Str}
theorem ve_meth {f : D → List D → Option D} {fr : Bool} {T : String} {r : V → List V → Hp → VK → Prop} (mk : ∀ to ta, PE X a to → PA X es ta → PE X e (tBM X.K T r to ta)) (ht : ∀ x vs H Q, rDM X.K f fr x vs H Q → r x vs H Q)
    (ha : VE X XD W Γ a ba fa qa ma) (hb : VA X XD W Γ es bb qb m) (hq : ba = true → qb = true) :
    VE X XD W Γ e bc fr (qa && qb) (fun ρ => (ma ρ).bind fun x ρ => if isT T x = true then (m ρ).bind fun ds ρ => Out.lift (f x ds) ρ else .stk) := by
  refine ⟨fun Z fx O hx => PEimp (mk _ _ (ha.pe Z fx O hx) (hb.pa Z fx O hx)) fun σ H Q h => ?_⟩
  obtain ⟨ρ, S, h⟩ := h
  dsimp only at h
  rw [Out.Post.bind] at h
  refine ⟨ρ, S, h.mono (fun d ρ1 h1 v H1 S1 k1 q1 r1 _ => ?_) fun _ _ z => z⟩
  by_cases c : isT T d = true
  · rw [if_pos c, Out.Post.bind] at h1
    refine ⟨tyV_of c r1.toT, ρ1, S1, h1.mono (fun ds ρ2 h2 vs H2 S2 k2 q2 r2 => ?_) fun x ρ2 z cls dd H2 S2 k2 => z cls dd H2 S2 (k1.trans k2)⟩
    cases e : f d ds with
    | none => rw [e] at h2; exact h2.elim
    | some r =>
      rw [e] at h2
      refine ht _ _ _ _ ⟨NN Z O, d, ds, r, S2.trk, r1.carry k2 oo_nn (fun z => q2 (hq z)), r2.toT, e, fun w H3 k3 r3 f3 => ?_⟩
      refine h2 w H3 (S2.keep k3) ((k1.trans k2).trans k3.all) (fun z => ((q1 (Bool.and_eq_true_iff.mp z).1).trans (q2 (Bool.and_eq_true_iff.mp z).2)).trans k3) ?_ (fun z => ?_)
      · cases bc with
        | true => exact .rep r3
        | false => exact r3
      · obtain ⟨p, xs, ds, e1, e4, e2, e3, e5⟩ := f3 z
        exact ⟨p, xs, ds, e1, e4, S2.back (k1.trans k2) e2, e3, e5.imp (fun _ z => NN_addZ z), S2.more e2 k3 (by rw [e3]; exact fun z => nomatch z)⟩
  · rw [if_neg c] at h1
    exact h1.elim

theorem len_join (sep : Str) (ys : List Str) : (Str.join sep ys).length = (ys.map (·.length)).sum + (ys.length - 1) * sep.length := by
  rw [← PySem.StrLaws.glued_eq_join]
  exact PySem.size_glued sep ys
theorem sum_join (sep : Str) : ∀ xs : List D, xs.all isStr = true → joinLen sep xs = ((xs.map strOf).map (·.length)).sum + (xs.map strOf).length * sep.length
  | [], _ => by simp [joinLen]
  | x :: xs, h => by
    have h' := Bool.and_eq_true_iff.mp (show (isStr x && _) = true from h)
    have ih := sum_join sep xs h'.2
    unfold joinLen at ih ⊢
    cases x <;> first | (cases h'.1; done) | skip
    simp only [List.map_cons, List.sum_cons, ih, List.length_cons, strOf, Nat.succ_mul]
    omega
theorem join_eq (sep : Str) (xs : List D) : joinD sep xs = Str.join sep (xs.map strOf) := by
  unfold joinD
  congr 1
theorem join_fin {K : PySem.W.Frag} {N : Addr → Prop} {H : Hp} {sep : Str} {xs : List D} (g : strG sep) (gz : ∀ z ∈ xs.map strOf, strG z) (hl : ((xs.map strOf).map (·.length)).sum + (xs.map strOf).length * sep.length ≤ LIM) : strG (joinD sep xs) := by
  rw [join_eq]
  refine Bool.and_eq_true_iff.mpr ⟨ok_join g.ok fun t ht => (gz t ht).ok, Nat.ble_eq_true_of_le ?_⟩
  rw [len_join]
  have : ((xs.map strOf).length - 1) * sep.length ≤ (xs.map strOf).length * sep.length := Nat.mul_le_mul_right _ (Nat.sub_le _ _)
  omega
theorem md_join : MtR X "str.join" (rDM X.K (opMth .join) false) := by
  intro pins s σ H x xs v us Q I rx rs h
  obtain ⟨N, dx, ds, d, hN, r0, r1, e, q⟩ := h
  have key : ∀ {sep : Str} {zs : List D} {p : Addr} {ys : List V} {v1 : V}, dx = .str sep → xs = [.ref p] → (SqL X.K H p ys ∨ SqT X.K H p ys) → RepA X.K N H ys zs → (if zs.all isStr = true ∧ joinLen sep zs ≤ LIM then some (PyData.str (joinD sep zs)) else none) = some d →
      wpAny (model X.prog X.w) X.A (call (.builtin "str.join") (v :: us)) (EP X pins σ Q) X.xe s := by
    intro sep zs p ys v1 h1 h2 h3 h4 h5
    subst h1 h2
    obtain ⟨⟨h6, h7⟩, rfl⟩ := if_some h5
    obtain ⟨rfl, g⟩ := r0.str_inv
    obtain ⟨h8, h9⟩ := repA_strs h4 h6
    rw [sum_join sep zs h6] at h7
    subst h8
    refine mt_join pins s σ H _ _ v us Q I rx rs ⟨sep, p, zs.map strOf, rfl, rfl, h3, h7, ?_⟩
    have e2 : Txt.join sep (zs.map strOf) = joinD sep zs := by
      rw [join_eq, ← PySem.StrLaws.glued_eq_join]
      all_goals rfl
    rw [e2]
    exact q _ H Keep.refl (.str _ (join_fin (K := X.K) (N := N) (H := H) g h9 h7)) fun z => nomatch z
  rcases ds with _ | ⟨d0, _ | ⟨d1, r⟩⟩
  · cases dx <;> cases e
  · obtain ⟨v, rfl, r2⟩ := r1.one_inv
    cases dx <;> first | (cases e; done) | skip
    · cases d0 with
      | list zs => obtain ⟨p, ys, rfl, h1, h2⟩ := r2.list_inv; exact key (v1 := .non) rfl rfl (.inl (.inl h1)) h2 e
      | tuple zs => obtain ⟨p, ys, rfl, h1, _, h2⟩ := r2.tup_inv; exact key (v1 := .non) rfl rfl (.inr h1) h2 e
      | _ => cases e
  · cases dx <;> cases d0 <;> first | (cases e; done) | (cases d1 <;> cases r <;> first | (cases e; done) | skip)
theorem count_inv {dx d : D} {ds : List D} (e : opMth .count dx ds = some d) : ∃ xs x, dx = .list xs ∧ ds = [x] ∧ noDict x = true ∧ noDicts xs = true ∧ x.depth ≤ 64 ∧ d = .int (xs.countP fun y => PyData.eqv y x) := by
  cases dx <;> try (cases ds <;> (try cases e) <;> (rename_i t; cases t <;> cases e))
  rename_i xs
  rcases ds with _ | ⟨x, _ | ⟨d1, r⟩⟩
  · cases e
  · obtain ⟨h, rfl⟩ := if_some e
    obtain ⟨h1, h2⟩ := Bool.and_eq_true_iff.mp h
    obtain ⟨h3, h4⟩ := Bool.and_eq_true_iff.mp h1
    exact ⟨xs, x, rfl, rfl, h3, h4, of_decide_eq_true h2, rfl⟩
  · cases e
theorem md_count (hu : X.A.units + 70 < cLine) : MtR X "list.count" (rDM X.K (opMth .count) false) := by
  intro pins s σ H x xs v us Q I rx rs h
  obtain ⟨N, dx, ds, d, hN, r0, r1, e, q⟩ := h
  obtain ⟨zs, z, rfl, rfl, n1, n2, hd, rfl⟩ := count_inv e
  obtain ⟨y, rfl, r2⟩ := r1.one_inv
  obtain ⟨a, ys, rfl, h1, h2⟩ := r0.list_inv
  obtain ⟨uy, rfl, ry⟩ := vals1 rs
  cases rx
  obtain ⟨bs, rd⟩ := Dp.reads I z y uy (r2.dp n1) ry
  obtain ⟨its, rv, ⟨⟨cls, dd, data, sls⟩, n, ho, hc, hdn, hdt⟩, hlen⟩ := I.list (.inl h1)
  simp only at hc hdt
  subst hc hdt
  obtain ⟨as, h4⟩ := Dp.readsAll I zs _ its (h2.dp n2) rv
  have hxs : PyData.canLayAll0 zs = true := h2.lay n2
  have hmap : its.map (SeqAt.readOf s.heap) = zs := SeqAt.readsAll_map zs its as hxs h4
  have hroom : X.A.units + 1 + min (PyData.depthAll zs) z.depth < cLine := by omega
  refine call_meets PySem.F.slot_list_count ⟨_, ho, rfl⟩ PySem.F.entry_list_count (PySem.F.args_list_count_2 _ _)
    (SeqAt.list_countAt a its.toArray n dd sls uy (fun u => PyData.eqv (SeqAt.readOf s.heap u) z)) ⟨ho, SeqAt.items_eqAt (vs := its.toArray) (show ReadsAll s.heap its.toArray.toList zs as from h4) rd hxs (r2.lay n1) hroom, ?_⟩
  refine ⟨.int _, H, I.tok _, ⟨_, rfl⟩, q _ H Keep.refl ?_ fun z => nomatch z⟩
  rw [← hmap, List.countP_map]
  exact .int _
end

/-! ### arguments as they are written -/
def noStar : Expr → Bool
  | .Starred _ _ => false
  | _ => true
theorem star_cons {e : Expr} {es : List Expr} {env : PySem.Env} (h : noStar e = true) : starEach (e :: es) env = (false, eval e env) :: starEach es env := by
  cases e <;> first | rfl | cases h
theorem star_any {env : PySem.Env} {pos : Pos} : ∀ {es : List Expr}, es.all noStar = true → (backTo pos (starEach es env)).any (·.1) = false
  | [], _ => rfl
  | e :: es, h => by
    have h' := Bool.and_eq_true_iff.mp (show (noStar e && es.all noStar) = true from h)
    rw [star_cons h'.1]
    show (false || (backTo pos (starEach es env)).any (·.1)) = false
    rw [star_any h'.2] <;> rfl
theorem star_all {env : PySem.Env} {pos : Pos} : ∀ {es : List Expr}, es.all noStar = true → (backTo pos (starEach es env)).all (fun x => !x.1) = true
  | [], _ => rfl
  | e :: es, h => by
    have h' := Bool.and_eq_true_iff.mp (show (noStar e && es.all noStar) = true from h)
    rw [star_cons h'.1]
    show (true && (backTo pos (starEach es env)).all (fun x => !x.1)) = true
    rw [star_all h'.2] <;> rfl
def plainO : Expr → Bool
  | .Name _ _ => true
  | .Constant _ _ _ => true
  | .Subscript _ _ _ => true
  | _ => false
theorem plainO_is {o : Expr} {x : Str} {env : PySem.Env} (h : plainO o = true) : attributeBase o x env (eval o env) = eval o env := by
  cases o <;> first | rfl | cases h
section
variable {X : Cx} {XD : XP} {W : WX} {Γ : List Sh} {a b e : Expr} {es : List Expr} {ma mb : Ev → Out D} {m : Ev → Out (List D)} {pos p p2 apos : Pos} {ba bb bc fa fb qa qb : Bool} {x : Str}
/-- a method's name, its place in the library -/
def Mth.name : Mth → Str
  | .join => "join"
  | .count => "count"
  | .index => "index"
  | .get1 => "get"
  | .get2 => "get"
  | .split => "split"
  | .items => "items"
theorem ve_mth {T id : String} {k : Mth} (hk : T = k.ty) (pa : PlainAttrs T) (slot : _root_.PySem.Slot T x id) (hty : typeOf (.builtin id) = pure (.type "method_descriptor")) (hm : MtR X id (rDM X.K (opMth k) false)) (hline : (apos.endLine == pos.line) = true)
    (ho : plainO a = true) (hs : (e :: es).all noStar = true) (hl : (e :: es).length < 30) (ha : VE X XD W Γ a ba fa qa ma) (hb : VA X XD W Γ (e :: es) bb qb m) (hq : ba = true → qb = true) :
    VE X XD W Γ (.Call (.Attribute a x apos) (e :: es) [] pos) bc false (qa && qb) (fun ρ => (ma ρ).bind fun x ρ => if isT k.ty x = true then (m ρ).bind fun ds ρ => Out.lift (opMth k x ds) ρ else .stk) := by
  subst hk
  refine ve_meth (r := rDM X.K (opMth k) false) (fun to ta h1 h2 => pe_bm pa slot hty hm h1 h2 (plainO_is ho) ?_ hline (star_cons ?_) (star_any ?_)) (fun _ _ _ _ z => z) ha hb hq
  · rw [star_all hs]
    have : decide ((e :: es).length + 0 + 0 < 30) = true := decide_eq_true hl
    rw [Bool.true_and]
    exact this
  · exact (Bool.and_eq_true_iff.mp (show (noStar e && es.all noStar) = true from hs)).1
  · exact (Bool.and_eq_true_iff.mp (show (noStar e && es.all noStar) = true from hs)).2
theorem ve_count (hu : X.A.units + 70 < cLine) (hline : (apos.endLine == pos.line) = true)
    (ho : plainO a = true) (hs : (e :: es).all noStar = true) (hl : (e :: es).length < 30) (ha : VE X XD W Γ a ba fa qa ma) (hb : VA X XD W Γ (e :: es) bb qb m) (hq : ba = true → qb = true) :
    VE X XD W Γ (.Call (.Attribute a "count" apos) (e :: es) [] pos) bc false (qa && qb) (fun ρ => (ma ρ).bind fun x ρ => if isT Mth.count.ty x = true then (m ρ).bind fun ds ρ => Out.lift (opMth .count x ds) ρ else .stk) :=
  ve_mth rfl PySem.F.plainAttrs_list PySem.F.slot_list_count PySem.F.type_list_count (md_count hu) hline ho hs hl ha hb hq
theorem ve_join (hline : (apos.endLine == pos.line) = true)
    (ho : plainO a = true) (hs : (e :: es).all noStar = true) (hl : (e :: es).length < 30) (ha : VE X XD W Γ a ba fa qa ma) (hb : VA X XD W Γ (e :: es) bb qb m) (hq : ba = true → qb = true) :
    VE X XD W Γ (.Call (.Attribute a "join" apos) (e :: es) [] pos) bc false (qa && qb) (fun ρ => (ma ρ).bind fun x ρ => if isT Mth.join.ty x = true then (m ρ).bind fun ds ρ => Out.lift (opMth .join x ds) ρ else .stk) :=
  ve_mth rfl PySem.F.plainAttrs_str PySem.F.slot_str_join PySem.F.type_str_join md_join hline ho hs hl ha hb hq

/-! ### isinstance -/
def Ty.name : Ty → String
  | .int => "int"
  | .str => "str"
  | .bool => "bool"
  | .tuple => "tuple"
  | .list => "list"
  | .dict => "dict"
def tyD : D → String
  | .none => "NoneType"
  | .bool _ => "bool"
  | .int _ => "int"
  | .str _ => "str"
  | .list _ => "list"
  | .tuple _ => "tuple"
  | .dict _ => "dict"
theorem tyX_of {K : PySem.W.Frag} {N : Addr → Prop} {H : Hp} {v : V} {d : D} (r : RepT K N H v d) : TyX K H v (.type (tyD d)) := by
  cases d with
  | none => rw [r.none_inv]; exact .base .non
  | bool b => rw [r.bool_inv]; exact .base (.bl b)
  | int i => rw [r.int_inv]; exact .base (.int i)
  | str y => rw [r.str_inv.1]; exact .base (.str y)
  | list ds =>
    obtain ⟨a, xs, rfl, h1, _⟩ := r.list_inv
    rcases h1 with h1 | ⟨o, h1⟩
    · exact .base (.lst h1)
    · exact .base (.frz h1)
  | tuple ds =>
    obtain ⟨a, xs, rfl, h1, _⟩ := r.tup_inv
    rcases h1 with (h1 | ⟨o, h1⟩) | ⟨o, its, n, h1, h2, _⟩
    · exact .base (.tup h1)
    · exact .fTuple h1
    · exact .kTuple h1 h2
  | dict kvs =>
    cases r with
    | rep r =>
      cases r with
      | dct h _ => exact .base (.dK h)
theorem kit_D {K : PySem.W.Frag} (t : Ty) (d : D) : PySem.W.kitOne K (.type (tyD d)) (.type t.name) = some (isTy t d) := by
  cases d with
  | dict ys => show PySem.W.kitOne K (.type "dict") _ = _; cases t <;> first | exact kit_ty (r := true) (by decide +kernel) | exact kit_ty (r := false) (by decide +kernel)
  | none => show PySem.W.kitOne K (.type "NoneType") _ = _; cases t <;> first | exact kit_ty (r := true) (by decide +kernel) | exact kit_ty (r := false) (by decide +kernel)
  | bool b => show PySem.W.kitOne K (.type "bool") _ = _; cases t <;> first | exact kit_ty (r := true) (by decide +kernel) | exact kit_ty (r := false) (by decide +kernel)
  | int i => show PySem.W.kitOne K (.type "int") _ = _; cases t <;> first | exact kit_ty (r := true) (by decide +kernel) | exact kit_ty (r := false) (by decide +kernel)
  | str y => show PySem.W.kitOne K (.type "str") _ = _; cases t <;> first | exact kit_ty (r := true) (by decide +kernel) | exact kit_ty (r := false) (by decide +kernel)
  | list ys => show PySem.W.kitOne K (.type "list") _ = _; cases t <;> first | exact kit_ty (r := true) (by decide +kernel) | exact kit_ty (r := false) (by decide +kernel)
  | tuple ys => show PySem.W.kitOne K (.type "tuple") _ = _; cases t <;> first | exact kit_ty (r := true) (by decide +kernel) | exact kit_ty (r := false) (by decide +kernel)
theorem ve_isi {t : Ty} {T : Str} {pi pT : Pos} (hg : Gl X "isinstance") (hm : X.mg "isinstance" = none) (hgT : Gl X T) (hmT : X.mg T = none) (hvT : bootBuiltins T = some (.type t.name)) (hn : T ≠ "__name__") (hd : (T == ("__debug__" : Str)) = false)
    (hs : noStar a = true) (ha : VE X XD W Γ a ba fa qa ma) :
    VE X XD W Γ (.Call (.Name "isinstance" pi) [a, .Name T pT] [] pos) bc false qa (fun ρ => (ma ρ).bind fun x ρ => .ok (.bool (isTy t x)) ρ) := by
  refine ⟨fun Z fx O hx => PEimp (pe_callB call_isi hg hm rfl (pa_cons (ha.pe Z fx O hx) (pa_cons (pe_bltn (v := .ty t.name) hgT hmT hvT rfl hn hd) pa_nil (star_cons rfl)) (star_cons hs)) (he := star_cons hs) (hpl := star_any rfl)) fun σ H Q h => ?_⟩
  obtain ⟨ρ, S, h⟩ := h
  dsimp only at h
  rw [Out.Post.bind] at h
  refine ⟨ρ, S, h.mono (fun d ρ1 h1 v H1 S1 k1 q1 r1 _ => ?_) fun _ _ z => z⟩
  refine ⟨v, .ty t.name, _, _, _, rfl, .ty _, tyX_of r1.toT, kit_D t d, ?_⟩
  refine h1 _ H1 S1 k1 q1 ?_ (fun z => nomatch z)
  cases bc with
  | true => exact .rep (.bl _)
  | false => exact .bl _

/-! ### slices -/
theorem clip_eq (n d : Nat) (o : Option Int) : HT.sIx n d o = clip n d o := by
  cases o <;> rfl
theorem RepA.cut {K : PySem.W.Frag} {N : Addr → Prop} {H : Hp} {vs : List V} {ds : List D} (r : RepA K N H vs ds) (lo hi : Option Int) : RepA K N H (cutV vs lo hi) (cutL ds lo hi) := by
  unfold cutV cutL
  rw [clip_eq, clip_eq, r.length]
  exact (r.drop _).take _
/-- the slices -/
def rSlD (K : PySem.W.Frag) (fr : Bool) : V → Option Int → Option Int → Hp → VK → Prop := fun x lo hi H Q => ∃ (N : Addr → Prop) (dx d : D), (∀ a, N a → H a ≠ none) ∧ RepT K N H x dx ∧ opSlc dx lo hi = some d ∧
  ∀ v H', Keep none_ H H' → Rep K N H' v d → Q v H'
theorem sl_D : SlR X (rSlD X.K false) := by
  intro pins s σ H x v vl vu lo hi sl Q I rx hs pl pu h
  obtain ⟨N, dx, d, hN, r, e, q⟩ := h
  cases dx with
  | list zs =>
    obtain ⟨a, xs, rfl, h1, h2⟩ := r.list_inv
    cases e
    refine sl_list pins s σ H _ v vl vu lo hi sl Q I rx hs pl pu ⟨a, xs, rfl, .inl h1, fun p hp => ?_⟩
    have kn : Keep none_ H (upd H p (.lst (cutV xs lo hi))) := Keep.new hp
    exact q _ _ kn (.lst (.inl upd_same) (fun z => hN p z hp) ((h2.cut lo hi).keep kn fun _ z => z.elim))
  | tuple zs =>
    obtain ⟨a, xs, rfl, h1, n, h2⟩ := r.tup_inv
    cases e
    refine sl_tupA pins s σ H _ v vl vu lo hi sl Q I rx hs pl pu ⟨a, xs, rfl, h1, fun hw => ?_, fun _ p hp => ?_⟩
    · have e2 : cutL zs lo hi = zs := by
        unfold cutL
        rw [clip_eq, clip_eq, h2.length] at hw
        rw [hw.1, hw.2]
        simp
      exact q _ H Keep.refl (e2.symm ▸ .tup n h2)
    · have kn : Keep none_ H (upd H p (.tup (cutV xs lo hi))) := Keep.new hp
      exact q _ _ kn (.tup (.new upd_same (fun z => hN p z hp)) ((h2.cut lo hi).keep kn fun _ z => z.elim))
  | str z =>
    obtain ⟨rfl, g⟩ := r.str_inv
    cases e
    refine sl_str pins s σ H _ v vl vu lo hi sl Q I rx hs pl pu ⟨z, rfl, by rw [sizeLine_eq]; exact g.len, ?_⟩
    have e2 : cutS z lo hi = ⟨(cutL z.cps.toList lo hi).toArray⟩ := by
      unfold cutS cutL
      rw [clip_eq, clip_eq]
      rfl
    rw [e2]
    refine q _ H Keep.refl (.str _ (Bool.and_eq_true_iff.mpr ⟨?_, Nat.ble_eq_true_of_le ?_⟩))
    · rw [ok_iff]
      intro c hc
      have h1 := ok_iff.mp g.ok
      refine h1 c ?_
      have hc' : c ∈ cutL z.cps.toList lo hi := hc
      unfold cutL at hc'
      exact List.mem_of_mem_drop (List.mem_of_mem_take hc')
    · have h1 := g.len
      show (cutL z.cps.toList lo hi).toArray.size ≤ LIM
      unfold cutL
      rw [List.size_toArray, List.length_take, List.length_drop]
      have h2 : z.cps.toList.length = z.length := rfl
      omega
  | _ => cases e
/-- a slice's part -/
structure VO (X : Cx) (XD : XP) (W : WX) (Γ : List Sh) (e : Option Expr) (q : Bool) (m : Ev → Out (Option Int)) : Prop where
  po : ∀ Z fx O, HX X XD fx → PO X e (fun σ H Q => ∃ ρ, SR X.K Z Γ fx ρ σ H O ∧
    (m ρ).Post (fun o ρ' => ∀ H', SR X.K Z Γ fx ρ' σ H' O → Keep (OO O) H H' → (q = true → Keep none_ H H') → Q o H') (fun x ρ' => ∀ cls d H', SR X.K Z Γ fx ρ' σ H' O → Keep (OO O) H H' → XD.xd cls d H' x → W cls d σ H'))
theorem POimp {e : Option Expr} {t t' : TO} (h : PO X e t) (i : ∀ σ H Q, t' σ H Q → t σ H Q) : PO X e t' := ⟨fun pins s σ H Q I q => h.run pins s σ H Q I (i σ H Q q)⟩
theorem vo_none : VO X XD W Γ none true (fun ρ => .ok none ρ) := ⟨fun Z fx O hx => POimp po_none fun σ H Q h => by
  obtain ⟨ρ, S, h⟩ := h
  skip
  exact h H S Keep.refl fun _ => Keep.refl⟩
theorem vo_some (ha : VE X XD W Γ a ba fa qa ma) : VO X XD W Γ (some a) qa (fun ρ => (ma ρ).bind fun y ρ => Out.lift (partOf y) ρ) := ⟨fun Z fx O hx => POimp (po_some (ha.pe Z fx O hx)) fun σ H Q h => by
  obtain ⟨ρ, S, h⟩ := h
  skip
  rw [Out.Post.bind] at h
  refine ⟨ρ, S, h.mono (fun d ρ1 h1 v H1 S1 k1 q1 r1 _ => ?_) fun _ _ z => z⟩
  cases d with
  | int i => exact ⟨i, r1.toT.int_inv, h1 H1 S1 k1 q1⟩
  | _ => exact h1.elim⟩
theorem ve_slc {lo hi : Option Expr} {ml mh : Ev → Out (Option Int)} {ql qh : Bool} (ha : VE X XD W Γ a ba fa qa ma) (hl : VO X XD W Γ lo ql ml) (hh : VO X XD W Γ hi qh mh) (hq : ba = true → (ql && qh) = true) :
    VE X XD W Γ (.Subscript a (.Slice lo hi none p2) pos) bc false (qa && (ql && qh)) (fun ρ => (ma ρ).bind fun x ρ => (ml ρ).bind fun l ρ => (mh ρ).bind fun h ρ => Out.lift (opSlc x l h) ρ) := by
  refine ⟨fun Z fx O hx => PEimp (pe_slice sl_D (ha.pe Z fx O hx) (hl.po Z fx O hx) (hh.po Z fx O hx)) fun σ H Q h => ?_⟩
  obtain ⟨ρ, S, h⟩ := h
  dsimp only at h
  rw [Out.Post.bind] at h
  refine ⟨ρ, S, h.mono (fun d ρ1 h1 v H1 S1 k1 q1 r1 _ => ?_) fun _ _ z => z⟩
  rw [Out.Post.bind] at h1
  refine ⟨ρ1, S1, h1.mono (fun l ρ2 h2 H2 S2 k2 q2 => ?_) fun x ρ2 z cls dd H2 S2 k2 => z cls dd H2 S2 (k1.trans k2)⟩
  rw [Out.Post.bind] at h2
  refine ⟨ρ2, S2, h2.mono (fun u ρ3 h3 H3 S3 k3 q3 => ?_) fun x ρ3 z cls dd H3 S3 k3 => z cls dd H3 S3 ((k1.trans k2).trans k3)⟩
  cases e : opSlc d l u with
  | none => rw [e] at h3; exact h3.elim
  | some r =>
    rw [e] at h3
    refine ⟨NN Z O, d, r, S3.trk, r1.carry (k2.trans k3) oo_nn (fun z => ?_), e, fun w H4 k4 r4 => ?_⟩
    · obtain ⟨z1, z2⟩ := Bool.and_eq_true_iff.mp (hq z)
      exact (q2 z1).trans (q3 z2)
    · refine h3 w H4 (S3.keep k4) (((k1.trans k2).trans k3).trans k4.all) (fun z => ?_) ?_ (fun z => nomatch z)
      · obtain ⟨z1, z2⟩ := Bool.and_eq_true_iff.mp z
        obtain ⟨z3, z4⟩ := Bool.and_eq_true_iff.mp z2
        exact (((q1 z1).trans (q2 z3)).trans (q3 z4)).trans k4
      · cases bc with
        | true => exact .rep r4
        | false => exact r4
/-! ### -a -/
theorem ve_neg (ha : VE X XD W Γ a ba fa qa ma) : VE X XD W Γ (.UnaryOp .USub a pos) bc false qa (fun ρ => (ma ρ).bind fun x ρ => (match x with
    | .int i => .ok (.int (-i)) ρ
    | _ => .stk)) := by
  refine ⟨fun Z fx O hx => PEimp (pe_un un_neg (ha.pe Z fx O hx)) fun σ H Q h => ?_⟩
  obtain ⟨ρ, S, h⟩ := h
  dsimp only at h
  rw [Out.Post.bind] at h
  refine ⟨ρ, S, h.mono (fun d ρ1 h1 v H1 S1 k1 q1 r1 _ => ?_) fun _ _ z => z⟩
  cases d with
  | int i =>
    refine ⟨i, r1.toT.int_inv, h1 _ H1 S1 k1 q1 ?_ (fun z => nomatch z)⟩
    cases bc with
    | true => exact .rep (.int _)
    | false => exact .int _
  | _ => exact h1.elim
end
end BV
set_option Elab.async false
set_option linter.all false
set_option maxRecDepth 100000
set_option maxHeartbeats 4000000
/-! BV12: targets, what is walked, list comprehensions. -/
namespace BV
open PySem PySem.Spec L2
open PyProof.Rows hiding St

/-! ### slots -/
section
variable {K : PySem.W.Frag} {Z : Addr → Prop} {Γ : List Sh} {fx : List FX} {ρ : Ev} {σ : L2.St} {H H' : Hp} {O : Nat → List Addr}
theorem getV_set {ρ : Ev} {i j : Nat} {d : Option D} : getV (ρ.set i d) j = if i = j then (if i < ρ.length then d else none) else getV ρ j := by
  unfold getV
  by_cases h : i = j
  · subst h
    rw [if_pos rfl]
    by_cases hi : i < ρ.length
    · rw [if_pos hi, List.getElem?_set_self hi]; rfl
    · rw [if_neg hi, List.getElem?_eq_none (by rw [List.length_set]; omega)]; rfl
  · rw [if_neg h, List.getElem?_set_ne h]
theorem getS_set {σ : L2.St} {i j : Nat} {d : Option V} : getS (σ.set i d) j = if i = j then (if i < σ.length then d else none) else getS σ j := by
  unfold getS
  by_cases h : i = j
  · subst h
    rw [if_pos rfl]
    by_cases hi : i < σ.length
    · rw [if_pos hi, List.getElem?_set_self hi]; rfl
    · rw [if_neg hi, List.getElem?_eq_none (by rw [List.length_set]; omega)]; rfl
  · rw [if_neg h, List.getElem?_set_ne h]
theorem lt_of_get {α : Type} {l : List α} {i : Nat} {a : α} (h : l[i]? = some a) : i < l.length := by
  obtain ⟨h, _⟩ := List.getElem?_eq_some_iff.mp h; exact h
theorem SR.fzO (s : SR K Z Γ fx ρ σ H O) {i : Nat} (h : Γ[i]? = some .fz) : O i = [] := by
  have := s.slot i _ h
  cases e : getV ρ i with
  | none => rw [e] at this; exact this
  | some d => rw [e] at this; exact this.1
/-- a frozen slot set anew -/
theorem SR.setFz (s : SR K Z Γ fx ρ σ H O) {i : Nat} {v : V} {d : D} (h : Γ[i]? = some .fz) (r : Rep K (NN Z O) H v d) (hf : ∀ p ∈ fx, p.1 ≠ i) : SR K Z Γ fx (ρ.set i (some d)) (σ.set i (some v)) H O where
  lenR := by rw [List.length_set]; exact s.lenR
  lenS := by rw [List.length_set]; exact s.lenS
  slot := fun j sh e => by
    rw [getV_set, getS_set]
    by_cases hj : i = j
    · subst hj
      have hlt := lt_of_get h
      rw [if_pos rfl, if_pos rfl, if_pos (by rw [s.lenR]; exact hlt), if_pos (by rw [s.lenS]; exact hlt)]
      rw [h] at e
      cases e
      exact ⟨s.fzO h, v, rfl, r⟩
    · rw [if_neg hj, if_neg hj]
      exact s.slot j sh e
  out := s.out
  dis := s.dis
  trk := s.trk
  zo := s.zo
  sm := s.sm
  fix := fun p hp => by
    rw [getS_set, if_neg (fun z => hf p hp z.symm)]
    exact s.fix p hp
/-- a slot forgotten -/
theorem SR.clear (s : SR K Z Γ [] ρ σ H O) {i : Nat} (h : Γ[i]? = some .fz) : SR K Z Γ [] (ρ.set i none) (σ.set i none) H O where
  lenR := by rw [List.length_set]; exact s.lenR
  lenS := by rw [List.length_set]; exact s.lenS
  slot := fun j sh e => by
    rw [getV_set, getS_set]
    by_cases hj : i = j
    · subst hj
      rw [if_pos rfl]
      rw [h] at e
      cases e
      have : (if i < ρ.length then (none : Option D) else none) = none := by split <;> rfl
      rw [this]
      exact s.fzO h
    · rw [if_neg hj, if_neg hj]
      exact s.slot j sh e
  out := s.out
  dis := s.dis
  trk := s.trk
  zo := s.zo
  sm := s.sm
  fix := fun p hp => by cases hp
theorem SR.wiped (s : SR K Z Γ [] ρ σ H O) : ∀ {own : List Nat}, (∀ i ∈ own, Γ[i]? = some .fz) → SR K Z Γ [] (wipeE ρ own) (wipe σ own) H O
  | [], _ => s
  | i :: is, h => (SR.wiped s fun j hj => h j (List.mem_cons_of_mem _ hj)).clear (h i (List.mem_cons_self ..))
theorem SR.nofix (s : SR K Z Γ fx ρ σ H O) : SR K Z Γ [] ρ σ H O := ⟨s.lenR, s.lenS, s.slot, s.out, s.dis, s.trk, s.zo, (fun p hp => by cases hp), s.sm⟩
/-- changes at forbidden objects -/
theorem Slot.keepN {N : Addr → Prop} {P : Addr → Prop} {sh : Sh} {d : Option D} {v : Option V} {Os : List Addr} (s : Slot K N H sh d v Os) (k : Keep P H H') (hP : ∀ a, P a → N a) (hO : ∀ a ∈ Os, ¬ P a) : Slot K N H' sh d v Os := by
  cases d with
  | none => cases sh <;> exact s
  | some d =>
    cases sh with
    | ex => exact s
    | fz => obtain ⟨e, x, h1, h2⟩ := s; exact ⟨e, x, h1, h2.keep k hP⟩
    | l1 => obtain ⟨a, xs, ds, h1, h2, h3, h4, h5⟩ := s; exact ⟨a, xs, ds, h1, h2, k _ _ h3 (hO a (by rw [h2]; simp)), h4, h5.keep k hP⟩
    | dk =>
      obtain ⟨a, b, x, xs, ys, d0, ds, es, h1, h2, h3, h4, h5, h6, h7, h8, h9⟩ := s
      exact ⟨a, b, x, xs, ys, d0, ds, es, h1, h2, h3, k _ _ h4 (hO a (by rw [h2]; simp)), k _ _ h5 (hO b (by rw [h2]; simp)), h6, h7.keep k hP, h8.keep k hP, h9.keep k hP⟩
theorem SR.keepZ (s : SR K Z Γ fx ρ σ H O) (k : Keep Z H H') (t : ∀ a, Z a → H' a ≠ none) : SR K Z Γ fx ρ σ H' O where
  lenR := s.lenR
  lenS := s.lenS
  slot := fun i sh e => (s.slot i sh e).keepN k (fun a z => .inl z) fun a m z => s.zo a i z m
  out := s.out
  dis := s.dis
  trk := fun a h e => by
    by_cases z : Z a
    · exact t a z e
    · cases q : H a with
      | none => exact s.trk a h q
      | some o =>
        rw [k a o q z] at e
        cases e
  zo := s.zo
  sm := s.sm
  fix := s.fix
end

/-! ### targets -/
mutual
def Tg.slots : Tg → List Nat
  | .s i => [i]
  | .t ts => ts.slots
  | .nil => []
  | .cons a r => a.slots ++ r.slots
end
/-- nothing but the slots of is has changed -/
def Agree (is : List Nat) (σ σ' : L2.St) : Prop := σ'.length = σ.length ∧ ∀ i, i ∉ is → σ'[i]? = σ[i]?
theorem Agree.refl {is : List Nat} {σ : L2.St} : Agree is σ σ := ⟨rfl, fun _ _ => rfl⟩
theorem Agree.trans {is : List Nat} {σ σ1 σ2 : L2.St} (a : Agree is σ σ1) (b : Agree is σ1 σ2) : Agree is σ σ2 := ⟨b.1.trans a.1, fun i h => (b.2 i h).trans (a.2 i h)⟩
theorem Agree.mono {is js : List Nat} {σ σ' : L2.St} (a : Agree is σ σ') (h : ∀ i ∈ is, i ∈ js) : Agree js σ σ' := ⟨a.1, fun i n => a.2 i fun z => n (h i z)⟩
theorem Agree.set {i : Nat} {σ : L2.St} {v : Option V} : Agree [i] σ (σ.set i v) := ⟨List.length_set .., fun j h => List.getElem?_set_ne (by simp only [List.mem_singleton] at h; exact fun z => h z.symm)⟩
theorem wipe_get {σ : L2.St} {i : Nat} : ∀ {vs : List Nat}, (wipe σ vs)[i]? = if i ∈ vs then (if i < σ.length then some none else none) else σ[i]?
  | [] => by simp [wipe]
  | v :: vs => by
    unfold wipe
    by_cases h : v = i
    · subst h
      rw [if_pos (List.mem_cons_self ..)]
      by_cases hv : v < σ.length
      · rw [if_pos hv, List.getElem?_set_self (by rw [wipe_length]; exact hv)]
      · rw [if_neg hv, List.getElem?_eq_none (by rw [List.length_set, wipe_length]; omega)]
    · rw [List.getElem?_set_ne h, wipe_get (vs := vs)]
      have : (i ∈ v :: vs) ↔ i ∈ vs := by simp only [List.mem_cons]; exact ⟨fun z => z.elim (fun q => absurd q.symm h) id, .inr⟩
      by_cases hi : i ∈ vs
      · rw [if_pos hi, if_pos (this.mpr hi)]
      · rw [if_neg hi, if_neg fun z => hi (this.mp z)]
theorem wipe_agree {σ σ' : L2.St} {is vs : List Nat} (a : Agree is (wipe σ vs) σ') (h : ∀ i ∈ is, i ∈ vs) : wipe σ' vs = wipe σ vs := by
  apply List.ext_getElem?
  intro i
  rw [wipe_get, wipe_get]
  have hl : σ'.length = σ.length := by rw [a.1, wipe_length]
  by_cases hi : i ∈ vs
  · rw [if_pos hi, if_pos hi, hl]
  · rw [if_neg hi, if_neg hi, a.2 i fun z => hi (h i z), wipe_get, if_neg hi]
def tG (K : PySem.W.Frag) (Z : Addr → Prop) (Γ : List Sh) (fx : List FX) (O : Nat → List Addr) (t : Tg) : TG := fun v σ H Q => ∃ ρ d ρ', SR K Z Γ fx ρ σ H O ∧ Rep K (NN Z O) H v d ∧ bindT t d ρ = some ρ' ∧ ∀ σ', SR K Z Γ fx ρ' σ' H O → Agree t.slots σ σ' → Q σ' H
def tGs (K : PySem.W.Frag) (Z : Addr → Prop) (Γ : List Sh) (fx : List FX) (O : Nat → List Addr) (ts : Tg) : TGs := fun vs σ H Q => ∃ ρ ds ρ', SR K Z Γ fx ρ σ H O ∧ RepA K (NN Z O) H vs ds ∧ bindT.bindTs ts ds ρ = some ρ' ∧ ∀ σ', SR K Z Γ fx ρ' σ' H O → Agree ts.slots σ σ' → Q σ' H
structure VG (X : Cx) (Γ : List Sh) (e : Expr) (t : Tg) : Prop where
  pg : ∀ Z fx O, (∀ i ∈ t.slots, ∀ p ∈ fx, p.1 ≠ i) → PG X e (tG X.K Z Γ fx O t)
structure VGs (X : Cx) (Γ : List Sh) (es : List Expr) (ts : Tg) : Prop where
  pgs : ∀ Z fx O, (∀ i ∈ ts.slots, ∀ p ∈ fx, p.1 ≠ i) → PGs X es (tGs X.K Z Γ fx O ts)
theorem PGimp {X : Cx} {e : Expr} {t t' : TG} (h : PG X e t) (i : ∀ v σ H Q, t' v σ H Q → t v σ H Q) : PG X e t' := ⟨fun pins s σ H v u Q I r q => h.run pins s σ H v u Q I r (i v σ H Q q)⟩
theorem PGsimp {X : Cx} {e : List Expr} {t t' : TGs} (h : PGs X e t) (i : ∀ v σ H Q, t' v σ H Q → t v σ H Q) : PGs X e t' := ⟨fun pins s σ H v u Q I r q => h.run pins s σ H v u Q I r (i v σ H Q q)⟩
/-- names and tuples of names -/
def plainG : Expr → Bool
  | .Name _ _ => true
  | .Tuple _ _ _ => true
  | _ => false
theorem each_cons {e : Expr} {es : List Expr} {env : PySem.Env} (h : plainG e = true) : assignEach (e :: es) env = (false, assign e env) :: assignEach es env := by
  cases e <;> first | rfl | cases h
theorem each_len {env : PySem.Env} : ∀ {es : List Expr}, es.all plainG = true → (assignEach es env).length = es.length
  | [], _ => rfl
  | e :: es, h => by
    have h' := Bool.and_eq_true_iff.mp (show (plainG e && es.all plainG) = true from h)
    rw [each_cons h'.1, List.length_cons, each_len h'.2, List.length_cons]
theorem each_none {env : PySem.Env} : ∀ {es : List Expr}, es.all plainG = true → (assignEach es env).findIdx? (·.1) = none
  | [], _ => rfl
  | e :: es, h => by
    have h' := Bool.and_eq_true_iff.mp (show (plainG e && es.all plainG) = true from h)
    rw [each_cons h'.1, List.findIdx?_cons]
    rw [each_none h'.2]
    rfl
section
variable {X : Cx} {Γ : List Sh} {pos : Pos}
theorem vg_name {i : Nat} {x : Str} (hN : X.N.Nodup) (hi : X.N[i]? = some x) (hl : Loc X.env.scope x) (hx : X.fn x = true ∨ X.env.scope.names.lookup x = some .local) (hΓ : Γ[i]? = some .fz) : VG X Γ (.Name x pos) (.s i) := by
  refine ⟨fun Z fx O hf => PGimp (pg_name hN hi hl hx) fun v σ H Q h => ?_⟩
  obtain ⟨ρ, d, ρ', S, r, e, q⟩ := h
  cases e
  exact q _ (S.setFz hΓ r fun p hp => hf i (List.mem_singleton.mpr rfl) p hp) Agree.set
theorem vgs_nil : VGs X Γ [] .nil := by
  refine ⟨fun Z fx O hf => PGsimp pgs_nil fun vs σ H Q h => ?_⟩
  obtain ⟨ρ, ds, ρ', S, r, e, q⟩ := h
  cases ds with
  | nil =>
    cases r
    cases e
    exact ⟨rfl, q _ S Agree.refl⟩
  | cons d ds => cases e
theorem vgs_cons {e : Expr} {es : List Expr} {a r : Tg} (ha : VG X Γ e a) (hr : VGs X Γ es r) (hp : plainG e = true) : VGs X Γ (e :: es) (.cons a r) := by
  refine ⟨fun Z fx O hf => PGsimp (pgs_cons (ha.pg Z fx O fun i hi => hf i (List.mem_append_left _ hi)) (hr.pgs Z fx O fun i hi => hf i (List.mem_append_right _ hi)) (by rw [each_cons hp]; rfl)) fun vs σ H Q h => ?_⟩
  obtain ⟨ρ, ds, ρ', S, rr, e, q⟩ := h
  cases rr with
  | nil => cases e
  | @cons v vs d ds r1 r2 =>
    obtain ⟨ρ1, e1, e2⟩ := Option.bind_eq_some_iff.mp e
    refine ⟨v, vs, rfl, ρ, d, ρ1, S, r1, e1, fun σ1 S1 a1 => ⟨ρ1, ds, ρ', S1, r2, e2, fun σ2 S2 a2 => q σ2 S2 ?_⟩⟩
    exact (a1.mono fun i hi => List.mem_append_left _ hi).trans (a2.mono fun i hi => List.mem_append_right _ hi)
theorem bindTs_len : ∀ {ts : Tg} {ds : List D} {ρ ρ' : Ev} {es : List Expr}, VGs X Γ es ts → bindT.bindTs ts ds ρ = some ρ' → True
  | _, _, _, _, _, _, _ => trivial
def Tg.len : Tg → Nat
  | .cons _ r => r.len + 1
  | _ => 0
theorem bindTs_length : ∀ {ts : Tg} {ds : List D} {ρ ρ' : Ev}, bindT.bindTs ts ds ρ = some ρ' → ds.length = ts.len
  | .nil, [], _, _, _ => rfl
  | .cons a r, d :: ds, ρ, ρ', e => by
    obtain ⟨ρ1, _, e2⟩ := Option.bind_eq_some_iff.mp e
    have := bindTs_length e2
    simp only [List.length_cons, Tg.len, this]
  | .nil, _ :: _, _, _, e => by cases e
  | .cons _ _, [], _, _, e => by cases e
  | .s _, _, _, _, e => by cases e
  | .t _, _, _, _, e => by cases e
theorem vg_tup {es : List Expr} {k : Nat} {ts : Tg} (hc : X.calm = true) (h : VGs X Γ es ts) (hp : es.all plainG = true) (hl : es.length = ts.len) : VG X Γ (.Tuple es k pos) (.t ts) := by
  refine ⟨fun Z fx O hf => PGimp (pg_tup (n := es.length) hc (h.pgs Z fx O hf) (each_len hp) (each_none hp)) fun v σ H Q hq => ?_⟩
  obtain ⟨ρ, d, ρ', S, r, e, q⟩ := hq
  cases d <;> first | (cases e; done) | skip
  obtain ⟨a, xs, rfl, h1, _, h2⟩ := (RepT.rep r).tup_inv
  have e' : bindT.bindTs ts _ ρ = some ρ' := e
  exact ⟨a, xs, rfl, h1, by rw [h2.length, bindTs_length e', hl], ρ, _, ρ', S, h2, e', q⟩
end

/-! ### what is walked -/
/-- J walks through ds; P: what may change meanwhile -/
def Walk (K : PySem.W.Frag) (N0 : Addr → Prop) (P : Addr → Prop) (H1 : Hp) (J : It) (ds : List D) : Prop := ∀ N : Addr → Prop, (∀ a, P a → N a) → (∀ a, H1 a ≠ none → N a → N0 a) → ∀ H', Keep P H1 H' → (∀ a, N a → H' a ≠ none) →
  (∀ i, i < ds.length → J.go i H') ∧ (∀ i d x H'', ds[i]? = some d → J.yld i H' x H'' → Keep none_ H' H'' ∧ Rep K N H'' x d) ∧ ∀ i, ds.length ≤ i → J.stop i H'
abbrev PP (bw : Bool) (O : Nat → List Addr) : Addr → Prop := match bw with
  | true => none_
  | false => OO O
theorem PP.oo {bw : Bool} {O : Nat → List Addr} : ∀ a, PP bw O a → OO O a := by
  cases bw with
  | true => exact fun _ z => z.elim
  | false => exact fun _ z => z
def tI (K : PySem.W.Frag) (Z : Addr → Prop) (Γ : List Sh) (fx : List FX) (O : Nat → List Addr) (XD : XP) (W : WX) (bw q : Bool) (m : Ev → Out (List D)) : TI := fun σ H R => ∃ ρ, SR K Z Γ fx ρ σ H O ∧
  (m ρ).Post (fun ds ρ' => ∀ J H', SR K Z Γ fx ρ' σ H' O → Keep (OO O) H H' → (q = true → Keep none_ H H') → ds.length ≤ LIM → Walk K (NN Z O) (PP bw O) H' J ds → R J H')
    (fun x ρ' => ∀ cls d H', SR K Z Γ fx ρ' σ H' O → Keep (OO O) H H' → XD.xd cls d H' x → W cls d σ H')
structure VI (X : Cx) (XD : XP) (W : WX) (Γ : List Sh) (tg e : Expr) (bw q : Bool) (m : Ev → Out (List D)) : Prop where
  pi : ∀ Z fx O, HX X XD fx → PI X tg e (tI X.K Z Γ fx O XD W bw q m)
theorem PIimp {X : Cx} {tg e : Expr} {t t' : TI} (h : PI X tg e t) (i : ∀ σ H Q, t' σ H Q → t σ H Q) : PI X tg e t' := ⟨fun pins s σ H Q I q => h.run pins s σ H Q I (i σ H Q q)⟩
section
variable {X : Cx} {XD : XP} {W : WX} {Γ : List Sh} {tg a b e : Expr} {ma mb : Ev → Out D} {m : Ev → Out (List D)} {pos p : Pos} {ba bb bc fa fb qa qb : Bool}
def iAny (K : PySem.W.Frag) (te : TE) : TI := fun σ H R => te σ H fun x H1 => (∃ a xs, x = .ref a ∧ SqL K H1 a xs ∧ (xs.length ≤ sizeLine → R (Itl K a) H1)) ∨ (∃ a xs, x = .ref a ∧ SqT K H1 a xs ∧ (xs.length ≤ sizeLine → R (Itt K a) H1)) ∨ ∃ z, x = .str z ∧ R (Its z) H1
theorem pi_any {te : TE} (he : PE X e te) : PI X tg e (iAny X.K te) := by
  refine ⟨fun pins s σ H R I h => thn (he.run pins s σ H _ I h) fun v s1 ⟨x, H1, I1, r1, q1⟩ => ?_⟩
  rcases q1 with ⟨a, xs, rfl, hq, q⟩ | ⟨a, xs, rfl, hq, q⟩ | ⟨z, rfl, q⟩
  · cases r1
    obtain ⟨its, rv, pl, hz⟩ := I1.list hq
    exact wpAny_pyIter_list pl.isList (pi_one (tk := s1.toks) I1 _ (turn_list a _) ⟨_, Heap.get?_push_size _ rfl, rfl, rfl⟩ (q hz))
  · cases r1
    obtain ⟨its, rv, pt, hz⟩ := I1.tuple hq
    exact wpAny_pyIter_tuple (show s1.heap.IsTuple a its.toArray from pt) (pi_one (tk := s1.toks) I1 _ (turn_tuple a _) ⟨_, Heap.get?_push_size _ rfl, rfl, rfl⟩ (q hz))
  · obtain ⟨t, rfl⟩ := r1
    by_cases ha : z.cps.all (· < 128) = true
    · exact wpAny_pyIter_ascii ha (pi_one (tk := s1.toks) I1 _ (turn_str _ z t _ (.inl rfl)) ⟨_, Heap.get?_push_size _ rfl, rfl, rfl⟩ q)
    · exact wpAny_pyIter_wide (by simpa using ha) (pi_one (tk := s1.toks) I1 _ (turn_str _ z t _ (.inr rfl)) ⟨_, Heap.get?_push_size _ rfl, rfl, rfl⟩ q)
theorem rd_there {H : Hp} {a : Addr} {o : HO} (h : Rd H a o) : H a ≠ none := by
  rcases h with h | ⟨u, h⟩ <;> rw [h] <;> exact fun z => nomatch z
theorem rd_inj {H : Hp} {a : Addr} {xs ys : List V} (h1 : Rd H a (.lst xs)) (h2 : Rd H a (.lst ys)) : xs = ys := by
  rcases h1 with h1 | ⟨u, h1⟩ <;> rcases h2 with h2 | ⟨w, h2⟩ <;> rw [h1] at h2 <;> cases h2 <;> rfl
/-- the list's, the tuple's and the text's walks -/
theorem walk_lst {K : PySem.W.Frag} {N0 P : Addr → Prop} {H1 : Hp} {a : Addr} {xs : List V} {ds : List D} (h : Rd H1 a (.lst xs)) (n : ¬ P a) (r : RepA K N0 H1 xs ds) : Walk K N0 P H1 (Itl K a) ds := by
  intro N hP hN H' k hT
  have h' : SqL K H' a xs := .inl (sql_keep h k n)
  have r' : RepA K N H' xs ds := (r.impT hN).keep k hP
  refine ⟨fun i hi => ?_, fun i d x H'' e y => ?_, fun i hi => ⟨xs, h', by rw [r.length]; exact hi⟩⟩
  · obtain ⟨v, h1, _⟩ := r'.get (List.getElem?_eq_getElem hi)
    exact ⟨xs, v, h', h1⟩
  · obtain ⟨rfl, y⟩ := y
    obtain ⟨v, h1, h2⟩ := r'.get e
    have := y xs h'
    rw [h1] at this
    cases this
    exact ⟨Keep.refl, h2⟩
theorem walk_tup {K : PySem.W.Frag} {N0 P : Addr → Prop} {H1 : Hp} {a : Addr} {xs : List V} {ds : List D} (hPN : ∀ a, P a → N0 a) (h : SqN K N0 H1 a xs) (r : RepA K N0 H1 xs ds) : Walk K N0 P H1 (Itt K a) ds := by
  intro N hP hN H' k hT
  have h' : SqT K H' a xs := (h.keep k hPN).sqt
  have r' : RepA K N H' xs ds := (r.impT hN).keep k hP
  refine ⟨fun i hi => ?_, fun i d x H'' e y => ?_, fun i hi => ⟨xs, h', by rw [r.length]; exact hi⟩⟩
  · obtain ⟨v, h1, _⟩ := r'.get (List.getElem?_eq_getElem hi)
    exact ⟨xs, v, h', h1⟩
  · obtain ⟨rfl, y⟩ := y
    obtain ⟨v, h1, h2⟩ := r'.get e
    have := y xs h'
    rw [h1] at this
    cases this
    exact ⟨Keep.refl, h2⟩
theorem sign_ok {z : Str} (g : strG z) {c : Nat} (h : c ∈ z.cps.toList) : strG ⟨#[c]⟩ := by
  refine Bool.and_eq_true_iff.mpr ⟨ok_iff.mpr fun d hd => ?_, Nat.ble_eq_true_of_le (show 1 ≤ LIM by decide)⟩
  have : d = c := by simpa using hd
  rw [this]
  exact ok_iff.mp g.ok c h
theorem walk_str {K : PySem.W.Frag} {N0 P : Addr → Prop} {H1 : Hp} {z : Str} (g : strG z) : Walk K N0 P H1 (Its z) (z.cps.toList.map fun c => .str ⟨#[c]⟩) := by
  intro N hP hN H' k hT
  refine ⟨fun i hi => ?_, fun i d x H'' e y => ?_, fun i hi => ?_⟩
  · rw [List.length_map] at hi; exact hi
  · obtain ⟨rfl, c, h1, rfl⟩ := y
    have h1' : z.cps.toList[i]? = some c := by rw [← h1]; simp
    rw [List.getElem?_map, h1'] at e
    cases e
    exact ⟨Keep.refl, .str _ (sign_ok g (List.mem_of_getElem? h1'))⟩
  · rw [List.length_map] at hi; exact hi
/-- a list, a tuple, a text -/
theorem vi_any (ha : VE X XD W Γ a ba fa qa ma) : VI X XD W Γ tg a ba qa (fun ρ => (ma ρ).bind fun x ρ => Out.lift (items x) ρ) := by
  refine ⟨fun Z fx O hx => PIimp (pi_any (ha.pe Z fx O hx)) fun σ H R h => ?_⟩
  obtain ⟨ρ, S, h⟩ := h
  rw [Out.Post.bind] at h
  refine ⟨ρ, S, h.mono (fun d ρ1 h1 v H1 S1 k1 q1 r1 _ => ?_) fun _ _ z => z⟩
  have hPN : ∀ a, PP ba O a → NN Z O a := fun a z => oo_nn a (PP.oo a z)
  cases d with
  | list ds =>
    obtain ⟨a, xs, rfl, h2, h3⟩ := r1.toT.list_inv
    refine .inl ⟨a, xs, rfl, .inl h2, fun hz => ?_⟩
    refine h1 _ H1 S1 k1 q1 (by rw [← h3.length]; rwa [sizeLine_eq] at hz) (walk_lst (xs := xs) h2 (fun z => ?_) h3)
    · cases ba with
      | true => exact z
      | false =>
        cases r1 with
        | lst _ n _ => exact n (oo_nn _ z)
  | tuple ds =>
    obtain ⟨a, xs, rfl, h2, h4, h3⟩ := r1.toT.tup_inv
    exact .inr (.inl ⟨a, xs, rfl, h2, fun hz => h1 _ H1 S1 k1 q1 (by rw [← h3.length]; rwa [sizeLine_eq] at hz) (walk_tup hPN h4 h3)⟩)
  | str z =>
    obtain ⟨rfl, g⟩ := r1.toT.str_inv
    exact .inr (.inr ⟨z, rfl, h1 _ H1 S1 k1 q1 (by rw [List.length_map]; exact g.len) (walk_str g)⟩)
  | _ => exact h1.elim
end
end BV
set_option Elab.async false
set_option linter.all false
set_option maxRecDepth 100000
set_option maxHeartbeats 4000000
/-! BV13: ranges; list comprehensions. -/
namespace BV
open PySem PySem.Spec L2
open PyProof.Rows hiding St
section
variable {X : Cx} {XD : XP} {W : WX} {Γ : List Sh} {tg a b e : Expr} {ma mb : Ev → Out D} {m : Ev → Out (List D)} {pos p : Pos} {ba bb bc fa fb qa qb : Bool}
/-! ### ranges -/
/-- a range's ints -/
def rngL (lo : Int) (n : Nat) : List D := (List.range n).map fun (k : Nat) => .int (lo + k)
theorem walk_rng {K : PySem.W.Frag} {N0 P : Addr → Prop} {H1 : Hp} {lo : Int} {n : Nat} : Walk K N0 P H1 (Itr lo n) (rngL lo n) := by
  intro N hP hN H' k hT
  have hl : (rngL lo n).length = n := by unfold rngL; rw [List.length_map, List.length_range]
  refine ⟨fun i hi => ?_, fun i d x H'' e y => ?_, fun i hi => ?_⟩
  · rw [hl] at hi; exact hi
  · obtain ⟨rfl, rfl⟩ := y
    have hi : i < n := by rw [← hl]; exact lt_of_get e
    unfold rngL at e
    rw [List.getElem?_map, List.getElem?_range hi] at e
    cases e
    exact ⟨Keep.refl, .int _⟩
  · rw [hl] at hi; exact hi
/-- what is walked, out of a list that a rule has made -/
def itemsL : Option D → Option (List D)
  | some (.list xs) => some xs
  | _ => none
theorem rng1_some {d d' : D} (e : opRng [d] = some d') : ∃ n, d = .int n ∧ -(2 ^ 62) ≤ n ∧ n ≤ LIM ∧ d' = .list (rngL 0 n.toNat) := by
  cases d with
  | int n =>
    obtain ⟨⟨h1, h2⟩, rfl⟩ := if_some (show (if -(2 ^ 62) ≤ n ∧ n ≤ LIM then _ else none) = some d' from e)
    refine ⟨n, rfl, h1, h2, ?_⟩
    unfold rngL
    congr 1
    exact List.map_congr_left fun k _ => by rw [Int.zero_add]
  | _ => cases e
theorem rng2_some {d1 d2 d' : D} (e : opRng [d1, d2] = some d') : ∃ i j, d1 = .int i ∧ d2 = .int j ∧ (-(2 ^ 62) ≤ i ∧ i < 2 ^ 62 ∧ -(2 ^ 62) ≤ j ∧ j < 2 ^ 62) ∧ j - i ≤ LIM ∧ d' = .list (rngL i (j - i).toNat) := by
  cases d1 <;> cases d2 <;> first | (cases e; done) | skip
  obtain ⟨⟨h1, h2, h3, h4, h5⟩, rfl⟩ := if_some (show (if _ then _ else none) = some d' from e)
  exact ⟨_, _, rfl, rfl, ⟨h1, h2, h3, h4⟩, h5, rfl⟩
theorem limI : ((LIM : Nat) : Int) = 16777216 := rfl
theorem vi_rng1 (hg : Gl X "range") (hm : X.mg "range" = none) (hs : noStar a = true) (ha : VA X XD W Γ [a] ba qa m) (hl : ∀ ρ ds ρ', m ρ = .ok ds ρ' → ds.length = 1) :
    VI X XD W Γ tg (.Call (.Name "range" p) [a] [] pos) false qa (fun ρ => ((m ρ).bind fun ds ρ => Out.lift (opRng ds) ρ).bind fun x ρ => Out.lift (items x) ρ) := by
  refine ⟨fun Z fx O hx => PIimp (pi_range1 hg hm (ha.pa Z fx O hx) (star_cons hs)) fun σ H R h => ?_⟩
  obtain ⟨ρ, S, h⟩ := h
  rw [Out.Post.bind, Out.Post.bind] at h
  refine ⟨ρ, S, ?_⟩
  cases em : m ρ with
  | stk => rw [em] at h; exact h
  | exc x ρ1 => rw [em] at h; exact h
  | ok ds ρ1 =>
    rw [em] at h
    intro vs H1 S1 k1 q1 r1
    have h1 : (Out.lift (opRng ds) ρ1).Post _ _ := h
    have hl' := hl _ _ _ em
    cases e : opRng ds with
    | none => rw [e] at h1; exact h1.elim
    | some d =>
      rw [e] at h1
      rcases ds with _ | ⟨d0, _ | ⟨d1, r1⟩⟩
      · cases hl'
      · obtain ⟨v, rfl, r0⟩ := r1.toT.one_inv
        obtain ⟨n, rfl, h2, h3, rfl⟩ := rng1_some e
        have := limI
        refine ⟨n, by rw [r0.int_inv], h2, by omega, h1 _ H1 S1 k1 q1 ?_ walk_rng⟩
        unfold rngL
        rw [List.length_map, List.length_range]
        omega
      · cases hl'
theorem vi_rng2 (hg : Gl X "range") (hm : X.mg "range" = none) (hs : noStar a = true) (hs2 : noStar b = true) (ha : VA X XD W Γ [a, b] ba qa m) (hl : ∀ ρ ds ρ', m ρ = .ok ds ρ' → ds.length = 2) :
    VI X XD W Γ tg (.Call (.Name "range" p) [a, b] [] pos) false qa (fun ρ => ((m ρ).bind fun ds ρ => Out.lift (opRng ds) ρ).bind fun x ρ => Out.lift (items x) ρ) := by
  refine ⟨fun Z fx O hx => PIimp (pi_range2 hg hm (ha.pa Z fx O hx) (by rw [star_cons hs, star_cons hs2]; rfl) (star_cons hs2)) fun σ H R h => ?_⟩
  obtain ⟨ρ, S, h⟩ := h
  rw [Out.Post.bind, Out.Post.bind] at h
  refine ⟨ρ, S, ?_⟩
  cases em : m ρ with
  | stk => rw [em] at h; exact h
  | exc x ρ1 => rw [em] at h; exact h
  | ok ds ρ1 =>
    rw [em] at h
    intro vs H1 S1 k1 q1 r1
    have h1 : (Out.lift (opRng ds) ρ1).Post _ _ := h
    have hl' := hl _ _ _ em
    cases e : opRng ds with
    | none => rw [e] at h1; exact h1.elim
    | some d =>
      rw [e] at h1
      rcases ds with _ | ⟨d0, _ | ⟨d1, _ | ⟨d2, r2⟩⟩⟩
      · cases hl'
      · cases hl'
      · obtain ⟨v, w, rfl, r0, r3⟩ := r1.toT.two_inv
        obtain ⟨i, j, rfl, rfl, h2, h3, rfl⟩ := rng2_some e
        have := limI
        refine ⟨i, j, by rw [r0.int_inv, r3.int_inv], h2, h1 _ H1 S1 k1 q1 ?_ walk_rng⟩
        unfold rngL
        rw [List.length_map, List.length_range]
        omega
      · cases hl'

/-! ### list comprehensions -/
abbrev W0 : WX := fun _ _ _ _ => False
/-- a clause's tests -/
structure VTs (X : Cx) (XD : XP) (W : WX) (Γ : List Sh) (ifs : List Expr) (q : Bool) (m : Ev → Out D) : Prop where
  pts : ∀ Z fx O, HX X XD fx → PTs X ifs (tT X.K Z Γ fx O XD W q m)
theorem vts_nil : VTs X XD W Γ [] true (fun ρ => .ok (.bool true) ρ) := ⟨fun Z fx O hx => ⟨fun pins s σ H Q I h => pts_nil.run pins s σ H Q I (by
  obtain ⟨ρ, S, h⟩ := h
  exact (h : ∀ H', _) H S Keep.refl fun _ => Keep.refl)⟩⟩
theorem vts_one (h : VT X XD W Γ a qa ma) : VTs X XD W Γ [a] qa ma := ⟨fun Z fx O hx => pts_one (h.pt Z fx O hx)⟩
theorem backE_get {ρ ρ' : Ev} {i : Nat} (hl : ρ.length = ρ'.length) : ∀ {own : List Nat}, getV (backE ρ ρ' own) i = if i ∈ own then getV ρ i else getV ρ' i
  | [] => by simp [backE]
  | j :: js => by
    unfold backE
    rw [getV_set]
    have hlen : ∀ l : List Nat, (backE ρ ρ' l).length = ρ'.length := fun l => by
      induction l with
      | nil => rfl
      | cons a l ih => unfold backE; rw [List.length_set, ih]
    by_cases h : j = i
    · subst h
      rw [if_pos rfl, if_pos (List.mem_cons_self ..), hlen]
      by_cases hj : j < ρ'.length
      · rw [if_pos hj]; rfl
      · rw [if_neg hj]
        unfold getV
        rw [List.getElem?_eq_none (by omega)]
        rfl
    · rw [if_neg h, backE_get hl (own := js)]
      have : (i ∈ j :: js) ↔ i ∈ js := by simp only [List.mem_cons]; exact ⟨fun z => z.elim (fun q => absurd q.symm h) id, .inr⟩
      by_cases hi : i ∈ js
      · rw [if_pos hi, if_pos (this.mpr hi)]
      · rw [if_neg hi, if_neg fun z => hi (this.mp z)]
theorem backE_len {ρ ρ' : Ev} : ∀ {own : List Nat}, (backE ρ ρ' own).length = ρ'.length
  | [] => rfl
  | j :: js => by unfold backE; rw [List.length_set, backE_len]
theorem getS_wipe {σ : L2.St} {i : Nat} {vs : List Nat} (h : i ∉ vs) : getS (wipe σ vs) i = getS σ i := by
  unfold getS
  rw [wipe_get, if_neg h]
/-- behind the block -/
theorem SR.unwipe {K : PySem.W.Frag} {Z : Addr → Prop} {fx : List FX} {ρ ρ' : Ev} {σ : L2.St} {H H' : Hp} {O : Nat → List Addr} {own : List Nat} {P : Addr → Prop} (s : SR K Z Γ fx ρ σ H O) (k : Keep P H H') (hP : ∀ a, P a → NN Z O a) (s' : SR K Z Γ [] ρ' (wipe σ own) H' O)
    (ho : ∀ i ∈ own, Γ[i]? = some .fz) : SR K Z Γ fx (backE ρ ρ' own) σ H' O where
  lenR := by rw [backE_len]; exact s'.lenR
  lenS := s.lenS
  slot := fun i sh e => by
    rw [backE_get (by rw [s.lenR, s'.lenR])]
    by_cases hi : i ∈ own
    · rw [if_pos hi]
      rw [ho i hi] at e
      cases e
      refine (s.slot i _ (ho i hi)).keepN k hP fun a m => ?_
      rw [s.fzO (ho i hi)] at m
      cases m
    · rw [if_neg hi]
      have := s'.slot i sh e
      rwa [getS_wipe hi] at this
  out := s.out
  dis := s.dis
  trk := s'.trk
  zo := s.zo
  sm := s.sm
  fix := s.fix
theorem lcLoop_nil (f : D → Ev → Out (Option D)) (ρ : Ev) : lcLoop f [] ρ = .ok [] ρ := rfl
theorem noExc_Post {α : Type} {o : Out α} {P : α → Ev → Prop} {E : D → Ev → Prop} : o.noExc.Post P E ↔ o.Post P (fun _ _ => False) := by
  cases o <;> exact Iff.rfl
theorem Keep.updN {P : Addr → Prop} {H1 H4 : Hp} {L : Addr} {o : HO} (k : Keep P H1 H4) (h : H1 L = none) : Keep P H1 (upd H4 L o) := fun a u e n => by
  have ha : a ≠ L := fun z => by rw [z, h] at e; cases e
  rw [upd_ne ha]
  exact k a u e n
/-- the list that grows is one more forbidden object -/
theorem SR.grow {K : PySem.W.Frag} {Z : Addr → Prop} {fx : List FX} {ρ : Ev} {σ : L2.St} {H : Hp} {O : Nat → List Addr} {D : Addr} {o : HO} (s : SR K (addZ Z D) Γ fx ρ σ H O) : SR K (addZ Z D) Γ fx ρ σ (upd H D o) O :=
  s.keepZ (fun a u e n => by rw [upd_ne (fun z => n (.inr z))]; exact e) fun a z => by
    by_cases h : a = D
    · rw [h, upd_same]; exact fun z => nomatch z
    · rw [upd_ne h]; exact s.trk a (.inl z)
/-- a block's turn keeps W: the state by the turn -/
structure LcW (K : PySem.W.Frag) (Z : Addr → Prop) (Γ : List Sh) (O : Nat → List Addr) (P : Addr → Prop) (H1 : Hp) (L : Addr) (σ : L2.St) (f : D → Ev → Out (Option D)) (ds : List D) (fin : List D → Ev → Prop) (i : Nat) (H : Hp) : Prop where
  le : i ≤ ds.length
  st : ∃ ρ acc out, SR K (addZ Z L) Γ [] ρ σ H O ∧ H L = some (.lst acc) ∧ RepA K (NN (addZ Z L) O) H acc out ∧ out.length ≤ i ∧ (lcLoop f (ds.drop i) ρ).Post (fun r ρ' => fin (out ++ r) ρ') fun _ _ => False
  keep : Keep P H1 H
end
section
variable {X : Cx} {XD : XP} {W : WX} {Γ : List Sh} {tg iter elt : Expr} {ifs : List Expr} {scope : Scope} {own : List (Str × Nat)} {t : Tg} {mc me : Ev → Out D} {mi : Ev → Out (List D)} {pos p : Pos} {ba bw fe qc qe qi : Bool}
abbrev lcE (t : Tg) (vs : List Nat) (mi : Ev → Out (List D)) (mc me : Ev → Out D) : Ev → Out D := fun ρ => (mi ρ).bind fun xs ρ => ((lcLoop (turnE t vs mc me) xs (wipeE ρ vs)).noExc).bind fun r ρ' => .ok (.list r) (backE ρ ρ' vs)
abbrev tLC (K : PySem.W.Frag) (Z : Addr → Prop) (Γ : List Sh) (fx : List FX) (XD : XP) (W : WX) (bw qi qc qe fe : Bool) (t : Tg) (vs : List Nat) (mi : Ev → Out (List D)) (mc me : Ev → Out D) : TE :=
  tLc (fun σ H R => ∃ O, tI K Z Γ fx O XD W bw qi mi σ H R) (fun v σ H Q => ∃ O L, tG K (addZ Z L) Γ [] O t v σ H Q) (fun σ H Q => ∃ O L, tT K (addZ Z L) Γ [] O XD W0 qc mc σ H Q) (fun σ H Q => ∃ O L, tV K (addZ Z L) Γ [] O XD W0 false fe qe me σ H Q) vs
theorem lc_imp {K : PySem.W.Frag} {Z : Addr → Prop} {fx : List FX} {O : Nat → List Addr} {vs : List Nat} (hΓ : ∀ i ∈ vs, Γ[i]? = some .fz) (hsl : ∀ i ∈ t.slots, i ∈ vs) (hbw : bw = true → (qc && qe) = true) (σ : L2.St) (H : Hp) (Q : VK)
    (h : tV K Z Γ fx O XD W ba true (qi && (qc && qe)) (lcE t vs mi mc me) σ H Q) : tLC K Z Γ fx XD W bw qi qc qe fe t vs mi mc me σ H Q := by
  obtain ⟨ρ, S, h⟩ := h
  rw [Out.Post.bind] at h
  refine ⟨O, ρ, S, h.mono (fun ds ρ1 h1 J H1 S1 k1 q1 hlen hw => ?_) fun _ _ z => z⟩
  intro L hL
  rw [Out.Post.bind] at h1
  have h1 := noExc_Post.mp h1
  have hPo : ∀ a, PP bw O a → OO O a := PP.oo
  have kL : Keep none_ H1 (upd H1 L (.lst [])) := Keep.new hL
  have SL : SR K (addZ Z L) Γ fx ρ1 σ (upd H1 L (.lst [])) O := S1.more hL kL (by rw [upd_same]; exact fun z => nomatch z)
  have kP : ∀ {Ha Hb : Hp}, Keep (OO O) Ha Hb → ((qc && qe) = true → Keep none_ Ha Hb) → Keep (PP bw O) Ha Hb := fun {Ha Hb} k q => by
    cases bw with
    | true => exact q (hbw rfl)
    | false => exact k
  let fin : List D → Ev → Prop := fun r ρ' => (Out.ok (PyData.list r) (backE ρ1 ρ' vs)).Post (fun d ρ' => ∀ v H', SR K Z Γ fx ρ' σ H' O → Keep (OO O) H H' → ((qi && (qc && qe)) = true → Keep none_ H H') → RepM ba K (NN Z O) H' v d → (true = true → Fresh K Z Γ fx ρ' σ H H' O v d) → Q v H')
      (fun x ρ' => ∀ cls d H', SR K Z Γ fx ρ' σ H' O → Keep (OO O) H H' → XD.xd cls d H' x → W cls d σ H')
  refine ⟨fun i m Hc => m = ds.length - i ∧ LcW K Z Γ O (PP bw O) H1 L (wipe σ vs) (turnE t vs mc me) ds fin i Hc ∧ ((qc && qe) = true → Keep none_ H1 Hc), ⟨ds.length, rfl, ⟨Nat.zero_le _, ⟨wipeE ρ1 vs, [], [], SL.nofix.wiped hΓ, upd_same, .nil, Nat.le_refl _, h1⟩, kL.all⟩, fun _ => kL⟩, ?_⟩
  rintro i m Hc ⟨rfl, ⟨hile, ⟨ρc, acc, out, Sc, hD, hacc, hout, hp⟩, kc⟩, qk⟩
  have hN1 : ∀ a, H1 a ≠ none → NN (addZ Z L) O a → NN Z O a := fun a ha z => by
    rcases NN_addZ z with z | z
    · exact z
    · exact absurd (z ▸ hL) ha
  obtain ⟨hgo, hyld, hstop⟩ := hw (NN (addZ Z L) O) (fun a z => oo_nn a (hPo a z)) hN1 Hc kc Sc.trk
  have nLO : ¬ OO O L := fun ⟨j, z⟩ => S1.trk L (.inr ⟨j, z⟩) hL
  by_cases hlt : i < ds.length
  · refine .inr ⟨hgo i hlt, fun Hn => LcW K Z Γ O (PP bw O) H1 L (wipe σ vs) (turnE t vs mc me) ds fin (i + 1) Hn ∧ ((qc && qe) = true → Keep none_ H1 Hn), fun H' z => ⟨ds.length - (i + 1), by omega, rfl, z⟩, fun x H2 hy => ?_⟩
    obtain ⟨k2, r2⟩ := hyld i _ x H2 (List.getElem?_eq_getElem hlt) hy
    rw [List.drop_eq_getElem_cons hlt] at hp
    have hp' : ((turnE t vs mc me ds[i] ρc).bind fun o ρ1 => (lcLoop (turnE t vs mc me) (ds.drop (i + 1)) ρ1).bind fun r ρ2 => .ok (o.toList ++ r) ρ2).Post (fun r ρ' => fin (out ++ r) ρ') fun _ _ => False := hp
    unfold turnE at hp'
    cases eb : bindT t ds[i] ρc with
    | none => rw [eb] at hp'; exact hp'.elim
    | some ρ2 =>
      rw [eb] at hp'
      refine ⟨O, L, ρc, ds[i], ρ2, Sc.keep k2, r2, eb, fun σ2 S2 a2 => ⟨wipe_agree a2 hsl, ?_⟩⟩
      have hw2 : wipe σ2 vs = wipe σ vs := wipe_agree a2 hsl
      have hp2 : (((mc ρ2).bind fun k ρ2 => if tru k = true then (me ρ2).bind fun z ρ3 => Out.ok (some z) (wipeE ρ3 vs) else .ok none (wipeE ρ2 vs)).bind fun o ρ1 => (lcLoop (turnE t vs mc me) (ds.drop (i + 1)) ρ1).bind fun r ρ2 => .ok (o.toList ++ r) ρ2).Post (fun r ρ' => fin (out ++ r) ρ') fun _ _ => False := hp'
      rw [Out.Post.bind, Out.Post.bind] at hp2
      refine ⟨O, L, ρ2, S2, hp2.mono (fun k ρ3 h3 H3 S3 k3 q3 => ?_) fun x ρ' z => z.elim⟩
      have hD3 : H3 L = some (.lst acc) := k3 _ _ (k2 _ _ hD fun z => z) nLO
      have ha3 : RepA K (NN (addZ Z L) O) H3 acc out := (hacc.keep k2 fun _ z => z.elim).keep k3 oo_nn
      have kc3 : Keep (PP bw O) H1 H3 := (kc.trans k2.all).trans (kP k3 fun z => q3 (Bool.and_eq_true_iff.mp z).1)
      by_cases ck : tru k = true
      · rw [if_pos ck] at h3
        dsimp only
        rw [if_pos ck]
        have h3' : ((me ρ3).bind fun z ρ3 => Out.ok (some z) (wipeE ρ3 vs)).Post (fun o ρ1 => ((lcLoop (turnE t vs mc me) (ds.drop (i + 1)) ρ1).bind fun r ρ2 => .ok (o.toList ++ r) ρ2).Post (fun r ρ' => fin (out ++ r) ρ') fun _ _ => False) fun _ _ => False := h3
        rw [Out.Post.bind] at h3'
        refine ⟨O, L, ρ3, S3, h3'.mono (fun z ρ4 h4 y H4 S4 k4 q4 r4 _ => ?_) fun x ρ' z => z.elim⟩
        have hD4 : H4 L = some (.lst acc) := k4 _ _ hD3 nLO
        refine ⟨acc, hD4, by rw [sizeLine_eq, hacc.length]; have : LIM = 16777216 := rfl; omega, ?_, fun z => ?_⟩
        · have kw : Keep (fun a => a = L) H4 (upd H4 L (.lst (acc ++ [y]))) := Keep.at rfl
          have hLN : ∀ a, a = L → NN (addZ Z L) O a := fun a z => .inl (.inr z)
          have ra : RepA K (NN (addZ Z L) O) (upd H4 L (.lst (acc ++ [y]))) (acc ++ [y]) (out ++ [z]) := RepA.keep kw hLN ((ha3.keep k4 oo_nn).append (.cons r4 .nil))
          refine ⟨hlt, ⟨wipeE ρ4 vs, acc ++ [y], out ++ [z], hw2 ▸ (SR.grow S4).wiped hΓ, upd_same, ra, by rw [List.length_append]; simp only [List.length_singleton]; omega, ?_⟩, ?_⟩
          · have h4' : ((lcLoop (turnE t vs mc me) (ds.drop (i + 1)) (wipeE ρ4 vs)).bind fun r ρ2 => Out.ok ((some z).toList ++ r) ρ2).Post (fun r ρ' => fin (out ++ r) ρ') fun _ _ => False := h4
            rw [Out.Post.bind] at h4'
            refine h4'.mono (fun r ρ' z => ?_) fun _ _ z => z
            rw [List.append_assoc]
            exact z
          · exact (kc3.trans (kP k4 fun z => q4 (Bool.and_eq_true_iff.mp z).2)).updN hL
        · obtain ⟨z1, z2⟩ := Bool.and_eq_true_iff.mp z
          exact ((((qk z).trans k2).trans (q3 z1)).trans (q4 z2)).updN hL
      · rw [if_neg ck] at h3
        dsimp only
        rw [if_neg ck]
        have h3' : ((lcLoop (turnE t vs mc me) (ds.drop (i + 1)) (wipeE ρ3 vs)).bind fun r ρ2 => Out.ok ((none : Option D).toList ++ r) ρ2).Post (fun r ρ' => fin (out ++ r) ρ') fun _ _ => False := h3
        rw [Out.Post.bind] at h3'
        refine ⟨⟨hlt, ⟨wipeE ρ3 vs, acc, out, hw2 ▸ S3.wiped hΓ, hD3, ha3, by omega, h3'.mono (fun r ρ' z => z) fun _ _ z => z⟩, kc3⟩, fun z => ?_⟩
        exact ((qk z).trans k2).trans (q3 (Bool.and_eq_true_iff.mp z).1)
  · have ei : i = ds.length := by omega
    subst ei
    refine .inl ⟨hstop _ (Nat.le_refl _), ?_⟩
    rw [List.drop_length] at hp
    have hp' : fin (out ++ []) ρc := hp
    rw [List.append_nil] at hp'
    have So : SR K Z Γ fx (backE ρ1 ρc vs) σ Hc O := S1.unwipe kc (fun a z => oo_nn a (hPo a z)) (Sc.less S1.sm) hΓ
    have kAll : Keep (OO O) H Hc := k1.trans (kc.mono hPo)
    refine hp' (.ref L) Hc So kAll (fun z => ?_) ?_ fun _ => ⟨L, acc, out, rfl, rfl, S1.back k1 hL, hD, hacc, ?_⟩
    · obtain ⟨z1, z2⟩ := Bool.and_eq_true_iff.mp z
      exact (q1 z1).trans (qk z2)
    · have r : Rep K (NN Z O) Hc (.ref L) (.list out) := .lst (.inl hD) (S1.fresh hL) (hacc.imp fun a z => z.elim (fun z => .inl (.inl z)) .inr)
      cases ba with
      | true => exact .rep r
      | false => exact r
    · refine SL.unwipe (P := fun a => PP bw O a ∨ a = L) (fun a u e n => ?_) (fun a z => z.elim (fun z => oo_nn a (hPo a z)) fun z => .inl (.inr z)) Sc hΓ
      rw [upd_ne fun z => n (.inr z)] at e
      exact kc a u e fun z => n (.inl z)

theorem ve_lc (hc : X.calm = true) (hN : X.N.Nodup) (hi : VI X XD W Γ tg iter bw qi mi) (ok : BlkOk X.N X.env.scope scope own)
    (hg : ∀ (s : Shared) (H : Hp) (C : Addr) (cl : List (Str × Addr)) (fp : List Addr), VG (X.blk s H scope (compEnvC scope cl C X.env) fp) Γ tg t)
    (ht : ∀ (s : Shared) (H : Hp) (C : Addr) (cl : List (Str × Addr)) (fp : List Addr), VTs (X.blk s H scope (compEnvC scope cl C X.env) fp) XD.blk W0 Γ ifs qc mc)
    (he : ∀ (s : Shared) (H : Hp) (C : Addr) (cl : List (Str × Addr)) (fp : List Addr), VE (X.blk s H scope (compEnvC scope cl C X.env) fp) XD.blk W0 Γ elt false fe qe me)
    (hs : ∀ x, foldedSetIterable iter X.env x = pure x) (hΓ : ∀ i ∈ own.map (·.2), Γ[i]? = some .fz) (hsl : ∀ i ∈ t.slots, i ∈ own.map (·.2)) (hbw : bw = true → (qc && qe) = true) :
    VE X XD W Γ (.ListComp elt [⟨tg, iter, ifs, 0⟩] scope pos) ba true (qi && (qc && qe)) (lcE t (own.map (·.2)) mi mc me) := by
  refine ⟨fun Z fx O hx => PEimp (pe_lc (pos := pos) hc hN (wi := fun σ H R => ∃ O, tI X.K Z Γ fx O XD W bw qi mi σ H R) ⟨fun pins s' σ H' R I ⟨O, h⟩ => (hi.pi Z fx O hx).run pins s' σ H' R I h⟩ ok (g := fun v σ H Q => ∃ O L, tG X.K (addZ Z L) Γ [] O t v σ H Q) (tt := fun σ H Q => ∃ O L, tT X.K (addZ Z L) Γ [] O XD W0 qc mc σ H Q) (te := fun σ H Q => ∃ O L, tV X.K (addZ Z L) Γ [] O XD W0 false fe qe me σ H Q)
    (fun s H C cl fp => ⟨fun pins s' σ H' v u Q I r ⟨O, L, h⟩ => ((hg s H C cl fp).pg _ _ O fun _ _ p hp => by cases hp).run pins s' σ H' v u Q I r h⟩)
    (fun s H C cl fp => ⟨fun pins s' σ H' Q I ⟨O, L, h⟩ => ((ht s H C cl fp).pts _ _ O fun _ z => nomatch z).run pins s' σ H' Q I h⟩) (fun s H C cl fp => ⟨fun pins s' σ H' Q I ⟨O, L, h⟩ => ((he s H C cl fp).pe _ _ O fun _ z => nomatch z).run pins s' σ H' Q I h⟩) hs) fun σ H Q h => lc_imp hΓ hsl hbw σ H Q h⟩
end
end BV
set_option Elab.async false
set_option linter.all false
set_option maxRecDepth 100000
set_option maxHeartbeats 4000000
/-! BV14: statements: the state through a body. -/
namespace BV
open PySem PySem.Spec L2
open PyProof.Rows hiding St

namespace SOut
def Post (o : SOut) (N : Ev → Prop) (R : D → Ev → Prop) (E : D → Ev → Prop) : Prop := match o with
  | .next ρ => N ρ
  | .ret d ρ => R d ρ
  | .exc x ρ => E x ρ
  | .stk => False
theorem Post.thn {o : SOut} {f : Ev → SOut} {N : Ev → Prop} {R : D → Ev → Prop} {E : D → Ev → Prop} : (o.thn f).Post N R E = o.Post (fun ρ => (f ρ).Post N R E) R E := by
  cases o <;> rfl
theorem Post.mono {o : SOut} {N N' : Ev → Prop} {R R' : D → Ev → Prop} {E E' : D → Ev → Prop} (h : o.Post N R E) (hn : ∀ ρ, N ρ → N' ρ) (hr : ∀ d ρ, R d ρ → R' d ρ) (he : ∀ x ρ, E x ρ → E' x ρ) : o.Post N' R' E' := by
  cases o with
  | next ρ => exact hn _ h
  | ret d ρ => exact hr _ _ h
  | exc x ρ => exact he _ _ h
  | stk => exact h
end SOut
theorem toS_Post {α : Type} {o : Out α} {f : α → Ev → SOut} {N : Ev → Prop} {R : D → Ev → Prop} {E : D → Ev → Prop} : (o.toS f).Post N R E = o.Post (fun d ρ => (f d ρ).Post N R E) E := by
  cases o <;> rfl

/-- a fixed slot's shape -/
def fsh : Bool → Sh
  | true => .ex
  | false => .dk
/-- the state of a body: B the heap at its entry, P what may have changed since -/
structure SS (K : PySem.W.Frag) (Z : Addr → Prop) (Γ : List Sh) (fx : List FX) (B : Hp) (P : Nat → List Addr) (ρ : Ev) (σ : L2.St) (H : Hp) (O : Nat → List Addr) : Prop where
  sr : SR K Z Γ fx ρ σ H O
  kb : Keep (OO P) B H
  ob : ∀ a, OO O a → OO P a ∨ B a = none
  bt : ∀ a, B a ≠ none → H a ≠ none
  fd : ∀ p ∈ fx, Γ[p.1]? = some (fsh p.2.2)
  oi : ∀ p ∈ fx, O p.1 = P p.1
section
variable {K : PySem.W.Frag} {Z : Addr → Prop} {Γ Γ' : List Sh} {fx : List FX} {B H H' H1 : Hp} {P : Nat → List Addr} {ρ ρ' ρ1 : Ev} {σ σ' σ1 : L2.St} {O O' O1 : Nat → List Addr} {rs : Bool} {v : V} {d : D}
theorem SR.there {x : Addr} (s : SR K Z Γ fx ρ' σ H' O) (k : Keep (OO O) H H') (h : H x ≠ none) : H' x ≠ none := by
  by_cases z : OO O x
  · exact s.trk x (.inr z)
  · cases e : H x with
    | none => exact absurd e h
    | some u => rw [k x u e z]; exact fun z => nomatch z
theorem SS.step (s : SS K Z Γ fx B P ρ σ H O) (t : SR K Z Γ' fx ρ' σ' H' O') (k : Keep (OO O) H H') (ho : ∀ a, OO O' a → OO O a ∨ H a = none) (hb : ∀ a, H a ≠ none → H' a ≠ none) (fd : ∀ p ∈ fx, Γ'[p.1]? = some (fsh p.2.2)) (oi : ∀ p ∈ fx, O' p.1 = O p.1) : SS K Z Γ' fx B P ρ' σ' H' O' where
  sr := t
  kb := fun x u e n => k x u (s.kb x u e n) fun z => by
    rcases s.ob x z with h | h
    · exact n h
    · rw [e] at h; cases h
  ob := fun a z => by
    rcases ho a z with h | h
    · exact s.ob a h
    · by_cases q : B a = none
      · exact .inr q
      · exact absurd h (s.bt a q)
  bt := fun a h => hb a (s.bt a h)
  fd := fd
  oi := fun p hp => (oi p hp).trans (s.oi p hp)
/-- an expression has been evaluated -/
theorem SS.ex (s : SS K Z Γ fx B P ρ σ H O) (t : SR K Z Γ fx ρ' σ' H' O) (k : Keep (OO O) H H') : SS K Z Γ fx B P ρ' σ' H' O :=
  s.step t k (fun _ z => .inl z) (fun _ z => t.there k z) s.fd fun _ _ => rfl
/-- from a later entry to an earlier one -/
theorem SS.trans (s : SS K Z Γ fx B P ρ σ H O) (t : SS K Z Γ' fx H O ρ' σ' H' O') : SS K Z Γ' fx B P ρ' σ' H' O' := s.step t.sr t.kb t.ob t.bt t.fd t.oi
/-- what a return hands back -/
def RetOk (K : PySem.W.Frag) (Z : Addr → Prop) (fx : List FX) (B : Hp) (P : Nat → List Addr) (rs : Bool) (v : V) (d : D) (ρ : Ev) (H : Hp) : Prop := ∃ Γ σ O, SS K Z Γ fx B P ρ σ H O ∧ Rep K (NN Z O) H v d ∧ (rs = true → Fresh K Z Γ fx ρ σ B H O v d)
theorem RetOk.trans (s : SS K Z Γ fx B P ρ σ H O) (t : RetOk K Z fx H O rs v d ρ' H') : RetOk K Z fx B P rs v d ρ' H' := by
  obtain ⟨Γ', σ', O', t, r, f⟩ := t
  refine ⟨Γ', σ', O', s.trans t, r, fun z => ?_⟩
  obtain ⟨a, xs, ds, e1, e2, e3, e4⟩ := f z
  refine ⟨a, xs, ds, e1, e2, ?_, e4⟩
  cases q : B a with
  | none => rfl
  | some u => exact absurd e3 (s.bt a (by rw [q]; exact fun z => nomatch z))
end
def tS (K : PySem.W.Frag) (Z : Addr → Prop) (Γ Γ' : List Sh) (fx : List FX) (B : Hp) (P : Nat → List Addr) (XD : XP) (W : WX) (G : List Sh → Prop) (rs : Bool) (m : Ev → SOut) : TS := fun E σ H => ∃ ρ O, SS K Z Γ fx B P ρ σ H O ∧
  (m ρ).Post (fun ρ' => ∀ σ' H' O', SS K Z Γ' fx B P ρ' σ' H' O' → E.nx σ' H') (fun d ρ' => ∀ v H', RetOk K Z fx B P rs v d ρ' H' → E.rt v H')
    (fun x ρ' => ∀ cls d σ' H' O' Γ2, G Γ2 → SS K Z Γ2 fx B P ρ' σ' H' O' → XD.xd cls d H' x → W cls d σ' H')
structure VS (X : Cx) (XD : XP) (W : WX) (G : List Sh → Prop) (rs : Bool) (Γ : List Sh) (st : Stmt) (Γ' : List Sh) (m : Ev → SOut) : Prop where
  ps : ∀ Z fx B P, HX X XD fx → PS X st (tS X.K Z Γ Γ' fx B P XD W G rs m)
structure VSs (X : Cx) (XD : XP) (W : WX) (G : List Sh → Prop) (rs : Bool) (Γ : List Sh) (st : List Stmt) (Γ' : List Sh) (m : Ev → SOut) : Prop where
  pss : ∀ Z fx B P, HX X XD fx → PSs X st (tS X.K Z Γ Γ' fx B P XD W G rs m)
theorem PSimp {X : Cx} {st : Stmt} {t t' : TS} (h : PS X st t) (i : ∀ E σ H, t' E σ H → t E σ H) : PS X st t' := ⟨fun pins s σ H E I q => h.run pins s σ H E I (i E σ H q)⟩
theorem PSsimp {X : Cx} {st : List Stmt} {t t' : TS} (h : PSs X st t) (i : ∀ E σ H, t' E σ H → t E σ H) : PSs X st t' := ⟨fun pins s σ H E I q => h.run pins s σ H E I (i E σ H q)⟩

/-! ### the slots of one's own -/
def putO (O : Nat → List Addr) (i : Nat) (l : List Addr) : Nat → List Addr := fun j => if j = i then l else O j
theorem putO_ne {O : Nat → List Addr} {i j : Nat} {l : List Addr} (h : j ≠ i) : putO O i l j = O j := if_neg h
section
variable {K : PySem.W.Frag} {Z : Addr → Prop} {Γ Γ' : List Sh} {fx : List FX} {B H H' H1 : Hp} {P : Nat → List Addr} {ρ ρ' ρ1 : Ev} {σ σ' σ1 : L2.St} {O O' O1 : Nat → List Addr} {i : Nat} {v : V} {d : D} {a : Addr} {xs : List V} {ds : List D} {sh : Sh}
theorem putO_nil {x : Addr} (h : OO (putO O i []) x) : OO O x := by
  obtain ⟨j, m⟩ := h
  unfold putO at m
  by_cases e : j = i
  · rw [if_pos e] at m; cases m
  · rw [if_neg e] at m; exact ⟨j, m⟩
theorem get_set {Γ : List Sh} {i j : Nat} {sh s : Sh} (h : (Γ.set i s)[j]? = some sh) : (j = i ∧ sh = s) ∨ (j ≠ i ∧ Γ[j]? = some sh) := by
  by_cases e : i = j
  · subst e
    rw [List.getElem?_set_self (by have := lt_of_get h; rwa [List.length_set] at this)] at h
    cases h
    exact .inl ⟨rfl, rfl⟩
  · rw [List.getElem?_set_ne e] at h
    exact .inr ⟨fun z => e z.symm, h⟩
/-- a slot that is no deck's set to something frozen -/
theorem SR.setAny (s : SR K Z Γ fx ρ σ H O) (hi : i < Γ.length) (r : Rep K (NN Z O) H v d) (hf : ∀ p ∈ fx, p.1 ≠ i) : SR K Z (Γ.set i .fz) fx (ρ.set i (some d)) (σ.set i (some v)) H (putO O i []) where
  lenR := by rw [List.length_set, List.length_set]; exact s.lenR
  lenS := by rw [List.length_set, List.length_set]; exact s.lenS
  slot := fun j sh e => by
    have iN : ∀ a, NN Z (putO O i []) a → NN Z O a := fun a z => z.elim .inl fun z => .inr (putO_nil z)
    rw [getV_set, getS_set]
    rcases get_set e with ⟨rfl, rfl⟩ | ⟨hj, e⟩
    · rw [if_pos rfl, if_pos rfl, if_pos (by rw [s.lenR]; exact hi), if_pos (by rw [s.lenS]; exact hi)]
      exact ⟨if_pos rfl, v, rfl, r.imp iN⟩
    · rw [if_neg (fun z => hj z.symm), if_neg (fun z => hj z.symm)]
      have := (s.slot j sh e).imp (N' := NN Z (putO O i [])) fun a _ => iN a
      unfold putO
      rw [if_neg hj]
      exact this
  out := fun j h => by
    unfold putO
    split
    · rfl
    · exact s.out j (by rwa [List.length_set] at h)
  dis := fun j k a h1 h2 => by
    unfold putO at h1 h2
    split at h1
    · cases h1
    · split at h2
      · cases h2
      · exact s.dis j k a h1 h2
  trk := fun a z => s.trk a (z.elim .inl fun z => .inr (putO_nil z))
  zo := fun a j z m => by
    unfold putO at m
    split at m
    · cases m
    · exact s.zo a j z m
  sm := s.sm
  fix := fun p hp => by
    rw [getS_set, if_neg (fun z => hf p hp z.symm)]
    exact s.fix p hp
/-- a list of one's own frozen -/
theorem SR.freeze (s : SR K Z Γ fx ρ σ H O) (h : Γ[i]? = some .l1) : SR K Z (Γ.set i .fz) fx ρ σ H (putO O i []) where
  lenR := by rw [List.length_set]; exact s.lenR
  lenS := by rw [List.length_set]; exact s.lenS
  slot := fun j sh e => by
    have iN : ∀ a, NN Z (putO O i []) a → NN Z O a := fun a z => z.elim .inl fun z => .inr (putO_nil z)
    rcases get_set e with ⟨rfl, rfl⟩ | ⟨hj, e⟩
    · have := s.slot j _ h
      cases q : getV ρ j with
      | none => exact if_pos rfl
      | some d =>
        rw [q] at this
        obtain ⟨a, xs, ds, h1, h2, h3, rfl, h5⟩ := this
        refine ⟨if_pos rfl, _, h1, .lst (.inl h3) (fun z => ?_) (h5.imp iN)⟩
        have ha : a ∈ O j := by rw [h2]; simp
        rcases z with z | ⟨k, m⟩
        · exact s.zo a j z ha
        · unfold putO at m
          by_cases hk : k = j
          · rw [if_pos hk] at m; cases m
          · rw [if_neg hk] at m; exact hk (s.dis k j a m ha)
    · have := (s.slot j sh e).imp (N' := NN Z (putO O i [])) fun a _ => iN a
      unfold putO
      rw [if_neg hj]
      exact this
  out := fun j h => by
    unfold putO
    split
    · rfl
    · exact s.out j (by rwa [List.length_set] at h)
  dis := fun j k a h1 h2 => by
    unfold putO at h1 h2
    split at h1
    · cases h1
    · split at h2
      · cases h2
      · exact s.dis j k a h1 h2
  trk := fun a z => s.trk a (z.elim .inl fun z => .inr (putO_nil z))
  zo := fun a j z m => by
    unfold putO at m
    split at m
    · cases m
    · exact s.zo a j z m
  sm := s.sm
  fix := s.fix
/-- a new list becomes a slot's own -/
theorem SR.owned (s : SR K (addZ Z a) Γ fx ρ σ H O) (hi : i < Γ.length) (hf : ∀ p ∈ fx, p.1 ≠ i) (hz : ¬ Z a) (sm : Z sysModules) (h : H a = some (.lst xs)) (r : RepA K (NN (addZ Z a) O) H xs ds) : SR K Z (Γ.set i .l1) fx (ρ.set i (some (.list ds))) (σ.set i (some (.ref a))) H (putO O i [a]) where
  lenR := by rw [List.length_set, List.length_set]; exact s.lenR
  lenS := by rw [List.length_set, List.length_set]; exact s.lenS
  slot := fun j sh e => by
    have iN : ∀ b, NN Z (putO O i [a]) b → NN (addZ Z a) O b := fun b z => by
      rcases z with z | ⟨k, m⟩
      · exact .inl (.inl z)
      · unfold putO at m
        split at m
        · exact .inl (.inr (by simpa using m))
        · exact .inr ⟨k, m⟩
    rw [getV_set, getS_set]
    rcases get_set e with ⟨rfl, rfl⟩ | ⟨hj, e⟩
    · rw [if_pos rfl, if_pos rfl, if_pos (by rw [s.lenR]; exact hi), if_pos (by rw [s.lenS]; exact hi)]
      exact ⟨a, xs, ds, rfl, if_pos rfl, h, rfl, r.imp iN⟩
    · rw [if_neg (fun z => hj z.symm), if_neg (fun z => hj z.symm)]
      have := (s.slot j sh e).imp (N' := NN Z (putO O i [a])) fun b _ => iN b
      unfold putO
      rw [if_neg hj]
      exact this
  out := fun j h => by
    unfold putO
    rw [List.length_set] at h
    rw [if_neg (by omega)]
    exact s.out j h
  dis := fun j k b h1 h2 => by
    unfold putO at h1 h2
    have nO : ∀ k, a ∉ O k := fun k => s.zo a k (.inr rfl)
    by_cases e1 : j = i
    · rw [if_pos e1] at h1
      have hb : b = a := by simpa using h1
      by_cases e2 : k = i
      · rw [e1, e2]
      · rw [if_neg e2, hb] at h2; exact absurd h2 (nO k)
    · rw [if_neg e1] at h1
      by_cases e2 : k = i
      · rw [if_pos e2] at h2
        have hb : b = a := by simpa using h2
        rw [hb] at h1; exact absurd h1 (nO j)
      · rw [if_neg e2] at h2; exact s.dis j k b h1 h2
  trk := fun b z => by
    rcases z with z | ⟨k, m⟩
    · exact s.trk b (.inl (.inl z))
    · unfold putO at m
      split at m
      · have hb : b = a := by simpa using m
        rw [hb, h]; exact fun z => nomatch z
      · exact s.trk b (.inr ⟨k, m⟩)
  zo := fun b j z m => by
    unfold putO at m
    split at m
    · have hb : b = a := by simpa using m
      exact hz (hb ▸ z)
    · exact s.zo b j (.inl z) m
  sm := sm
  fix := fun p hp => by
    rw [getS_set, if_neg (fun z => hf p hp z.symm)]
    exact s.fix p hp
/-- a list of one's own written -/
theorem SR.write (s : SR K Z Γ fx ρ σ H O) (h : Γ[i]? = some .l1) (e : getS σ i = some (.ref a)) (ho : O i = [a]) {ys : List V} {es : List D} (r : RepA K (NN Z O) H ys es) : SR K Z Γ fx (ρ.set i (some (.list es))) σ (upd H a (.lst ys)) O := by
  have ha : a ∈ O i := by rw [ho]; simp
  have kN : ∀ b, b = a → NN Z O b := fun b z => .inr ⟨i, z ▸ ha⟩
  have kw : Keep (fun b => b = a) H (upd H a (.lst ys)) := Keep.at rfl
  exact {
    lenR := by rw [List.length_set]; exact s.lenR
    lenS := s.lenS
    slot := fun j sh g => by
      rw [getV_set]
      by_cases hj : i = j
      · subst hj
        rw [h] at g
        cases g
        rw [if_pos rfl, if_pos (by rw [s.lenR]; exact lt_of_get h)]
        exact ⟨a, ys, es, e, ho, upd_same, rfl, r.keep kw kN⟩
      · rw [if_neg hj]
        exact (s.slot j sh g).keepN kw kN fun b m z => hj (s.dis i j a ha (z ▸ m))
    out := s.out
    dis := s.dis
    trk := fun b z => by
      by_cases q : b = a
      · rw [q, upd_same]; exact fun z => nomatch z
      · rw [upd_ne q]; exact s.trk b z
    zo := s.zo
    sm := s.sm
    fix := s.fix }
end
end BV
set_option Elab.async false
set_option linter.all false
set_option maxRecDepth 100000
set_option maxHeartbeats 4000000
/-! BV15: statements' rules. -/
namespace BV
open PySem PySem.Spec L2
open PyProof.Rows hiding St

/-- no comprehension that stores its own end -/
def plainSw : Expr → Bool
  | .ListComp _ _ _ _ => false
  | .SetComp _ _ _ _ => false
  | .DictComp _ _ _ _ _ => false
  | _ => true
theorem sw_no {e : Expr} {t : Option Expr} {l : Nat} {env : PySem.Env} (h : plainSw e = true) : swapsWith e t l env = pure false := by
  cases e <;> first | (cases h; done) | rfl
theorem sw_sole {e t : Expr} {l : Nat} {env : PySem.Env} (h : plainSw e = true) : swapsWithSole [t] e l env = pure false := sw_no h
/-- targets and values that are stored in order -/
def inOrder : Expr → Expr → Bool
  | .Tuple _ _ _, .Tuple vs _ _ => vs.all (foldedForSure 8) && !vs.any fun | .Starred .. => true | _ => false
  | .List _ _, _ => false
  | _, _ => true
section
variable {X : Cx} {XD : XP} {W : WX} {G : List Sh → Prop} {rs : Bool} {Γ Γ1 Γ2 : List Sh} {st : Stmt} {rest a b : List Stmt} {e k c iter tg : Expr} {m m1 m2 : Ev → SOut} {me mk mc : Ev → Out D} {mi : Ev → Out (List D)} {pos pos' p1 p2 p3 : Pos} {i : Nat} {x : Str} {fr q bw : Bool} {t : Tg}

theorem VE.any {e : Expr} {ba fr q : Bool} {me : Ev → Out D} (h : VE X XD W Γ e ba fr q me) (Z : Addr → Prop) (fx : List FX) (hx : HX X XD fx) : PE X e (fun σ H Q => ∃ O, tV X.K Z Γ fx O XD W ba fr q me σ H Q) := ⟨fun pins s σ H Q I ⟨O, z⟩ => (h.pe Z fx O hx).run pins s σ H Q I z⟩
theorem VT.any {e : Expr} {q : Bool} {me : Ev → Out D} (h : VT X XD W Γ e q me) (Z : Addr → Prop) (fx : List FX) (hx : HX X XD fx) : PT X e (fun σ H Q => ∃ O, tT X.K Z Γ fx O XD W q me σ H Q) := ⟨fun pins s σ H Q I ⟨O, z⟩ => (h.pt Z fx O hx).run pins s σ H Q I z⟩
/-! ### blocks -/
theorem vss_nil : VSs X XD W G rs Γ [] Γ (fun ρ => .next ρ) := ⟨fun Z fx B P hx => PSsimp pss_nil fun E σ H h => by
  obtain ⟨ρ, O, S, h⟩ := h
  exact h σ H O S⟩
theorem vss_cons (h1 : VS X XD W G rs Γ st Γ1 m1) (h2 : VSs X XD W G rs Γ1 rest Γ2 m2) : VSs X XD W G rs Γ (st :: rest) Γ2 (fun ρ => (m1 ρ).thn fun ρ => m2 ρ) := ⟨fun Z fx B P hx => PSsimp (pss_cons (h1.ps Z fx B P hx) (h2.pss Z fx B P hx)) fun E σ H h => by
  obtain ⟨ρ, O, S, h⟩ := h
  rw [SOut.Post.thn] at h
  exact ⟨ρ, O, S, h.mono (fun ρ1 z σ1 H1 O1 S1 => ⟨ρ1, O1, S1, z⟩) (fun _ _ z => z) fun _ _ z => z⟩⟩
/-- what never goes on goes on anywhere -/
theorem vss_end (h : VSs X XD W G rs Γ rest Γ1 m1) (hn : ∀ ρ ρ', m1 ρ ≠ .next ρ') : VSs X XD W G rs Γ rest Γ2 m1 := ⟨fun Z fx B P hx => PSsimp (h.pss Z fx B P hx) fun E σ H h => by
  obtain ⟨ρ, O, S, h⟩ := h
  refine ⟨ρ, O, S, ?_⟩
  cases e : m1 ρ with
  | next ρ' => exact absurd e (hn _ _)
  | ret d ρ' => rw [e] at h; exact h
  | exc d ρ' => rw [e] at h; exact h
  | stk => rw [e] at h; exact h⟩
/-- a slot that may be set -/
def frB (Γ : List Sh) (i : Nat) : Bool := match Γ[i]? with
  | some .fz => true
  | some .l1 => true
  | _ => false
theorem frB_no {Γ : List Sh} {i : Nat} (h : frB Γ i = true) {b : Bool} (e : Γ[i]? = some (fsh b)) : False := by
  unfold frB at h
  rw [e] at h
  cases b <;> cases h
theorem fd_set (hi : frB Γ i = true) {s : Sh} {fx : List FX} (h : ∀ p ∈ fx, Γ[p.1]? = some (fsh p.2.2)) : ∀ p ∈ fx, (Γ.set i s)[p.1]? = some (fsh p.2.2) := fun p hp => by
  rw [List.getElem?_set_ne fun z => frB_no hi (by rw [z]; exact h p hp)]
  exact h p hp
theorem fsh_fz {b : Bool} (h : some (fsh b) = some Sh.fz) : False := by cases b <;> cases h
theorem fd_ne (hi : frB Γ i = true) {fx : List FX} (h : ∀ p ∈ fx, Γ[p.1]? = some (fsh p.2.2)) : ∀ p ∈ fx, p.1 ≠ i := fun p hp z => frB_no hi (z ▸ h p hp)
theorem vss_frz (hi : Γ[i]? = some .l1) (h : VSs X XD W G rs (Γ.set i .fz) rest Γ2 m2) : VSs X XD W G rs Γ rest Γ2 (fun ρ => (SOut.next ρ).thn fun ρ => m2 ρ) := ⟨fun Z fx B P hx => PSsimp (h.pss Z fx B P hx) fun E σ H h => by
  obtain ⟨ρ, O, S, h⟩ := h
  exact ⟨ρ, putO O i [], S.step (S.sr.freeze hi) Keep.refl (fun a z => .inl (putO_nil z)) (fun _ z => z) (fd_set (by unfold frB; rw [hi]) S.fd) (fun p hp => putO_ne (fd_ne (by unfold frB; rw [hi]) S.fd p hp)), h⟩⟩

/-! ### if, return, an expression -/
theorem vs_if (hc : VT X XD W Γ c q mc) (ha : VSs X XD W G rs Γ a Γ1 m1) (hb : VSs X XD W G rs Γ b Γ1 m2) (hG : G Γ) : VS X XD W G rs Γ (.If c a b pos) Γ1 (fun ρ => (mc ρ).toS fun k ρ => if tru k = true then m1 ρ else m2 ρ) := ⟨fun Z fx B P hx => PSimp (ps_if (hc.any Z fx hx) (ha.pss Z fx B P hx) (hb.pss Z fx B P hx)) fun E σ H h => by
  obtain ⟨ρ, O, S, h⟩ := h
  rw [toS_Post] at h
  refine ⟨O, ρ, S.sr, h.mono (fun k ρ1 h1 H1 S1 k1 q1 => ?_) fun x ρ1 z cls d H1 S1 k1 => z cls d σ H1 O Γ hG (S.ex S1 k1)⟩
  by_cases ck : tru k = true
  · rw [if_pos ck] at h1
    rw [if_pos ck]
    exact ⟨ρ1, O, S.ex S1 k1, h1⟩
  · rw [if_neg ck] at h1
    rw [if_neg ck]
    exact ⟨ρ1, O, S.ex S1 k1, h1⟩⟩
theorem vs_ret (he : VE X XD W Γ e false fr q me) (hr : rs = true → fr = true) (hG : G Γ) : VS X XD W G rs Γ (.Return (some e) pos) Γ1 (fun ρ => (me ρ).toS fun d ρ => .ret d ρ) := ⟨fun Z fx B P hx => PSimp (ps_ret (he.any Z fx hx)) fun E σ H h => by
  obtain ⟨ρ, O, S, h⟩ := h
  rw [toS_Post] at h
  refine ⟨O, ρ, S.sr, h.mono (fun d ρ1 h1 v H1 S1 k1 q1 r1 f1 => ?_) fun x ρ1 z cls d H1 S1 k1 => z cls d σ H1 O Γ hG (S.ex S1 k1)⟩
  refine h1 v H1 ⟨Γ, σ, O, S.ex S1 k1, r1, fun z => ?_⟩
  obtain ⟨a, xs, ds, e1, e2, e3, e4⟩ := f1 (hr z)
  refine ⟨a, xs, ds, e1, e2, ?_, e4⟩
  cases q : B a with
  | none => rfl
  | some u => exact absurd e3 (S.bt a (by rw [q]; exact fun z => nomatch z))⟩
theorem vs_rtn (hr : rs = false) : VS X XD W G rs Γ (.Return none pos) Γ1 (fun ρ => .ret .none ρ) := ⟨fun Z fx B P hx => PSimp ps_retN fun E σ H h => by
  obtain ⟨ρ, O, S, h⟩ := h
  exact h .non H ⟨Γ, σ, O, S, .non, fun z => by rw [hr] at z; cases z⟩⟩
theorem vs_exp (he : VE X XD W Γ e false fr q me) (hs : plainSw e = true) (hG : G Γ) : VS X XD W G rs Γ (.Expr e pos) Γ (fun ρ => (me ρ).toS fun _ ρ => .next ρ) := ⟨fun Z fx B P hx => PSimp (ps_expr (he.any Z fx hx) (sw_no hs)) fun E σ H h => by
  obtain ⟨ρ, O, S, h⟩ := h
  rw [toS_Post] at h
  exact ⟨O, ρ, S.sr, h.mono (fun d ρ1 h1 v H1 S1 k1 q1 r1 f1 => h1 σ H1 O (S.ex S1 k1)) fun x ρ1 z cls d H1 S1 k1 => z cls d σ H1 O Γ hG (S.ex S1 k1)⟩⟩

/-! ### name = value -/
/-- a reading of a stored value -/
def StQ (X : Cx) (XD : XP) (W : WX) (Γ : List Sh) (st : Stmt) (i : Nat) (fr q : Bool) (me : Ev → Out D) : Prop := ∀ Z fx, HX X XD fx → ∃ te, PS X st (tAsg te (gName i)) ∧ ∀ σ H Q, (∃ O, tV X.K Z Γ fx O XD W false fr q me σ H Q) → te σ H Q
theorem stq {pe : Pos} (hN : X.N.Nodup) (hi : X.N[i]? = some x) (hl : Loc X.env.scope x) (hx : X.fn x = true ∨ X.env.scope.names.lookup x = some .local) (he : VE X XD W Γ e false fr q me) (hs : swapsWith e (some (.Name x pe)) pos.line X.env = pure false) : StQ X XD W Γ (.Assign [.Name x pe] e pos) i fr q me :=
  fun Z fx hx' => ⟨_, ps_set hN hi hl (he.any Z fx hx') hs hx, fun _ _ _ z => z⟩
theorem vs_set (hq : StQ X XD W Γ st i fr q me) (hl : i < Γ.length) (hd : frB Γ i = true) (hG : G Γ) :
    VS X XD W G rs Γ st (Γ.set i .fz) (fun ρ => (me ρ).toS fun d ρ => .next (ρ.set i (some d))) := ⟨fun Z fx B P hx => by
  obtain ⟨te, hp, hte⟩ := hq Z fx hx
  refine PSimp hp fun E σ H h => ?_
  obtain ⟨ρ, O, S, h⟩ := h
  rw [toS_Post] at h
  refine hte _ _ _ ⟨O, ρ, S.sr, h.mono (fun d ρ1 h1 v H1 S1 k1 q1 r1 f1 => ?_) fun x ρ1 z cls d H1 S1 k1 => z cls d σ H1 O Γ hG (S.ex S1 k1)⟩
  exact h1 _ H1 _ ((S.ex S1 k1).step (S1.setAny hl r1 (fd_ne hd S.fd)) Keep.refl (fun a z => .inl (putO_nil z)) (fun _ z => z) (fd_set hd S.fd) fun p hp => putO_ne (fd_ne hd S.fd p hp))⟩
theorem own_step {fx : List FX} {B H H1 : Hp} {P : Nat → List Addr} {Z : Addr → Prop} {ρ ρ1 : Ev} {σ : L2.St} {O : Nat → List Addr} {v : V} {d : D} (S : SS X.K Z Γ fx B P ρ σ H O) (S1 : SR X.K Z Γ fx ρ1 σ H1 O) (k1 : Keep (OO O) H H1) (hl : i < Γ.length) (hd : frB Γ i = true)
    (f : Fresh X.K Z Γ fx ρ1 σ H H1 O v d) : ∃ O', SS X.K Z (Γ.set i .l1) fx B P (ρ1.set i (some d)) (σ.set i (some v)) H1 O' := by
  obtain ⟨a, xs, ds, rfl, rfl, e3, e4, e5, e6⟩ := f
  refine ⟨_, S.step (e6.owned (xs := xs) hl (fd_ne hd S.fd) (fun z => S.sr.trk a (.inl z) e3) S.sr.sm e4 e5) k1 (fun b z => ?_) (fun _ z => S1.there k1 z) (fd_set hd S.fd) fun p hp => putO_ne (fd_ne hd S.fd p hp)⟩
  obtain ⟨j, m⟩ := z
  unfold putO at m
  split at m
  · have hb : b = a := by simpa using m
    exact .inr (hb ▸ e3)
  · exact .inl ⟨j, m⟩
theorem vs_own (hq : StQ X XD W Γ st i true q me) (hl : i < Γ.length) (hd : frB Γ i = true) (hG : G Γ) :
    VS X XD W G rs Γ st (Γ.set i .l1) (fun ρ => (me ρ).toS fun d ρ => ownS i d ρ) := ⟨fun Z fx B P hx => by
  obtain ⟨te, hp, hte⟩ := hq Z fx hx
  refine PSimp hp fun E σ H h => ?_
  obtain ⟨ρ, O, S, h⟩ := h
  rw [toS_Post] at h
  refine hte _ _ _ ⟨O, ρ, S.sr, h.mono (fun d ρ1 h1 v H1 S1 k1 q1 r1 f1 => ?_) fun x ρ1 z cls d H1 S1 k1 => z cls d σ H1 O Γ hG (S.ex S1 k1)⟩
  obtain ⟨O', S'⟩ := own_step S S1 k1 hl hd (f1 rfl)
  cases d <;> first | exact h1.elim | skip
  exact h1 _ H1 O' S'⟩
/-- name = [..] -/
theorem stq_lc {elt : Expr} {ifs : List Expr} {scope : Scope} {own : List (Str × Nat)} {pe spos : Pos} {fe qc qe qi : Bool} (hc : X.calm = true) (hN : X.N.Nodup) (hi : X.N[i]? = some x) (hx : X.env.scope.names.lookup x = some .local) (hk : X.env.scope.kind = .function) (hln : (pe.line == pos.line) = true)
    (hn : (scope.names.any fun (n, k) => n == x && (k == .local || k == .cell)) = false) (hw : VI X XD W Γ tg iter bw qi mi) (ok : BlkOk X.N X.env.scope scope own)
    (hg : ∀ (s : Shared) (H : Hp) (C : Addr) (cl : List (Str × Addr)) (fp : List Addr), VG (X.blk s H scope (compEnvC scope cl C X.env) fp) Γ tg t)
    (ht : ∀ (s : Shared) (H : Hp) (C : Addr) (cl : List (Str × Addr)) (fp : List Addr), VTs (X.blk s H scope (compEnvC scope cl C X.env) fp) XD.blk W0 Γ ifs qc mk)
    (he : ∀ (s : Shared) (H : Hp) (C : Addr) (cl : List (Str × Addr)) (fp : List Addr), VE (X.blk s H scope (compEnvC scope cl C X.env) fp) XD.blk W0 Γ elt false fe qe me)
    (hs : ∀ x, foldedSetIterable iter X.env x = pure x) (hΓ : ∀ i ∈ own.map (·.2), Γ[i]? = some .fz) (hsl : ∀ i ∈ t.slots, i ∈ own.map (·.2)) (hbw : bw = true → (qc && qe) = true) :
    StQ X XD W Γ (.Assign [.Name x pe] (.ListComp elt [⟨tg, iter, ifs, 0⟩] scope pos) spos) i true (qi && (qc && qe)) (lcE t (own.map (·.2)) mi mk me) := fun Z fx hx' =>
  ⟨tLC X.K Z Γ fx XD W bw qi qc qe fe t (own.map (·.2)) mi mk me,
    ps_setLc hc hN hi hx (sw_true hk hx hln hn) ⟨fun pins s' σ H' R I ⟨O, h⟩ => (hw.pi Z fx O hx').run pins s' σ H' R I h⟩ ok (fun s H C cl fp => ⟨fun pins s' σ H' v u Q I r ⟨O, L, h⟩ => ((hg s H C cl fp).pg _ _ O fun _ _ p hp => by cases hp).run pins s' σ H' v u Q I r h⟩)
    (fun s H C cl fp => ⟨fun pins s' σ H' Q I ⟨O, L, h⟩ => ((ht s H C cl fp).pts _ _ O fun _ z => nomatch z).run pins s' σ H' Q I h⟩) (fun s H C cl fp => ⟨fun pins s' σ H' Q I ⟨O, L, h⟩ => ((he s H C cl fp).pe _ _ O fun _ z => nomatch z).run pins s' σ H' Q I h⟩) hs, fun σ H Q ⟨O, h⟩ => lc_imp hΓ hsl hbw σ H Q h⟩
/-- targets that are frozen already -/
theorem vs_asg (he : VE X XD W Γ e false fr q me) (hg : VG X Γ tg t) (hs : plainSw e = true) (hp : plainG tg = true) (ho : swappedStores [tg] e X.env = pure none) (hΓ : ∀ i ∈ t.slots, Γ[i]? = some .fz) (hG : G Γ) :
    VS X XD W G rs Γ (.Assign [tg] e pos) Γ (fun ρ => (me ρ).toS fun d ρ => (Out.lift (bindT t d ρ) ρ).toS fun ρ _ => .next ρ) := ⟨fun Z fx B P hx => by
  by_cases hfx : ∀ p ∈ fx, Γ[p.1]? = some (fsh p.2.2)
  · refine PSimp (ps_asg (he.any Z fx hx) (g := fun v σ H Q => ∃ O, tG X.K Z Γ fx O t v σ H Q) ⟨fun pins s σ H v u Q I r ⟨O, z⟩ => (hg.pg Z fx O fun i hi p hp z => by have h1 := hΓ i hi; rw [← z, hfx p hp] at h1; exact fsh_fz h1).run pins s σ H v u Q I r z⟩ (sw_no hs) ho (by rw [each_cons hp]; rfl)) fun E σ H h => ?_
    obtain ⟨ρ, O, S, h⟩ := h
    rw [toS_Post] at h
    refine ⟨O, ρ, S.sr, h.mono (fun d ρ1 h1 v H1 S1 k1 q1 r1 f1 => ?_) fun x ρ1 z cls d H1 S1 k1 => z cls d σ H1 O Γ hG (S.ex S1 k1)⟩
    cases eb : bindT t d ρ1 with
    | none => rw [eb] at h1; exact h1.elim
    | some ρ2 =>
      rw [eb] at h1
      exact ⟨O, ρ1, d, ρ2, S1, r1, eb, fun σ2 S2 _ => h1 σ2 H1 O ((S.ex S1 k1).ex S2 Keep.refl)⟩
  · refine ⟨fun pins s σ H E I ⟨ρ, O, S, _⟩ => absurd S.fd hfx⟩⟩

/-! ### a list of one's own: append, [k] = -/
theorem own_slot {K : PySem.W.Frag} {Z : Addr → Prop} {fx : List FX} {ρ : Ev} {σ : L2.St} {H : Hp} {O : Nat → List Addr} {ds : List D} (S : SR K Z Γ fx ρ σ H O) (hΓ : Γ[i]? = some .l1) (e : getV ρ i = some (.list ds)) : ∃ a xs, σ[i]? = some (some (.ref a)) ∧ getS σ i = some (.ref a) ∧ O i = [a] ∧ H a = some (.lst xs) ∧ RepA K (NN Z O) H xs ds := by
  have s := S.slot i _ hΓ
  rw [e] at s
  obtain ⟨a, xs, ds', h1, h2, h3, h4, h5⟩ := s
  cases h4
  refine ⟨a, xs, ?_, h1, h2, h3, h5⟩
  unfold getS at h1
  cases q : σ[i]? with
  | none => rw [q] at h1; cases h1
  | some o => rw [q] at h1; exact congrArg some h1
theorem hasL_some {ρ : Ev} {i : Nat} (h : hasL ρ i = true) : ∃ ds, getV ρ i = some (.list ds) := by
  unfold hasL at h
  split at h
  · exact ⟨_, by assumption⟩
  · cases h
theorem slot_same {σ : L2.St} {i : Nat} {a b : Addr} (h : σ[i]? = some (some (V.ref a))) (h' : getS σ i = some (.ref b)) : b = a := by
  unfold getS at h'
  rw [h] at h'
  cases h'
  rfl
theorem vs_app {px apos cpos : Pos} (hN : X.N[i]? = some x) (hv : Vis X.env.scope x) (hd : (x == ("__debug__" : Str)) = false) (hcd : (x == ("__classdict__" : Str)) = false) (hΓ : Γ[i]? = some .l1) (hline : (apos.endLine == cpos.line) = true)
    (hs : noStar e = true) (he : VE X XD W Γ e false fr q me) (hG : G Γ) :
    VS X XD W G rs Γ (.Expr (.Call (.Attribute (.Name x px) "append" apos) [e] [] cpos) pos) Γ (fun ρ => if hasL ρ i = true then (me ρ).toS fun d ρ => appD i d ρ else .stk) := ⟨fun Z fx B P hx =>
  PSimp (ps_expr (pe_bm PySem.F.plainAttrs_list PySem.F.slot_list_append PySem.F.type_list_append mt_append (pe_var hN hv hd hcd) (pa_cons (he.any Z fx hx) pa_nil (star_cons hs)) rfl (by rw [star_cons hs]; rfl) hline (star_cons hs) rfl) rfl) fun E σ H h => by
    obtain ⟨ρ, O, S, h⟩ := h
    dsimp only at h
    by_cases hl : hasL ρ i = true
    · rw [if_pos hl, toS_Post] at h
      obtain ⟨ds0, e0⟩ := hasL_some hl
      obtain ⟨a, xs0, h1, _, ho, h2, _⟩ := own_slot S.sr hΓ e0
      refine ⟨.ref a, h1, .inl ⟨rfl, xs0, .inl (.inl h2)⟩, O, ρ, S.sr, h.mono (fun d ρ1 h3 y H1 S1 k1 q1 r1 _ => ?_) fun x ρ1 z cls d H1 S1 k1 => z cls d σ H1 O Γ hG (S.ex S1 k1)⟩
      unfold appD at h3
      split at h3
      · rename_i ds e1
        obtain ⟨b, xs, h4, h4', ho', h5, h6⟩ := own_slot S1 hΓ e1
        obtain rfl := slot_same h1 h4'
        by_cases hz : ds.length < LIM
        · rw [if_pos hz] at h3
          refine ⟨b, xs, y, rfl, rfl, h5, by rw [sizeLine_eq, h6.length]; exact hz, ?_⟩
          have S2 := S1.write hΓ h4' ho' (h6.append (.cons r1 .nil))
          refine h3 σ _ O (S.ex S2 fun b u eb n => ?_)
          rw [upd_ne fun z => n ⟨i, by rw [ho', z]; simp⟩]
          exact k1 b u eb n
        · rw [if_neg hz] at h3; exact h3.elim
      · exact h3.elim
    · rw [if_neg hl] at h
      exact h.elim⟩
theorem putIdx_some {xs : List D} {y d z : D} (h : putIdx (.list xs) y d = some z) : ∃ k j, y = .int k ∧ atIx xs.length k = some j ∧ z = .list (xs.set j d) := by
  cases y <;> first | (cases h; done) | skip
  rename_i k
  obtain ⟨j, h1, h2⟩ := Option.map_eq_some_iff.mp (show (atIx xs.length k).map (fun k => PyData.list (xs.set k d)) = some z from h)
  exact ⟨k, j, rfl, h1, h2.symm⟩
theorem vs_seti {px : Pos} {pt : Pos} {fk qk : Bool} (hN : X.N[i]? = some x) (hv : Vis X.env.scope x) (hd : (x == ("__debug__" : Str)) = false) (hcd : (x == ("__classdict__" : Str)) = false) (hΓ : Γ[i]? = some .l1)
    (hsw : plainSw e = true) (hpi : ∀ v, assign (.Subscript (.Name x px) k pt) X.env v = (do
      let ov ← holding [v] (eval (.Name x px) X.env)
      let iv ← holding [v, ov] (eval k X.env)
      standAt pt
      holding [v, ov, iv] (setItem ov iv v)
      release [v, ov, iv] [])) (he : VE X XD W Γ e false fr q me) (hk : VE X XD W Γ k false fk qk mk) (hG : G Γ) :
    VS X XD W G rs Γ (.Assign [.Subscript (.Name x px) k pt] e pos) Γ (fun ρ => (me ρ).toS fun d ρ => if hasL ρ i = true then (mk ρ).toS fun y ρ => setD i y d ρ else .stk) := ⟨fun Z fx B P hx =>
  PSimp (ps_asg (he.any Z fx hx) (pg_sub (pe_var hN hv hd hcd) (hk.any Z fx hx) set_list hpi) (sw_sole hsw)) fun E σ H h => by
    obtain ⟨ρ, O, S, h⟩ := h
    rw [toS_Post] at h
    refine ⟨O, ρ, S.sr, h.mono (fun d ρ1 h1 v H1 S1 k1 q1 r1 _ => ?_) fun x ρ1 z cls d H1 S1 k1 => z cls d σ H1 O Γ hG (S.ex S1 k1)⟩
    by_cases hl : hasL ρ1 i = true
    · rw [if_pos hl, toS_Post] at h1
      obtain ⟨ds0, e0⟩ := hasL_some hl
      obtain ⟨a, xs0, h2, _, ho, h3, _⟩ := own_slot S1 hΓ e0
      refine ⟨.ref a, h2, O, ρ1, S1, h1.mono (fun y ρ2 h4 w H2 S2 k2 q2 r2 _ => ?_) fun x ρ2 z cls d H2 S2 k2 => z cls d σ H2 O Γ hG ((S.ex S1 k1).ex S2 k2)⟩
      unfold setD at h4
      split at h4
      · rename_i x0 e1
        split at h4
        · rename_i z ez
          cases x0 <;> first | (cases ez; done) | skip
          rename_i ds
          obtain ⟨kk, j, rfl, hj, rfl⟩ := putIdx_some ez
          obtain ⟨b, xs, _, h5', ho', h6, h7⟩ := own_slot S2 hΓ e1
          obtain rfl := slot_same h2 h5'
          refine ⟨b, xs, kk, j, rfl, (RepT.rep (r2 : Rep _ _ _ _ _)).int_inv, h6, by rw [h7.length]; exact hj, ?_⟩
          have S3 := S2.write hΓ h5' ho' (h7.set (Rep.keep k2 oo_nn r1) j)
          refine h4 σ _ O ((S.ex S1 k1).ex S3 fun b u eb n => ?_)
          rw [upd_ne fun z => n ⟨i, by rw [ho', z]; simp⟩]
          exact k2 b u eb n
        · exact h4.elim
      · exact h4.elim
    · rw [if_neg hl] at h1
      exact h1.elim⟩
end
end BV
set_option Elab.async false
set_option linter.all false
set_option maxRecDepth 100000
set_option maxHeartbeats 4000000
/-! BV16: the law's deck; loops. -/
namespace BV
open PySem PySem.Spec L2
open PyProof.Rows hiding St
section
variable {K : PySem.W.Frag} {Z : Addr → Prop} {Γ Γ' : List Sh} {fx : List FX} {B H H' H1 : Hp} {P : Nat → List Addr} {ρ ρ' ρ1 : Ev} {σ σ' σ1 : L2.St} {O O' O1 : Nat → List Addr} {i : Nat} {v : V} {d : D} {a : Addr} {xs : List V} {ds : List D} {sh : Sh}
theorem SR.chg {o : HO} (s : SR K Z Γ fx ρ σ H O) (hΓ : Γ[i]? = some sh) (ha : a ∈ O i) (new : Slot K (NN Z O) (upd H a o) sh (some d) (getS σ i) (O i)) : SR K Z Γ fx (ρ.set i (some d)) σ (upd H a o) O := by
  have kN : ∀ b, b = a → NN Z O b := fun b z => .inr ⟨i, z ▸ ha⟩
  have kw : Keep (fun b => b = a) H (upd H a o) := Keep.at rfl
  exact {
    lenR := by rw [List.length_set]; exact s.lenR
    lenS := s.lenS
    slot := fun j sh g => by
      rw [getV_set]
      by_cases hj : i = j
      · subst hj
        rw [hΓ] at g
        cases g
        rw [if_pos rfl, if_pos (by rw [s.lenR]; exact lt_of_get hΓ)]
        exact new
      · rw [if_neg hj]
        exact (s.slot j sh g).keepN kw kN fun b m z => hj (s.dis i j a ha (z ▸ m))
    out := s.out
    dis := s.dis
    trk := fun b z => by
      by_cases q : b = a
      · rw [q, upd_same]; exact fun z => nomatch z
      · rw [upd_ne q]; exact s.trk b z
    zo := s.zo
    sm := s.sm
    fix := s.fix }
/-- what a deck's slot holds -/
structure Dk (K : PySem.W.Frag) (N : Addr → Prop) (H : Hp) (d : D) (v : Option V) (O : List Addr) (a b : Addr) (x : V) (xs ys : List V) (d0 : D) (ds es : List D) : Prop where
  v : v = some (.ref a)
  o : O = [a, b]
  ne : a ≠ b
  ha : H a = some (.lst (x :: .ref b :: xs))
  hb : H b = some (.lst ys)
  d : d = .list (d0 :: .list es :: ds)
  r0 : Rep K N H x d0
  rs : RepA K N H xs ds
  re : RepA K N H ys es
theorem dk_slot (s : SR K Z Γ fx ρ σ H O) (hΓ : Γ[i]? = some .dk) (e : getV ρ i = some d) : ∃ a b x xs ys d0 ds es, Dk K (NN Z O) H d (getS σ i) (O i) a b x xs ys d0 ds es ∧ σ[i]? = some (some (.ref a)) := by
  have t := s.slot i _ hΓ
  rw [e] at t
  obtain ⟨a, b, x, xs, ys, d0, ds, es, h1, h2, h3, h4, h5, h6, h7, h8, h9⟩ := t
  refine ⟨a, b, x, xs, ys, d0, ds, es, ⟨h1, h2, h3, h4, h5, h6, h7, h8, h9⟩, ?_⟩
  unfold getS at h1
  cases q : σ[i]? with
  | none => rw [q] at h1; cases h1
  | some o => rw [q] at h1; exact congrArg some h1
theorem Dk.slot {N : Addr → Prop} {Os : List Addr} {v : Option V} {b : Addr} {x : V} {xs ys : List V} {d0 : D} {ds es : List D} (k : Dk K N H d v Os a b x xs ys d0 ds es) : Slot K N H .dk (some d) v Os :=
  ⟨a, b, x, xs, ys, d0, ds, es, k.v, k.o, k.ne, k.ha, k.hb, k.d, k.r0, k.rs, k.re⟩
theorem lift_Post {α : Type} {o : Option α} {ρ : Ev} {P : α → Ev → Prop} {E : D → Ev → Prop} (h : (Out.lift o ρ).Post P E) : ∃ x, o = some x ∧ P x ρ := by
  cases o with
  | none => exact h.elim
  | some x => exact ⟨x, rfl, h⟩
end
section
variable {X : Cx} {XD : XP} {W : WX} {G : List Sh → Prop} {rs : Bool} {Γ Γ1 Γ2 : List Sh} {e k c iter tg : Expr} {body : List Stmt} {m1 : Ev → SOut} {me mk mc : Ev → Out D} {mi : Ev → Out (List D)} {pos pt px p1 p2 p3 pk : Pos} {i kk : Nat} {x : Str} {fr q bw ba : Bool} {t : Tg} {j : Int}

/-! ### the law's deck -/
theorem dk_at {K : PySem.W.Frag} {N : Addr → Prop} {H : Hp} {a b : Addr} {x : V} {xs ys : List V} {d0 d r : D} {ds es : List D} {v : Option V} {Os : List Addr} (k : Dk K N H d v Os a b x xs ys d0 ds es) (hz : ∀ c ∈ Os, c ≠ sysModules) (e : opIdx d (.int j) = some r) :
    ∃ w, atI (x :: V.ref b :: xs) j = some w ∧ RepT K N H w r ∧ (0 ≤ j → j ≠ 1 → Rep K N H w r) := by
  have hbz : b ≠ sysModules := hz b (by rw [k.o]; simp)
  obtain ⟨_, _, _, _, hb, rfl, r0, rs, re⟩ := k
  have e' : ((atIx (d0 :: PyData.list es :: ds).length j).bind fun n => (d0 :: PyData.list es :: ds)[n]?) = some r := e
  obtain ⟨n, h1, h2⟩ := Option.bind_eq_some_iff.mp e'
  have hl : (x :: V.ref b :: xs).length = (d0 :: PyData.list es :: ds).length := by simp only [List.length_cons, rs.length]
  have hw : ∀ w, (x :: V.ref b :: xs)[n]? = some w → atI (x :: V.ref b :: xs) j = some w := fun w hw => by
    unfold atI
    rw [hl, ← atIx_eq, h1]
    exact hw
  match n, h2, h1 with
  | 0, h2, _ =>
    cases h2
    exact ⟨x, hw x rfl, .rep r0, fun _ _ => r0⟩
  | 1, h2, h1 =>
    cases h2
    refine ⟨.ref b, hw _ rfl, .lst (.inl hb) hbz re, fun z1 z2 => ?_⟩
    exfalso
    unfold atIx at h1
    rw [if_pos z1] at h1
    split at h1
    · have := Option.some.inj h1; omega
    · cases h1
  | n + 2, h2, _ =>
    obtain ⟨w, h3, h4⟩ := rs.get (show ds[n]? = some r from h2)
    exact ⟨w, hw w h3, .rep h4, fun _ _ => h4⟩
theorem ve_dk (hN : X.N[i]? = some x) (hv : Vis X.env.scope x) (hd : (x == ("__debug__" : Str)) = false) (hcd : (x == ("__classdict__" : Str)) = false) (hΓ : Γ[i]? = some .dk) (hb : ba = true ∨ (0 ≤ j ∧ j ≠ 1)) :
    VE X XD W Γ (.Subscript (.Name x px) (.Constant (.int j) kk pk) pos) ba false true (fun ρ => (Out.lift (getV ρ i) ρ).bind fun x ρ => (Out.ok (PyData.int j) ρ).bind fun y ρ => Out.lift (opIdx x y) ρ) := by
  refine ⟨fun Z fx O hx => PEimp (pe_ix ix_list (pe_var hN hv hd hcd) pe_int (plainIx_is rfl)) fun σ H Q h => ?_⟩
  obtain ⟨ρ, S, h⟩ := h
  rw [Out.Post.bind] at h
  obtain ⟨d, e1, h1⟩ := lift_Post h
  obtain ⟨r, e2, h2⟩ := lift_Post h1
  obtain ⟨a, b, y, xs, ys, d0, ds, es, k, hs⟩ := dk_slot S hΓ e1
  obtain ⟨w, h3, h4, h5⟩ := dk_at k (fun c hc z => S.zo _ i S.sm (z ▸ hc)) e2
  refine ⟨.ref a, hs, a, _, j, w, rfl, rfl, .inl (.inl k.ha), h3, h2 w H S Keep.refl (fun _ => Keep.refl) ?_ (fun z => nomatch z)⟩
  cases ba with
  | true => exact h4
  | false => exact h5 (hb.resolve_left fun z => nomatch z).1 (hb.resolve_left fun z => nomatch z).2
theorem atIx_pos {n k : Nat} {j : Int} (h : atIx n j = some k) (h0 : 0 ≤ j) : k = j.toNat := by
  unfold atIx at h
  rw [if_pos h0] at h
  split at h
  · exact (Option.some.inj h).symm
  · cases h
/-- deck[j] = e, j 2 at least -/
theorem vs_dks (hN : X.N[i]? = some x) (hv : Vis X.env.scope x) (hd : (x == ("__debug__" : Str)) = false) (hcd : (x == ("__classdict__" : Str)) = false) (hΓ : Γ[i]? = some .dk) (hj : 2 ≤ j) (hsw : plainSw e = true) (he : VE X XD W Γ e false fr q me) (hG : G Γ) :
    VS X XD W G rs Γ (.Assign [.Subscript (.Name x px) (.Constant (.int j) kk pk) pt] e pos) Γ (fun ρ => (me ρ).toS fun d ρ => if hasL ρ i = true then (Out.ok (PyData.int j) ρ).toS fun y ρ => setD i y d ρ else .stk) := ⟨fun Z fx B P hx =>
  PSimp (ps_asg (he.any Z fx hx) (pg_sub (pe_var hN hv hd hcd) pe_int set_list) (sw_sole hsw)) fun E σ H h => by
    obtain ⟨ρ, O, S, h⟩ := h
    rw [toS_Post] at h
    refine ⟨O, ρ, S.sr, h.mono (fun d ρ1 h1 v H1 S1 k1 q1 r1 _ => ?_) fun x ρ1 z cls d H1 S1 k1 => z cls d σ H1 O Γ hG (S.ex S1 k1)⟩
    by_cases hl : hasL ρ1 i = true
    · rw [if_pos hl, toS_Post] at h1
      have h1 : (setD i (.int j) d ρ1).Post _ _ _ := h1
      unfold setD at h1
      split at h1
      · rename_i x0 e1
        split at h1
        · rename_i z ez
          obtain ⟨a, b, y, xs, ys, d0, ds, es, k, hs⟩ := dk_slot S1 hΓ e1
          obtain ⟨f1, f2, f3, f4, f5, rfl, f7, f8, f9⟩ := k
          obtain ⟨kk', n, e2, hn, rfl⟩ := putIdx_some ez
          cases e2
          have hn2 : 2 ≤ n := by rw [atIx_pos hn (by omega)]; omega
          obtain ⟨n', rfl⟩ : ∃ n', n = n' + 2 := ⟨n - 2, by omega⟩
          refine ⟨.ref a, hs, a, _, j, n' + 2, rfl, rfl, f4, by rw [← atIx_eq]; rw [← hn]; congr 1; simp only [List.length_cons, f8.length], ?_⟩
          have ha : a ∈ O i := by rw [f2]; simp
          have kw : Keep (fun c => c = a) H1 (upd H1 a (.lst (y :: V.ref b :: xs.set n' v))) := Keep.at rfl
          have kN : ∀ c, c = a → NN Z O c := fun c z => .inr ⟨i, z ▸ ha⟩
          have S3 := S1.chg (o := .lst (y :: V.ref b :: xs.set n' v)) (d := .list (d0 :: .list es :: ds.set n' d)) hΓ ha ⟨a, b, y, _, ys, d0, _, es, f1, f2, f3, upd_same, by rw [upd_ne fun z => f3 z.symm]; exact f5, rfl, f7.keep kw kN, (f8.set r1 n').keep kw kN, f9.keep kw kN⟩
          refine h1 σ _ O ((S.ex S1 k1).ex S3 fun c u ec n => ?_)
          show upd H1 a (.lst (y :: V.ref b :: xs.set n' v)) c = some u
          rw [upd_ne fun z => n ⟨i, by rw [z]; exact ha⟩]
          exact ec
        · exact h1.elim
      · exact h1.elim
    · rw [if_neg hl] at h1
      exact h1.elim⟩
/-- deck[1][k] = e -/
theorem vs_dk1 {fk qk : Bool} (hN : X.N[i]? = some x) (hv : Vis X.env.scope x) (hd : (x == ("__debug__" : Str)) = false) (hcd : (x == ("__classdict__" : Str)) = false) (hΓ : Γ[i]? = some .dk) (hsw : plainSw e = true)
    (hpi : ∀ v, assign (.Subscript (.Subscript (.Name x px) (.Constant (.int 1) kk pk) p1) k pt) X.env v = (do
      let ov ← holding [v] (eval (.Subscript (.Name x px) (.Constant (.int 1) kk pk) p1) X.env)
      let iv ← holding [v, ov] (eval k X.env)
      standAt pt
      holding [v, ov, iv] (setItem ov iv v)
      release [v, ov, iv] []))
    (he : VE X XD W Γ e false fr q me) (hk : VE X XD W Γ k false fk qk mk) (hG : G Γ) :
    VS X XD W G rs Γ (.Assign [.Subscript (.Subscript (.Name x px) (.Constant (.int 1) kk pk) p1) k pt] e pos) Γ (fun ρ => (me ρ).toS fun d ρ => if hasL ρ i = true then (mk ρ).toS fun y ρ => dkD i y d ρ else .stk) := ⟨fun Z fx B P hx =>
  PSimp (ps_asg (he.any Z fx hx) (pg_sub (pe_ix ix_list (pe_var hN hv hd hcd) pe_int (plainIx_is rfl)) (hk.any Z fx hx) set_list hpi) (sw_sole hsw)) fun E σ H h => by
    obtain ⟨ρ, O, S, h⟩ := h
    rw [toS_Post] at h
    refine ⟨O, ρ, S.sr, h.mono (fun d ρ1 h1 v H1 S1 k1 q1 r1 _ => ?_) fun x ρ1 z cls d H1 S1 k1 => z cls d σ H1 O Γ hG (S.ex S1 k1)⟩
    by_cases hl : hasL ρ1 i = true
    · rw [if_pos hl, toS_Post] at h1
      obtain ⟨ds0, e0⟩ := hasL_some hl
      obtain ⟨a, b, y, xs, ys, d0, ds, es, kd, hs⟩ := dk_slot S1 hΓ e0
      obtain ⟨w0, h2, _, _⟩ := dk_at (j := 1) kd (fun c hc z => S1.zo _ i S1.sm (z ▸ hc)) (show opIdx (.list ds0) (.int 1) = some (.list es) by
        rw [kd.d]
        show ((atIx (ds.length + 1 + 1) 1).bind fun n => (d0 :: PyData.list es :: ds)[n]?) = _
        unfold atIx
        rw [if_pos (by decide), if_pos (by omega)]
        rfl)
      have hw0 : w0 = .ref b := by
        unfold atI at h2
        have : ixN (y :: V.ref b :: xs).length 1 = some 1 := by
          show (if (0 : Int) ≤ 1 then (if (1 : Int) < ((y :: V.ref b :: xs).length : Nat) then some (1 : Int).toNat else none) else _) = _
          rw [if_pos (by decide), if_pos (by simp only [List.length_cons]; omega)]
          rfl
        rw [this] at h2
        exact (Option.some.inj h2).symm
      subst hw0
      refine ⟨.ref a, hs, a, _, 1, .ref b, rfl, rfl, .inl (.inl kd.ha), h2, O, ρ1, S1, h1.mono (fun yk ρ2 h4 w H2 S2 k2 q2 r2 _ => ?_) fun x ρ2 z cls d H2 S2 k2 => z cls d σ H2 O Γ hG ((S.ex S1 k1).ex S2 k2)⟩
      unfold dkD at h4
      split at h4
      · rename_i x0 x1 rr e1
        split at h4
        · rename_i z ez
          obtain ⟨a', b', y', xs', ys', d0', ds', es', kd', hs'⟩ := dk_slot S2 hΓ e1
          obtain ⟨f1, f2, f3, f4, f5, f6, f7, f8, f9⟩ := kd'
          cases f6
          have eab : a' = a ∧ b' = b := by
            have h1 := kd.o
            rw [f2] at h1
            cases h1
            exact ⟨rfl, rfl⟩
          obtain ⟨rfl, rfl⟩ := eab
          obtain ⟨kk', n, e2, hn, rfl⟩ := putIdx_some ez
          subst e2
          refine ⟨b', ys', kk', n, rfl, (RepT.rep (r2 : Rep _ _ _ _ _)).int_inv, f5, by rw [f9.length]; exact hn, ?_⟩
          have hb : b' ∈ O i := by rw [f2]; simp
          have kw : Keep (fun c => c = b') H2 (upd H2 b' (.lst (ys'.set n v))) := Keep.at rfl
          have kN : ∀ c, c = b' → NN Z O c := fun c z => .inr ⟨i, z ▸ hb⟩
          have S3 := S2.chg (o := .lst (ys'.set n v)) (d := .list (x0 :: .list (es'.set n d) :: rr)) hΓ hb ⟨a', b', y', xs', _, x0, rr, _, f1, f2, f3, by rw [upd_ne f3]; exact f4, upd_same, rfl, f7.keep kw kN, f8.keep kw kN, (f9.set (Rep.keep k2 oo_nn r1) n).keep kw kN⟩
          refine h4 σ _ O (((S.ex S1 k1).ex S2 k2).ex S3 fun c u ec n' => ?_)
          rw [upd_ne fun z => n' ⟨i, by rw [z]; exact hb⟩]
          exact ec
        · exact h4.elim
      · exact h4.elim
    · rw [if_neg hl] at h1
      exact h1.elim⟩
end
end BV
set_option Elab.async false
set_option linter.all false
set_option maxRecDepth 100000
set_option maxHeartbeats 4000000
/-! BV17: loops. -/
namespace BV
open PySem PySem.Spec L2
open PyProof.Rows hiding St
section
variable {X : Cx} {XD : XP} {W : WX} {G : List Sh → Prop} {rs : Bool} {Γ Γ1 Γ2 : List Sh} {e k c iter tg : Expr} {body : List Stmt} {mb : Ev → SOut} {me mk mc : Ev → Out D} {mi : Ev → Out (List D)} {pos : Pos} {i : Nat} {x : Str} {fr q bw ba : Bool} {t : Tg}
theorem whl_zero {c : Ev → Out D} {f : Ev → SOut} {ρ : Ev} : whlLoop c f 0 ρ = .stk := rfl
theorem vs_while (hp : PassesOwn (model X.prog X.w) X.A X.env X.xe) (hc : VT X XD W Γ c q mc) (hb : VSs X XD W G rs Γ body Γ mb) (hG : G Γ) : VS X XD W G rs Γ (.While c body [] pos) Γ (fun ρ => whlLoop mc mb whileFuel ρ) := ⟨fun Z fx B P hx =>
  PSimp (ps_while hp (hc.any Z fx hx) (hb.pss Z fx B P hx)) fun E σ H h => by
    obtain ⟨ρ, O, S, h⟩ := h
    refine ⟨fun m σ H => ∃ ρ O, SS X.K Z Γ fx B P ρ σ H O ∧ (whlLoop mc mb m ρ).Post (fun ρ' => ∀ σ' H' O', SS X.K Z Γ fx B P ρ' σ' H' O' → E.nx σ' H') (fun d ρ' => ∀ v H', RetOk X.K Z fx B P rs v d ρ' H' → E.rt v H')
      (fun x ρ' => ∀ cls d σ' H' O' Γ2, G Γ2 → SS X.K Z Γ2 fx B P ρ' σ' H' O' → XD.xd cls d H' x → W cls d σ' H'), ⟨whileFuel, ρ, O, S, h⟩, ?_⟩
    rintro m σ1 H1 ⟨ρ1, O1, S1, h1⟩
    cases m with
    | zero => exact h1.elim
    | succ n =>
      have h1 : ((mc ρ1).toS fun k ρ => if tru k = true then (mb ρ).thn fun ρ => whlLoop mc mb n ρ else .next ρ).Post _ _ _ := h1
      rw [toS_Post] at h1
      refine ⟨O1, ρ1, S1.sr, h1.mono (fun k ρ2 h2 H2 S2 k2 q2 => ?_) fun x ρ2 z cls d H2 S2 k2 => z cls d σ1 H2 O1 Γ hG (S1.ex S2 k2)⟩
      by_cases ck : tru k = true
      · rw [if_pos ck, SOut.Post.thn] at h2
        rw [if_pos ck]
        exact ⟨_, fun σ' H' z => ⟨n, Nat.lt_succ_self n, z⟩, ρ2, O1, S1.ex S2 k2, h2.mono (fun ρ3 z σ3 H3 O3 S3 => ⟨ρ3, O3, S3, z⟩) (fun _ _ z => z) fun _ _ z => z⟩
      · rw [if_neg ck] at h2
        rw [if_neg ck]
        exact h2 σ1 H2 O1 (S1.ex S2 k2)⟩
theorem vs_for (hp : PassesOwn (model X.prog X.w) X.A X.env X.xe) (hc : X.calm = true) (hi : VI X XD W Γ tg iter false q mi) (hg : VG X Γ tg t) (hb : VSs X XD W G rs Γ body Γ mb) (hΓ : ∀ i ∈ t.slots, Γ[i]? = some .fz) (hs : ∀ x, foldedSetIterable iter X.env x = pure x) (hG : G Γ) :
    VS X XD W G rs Γ (.For tg iter body [] pos) Γ (fun ρ => (mi ρ).toS fun xs ρ => forLoop (forT t mb) xs ρ) := ⟨fun Z fx B P hx => by
  by_cases hfx : ∀ p ∈ fx, Γ[p.1]? = some (fsh p.2.2)
  · refine PSimp (ps_for (wi := fun σ H R => ∃ O, tI X.K Z Γ fx O XD W false q mi σ H R) (g := fun v σ H Q => ∃ O, tG X.K Z Γ fx O t v σ H Q) (tb := fun E σ H => ∃ B P, tS X.K Z Γ Γ fx B P XD W G rs mb E σ H) hp hc ⟨fun pins s σ H R I ⟨O, z⟩ => (hi.pi Z fx O hx).run pins s σ H R I z⟩
      ⟨fun pins s σ H v u Q I r ⟨O, z⟩ => (hg.pg Z fx O fun i hi p hp z => by have h1 := hΓ i hi; rw [← z, hfx p hp] at h1; exact fsh_fz h1).run pins s σ H v u Q I r z⟩ ⟨fun pins s σ H E I ⟨B, P, z⟩ => (hb.pss Z fx B P hx).run pins s σ H E I z⟩ hs) fun E σ H h => ?_
    obtain ⟨ρ, O, S, h⟩ := h
    rw [toS_Post] at h
    refine ⟨O, ρ, S.sr, h.mono (fun ds ρ1 h1 J H1 S1 k1 q1 hlen hw => ?_) fun x ρ1 z cls d H1 S1 k1 => z cls d σ H1 O Γ hG (S.ex S1 k1)⟩
    have S' := S.ex S1 k1
    refine ⟨fun i m σ H => m = ds.length - i ∧ i ≤ ds.length ∧ ∃ ρi Oi, SS X.K Z Γ fx H1 O ρi σ H Oi ∧ (forLoop (forT t mb) (ds.drop i) ρi).Post (fun ρ' => ∀ σ' H' O', SS X.K Z Γ fx B P ρ' σ' H' O' → E.nx σ' H') (fun d ρ' => ∀ v H', RetOk X.K Z fx B P rs v d ρ' H' → E.rt v H')
      (fun x ρ' => ∀ cls d σ' H' O' Γ2, G Γ2 → SS X.K Z Γ2 fx B P ρ' σ' H' O' → XD.xd cls d H' x → W cls d σ' H'), ⟨ds.length, rfl, Nat.zero_le _, ρ1, O, ⟨S1, Keep.refl, fun a z => .inl z, fun _ z => z, S.fd, fun _ _ => rfl⟩, h1⟩, ?_⟩
    rintro i m σi Hi ⟨rfl, hile, ρi, Oi, Si, hi⟩
    obtain ⟨hgo, hyld, hstop⟩ := hw (fun a => NN Z Oi a ∨ OO O a) (fun a z => .inr z) (fun a ha z => by
      rcases z with (z | z) | z
      · exact .inl z
      · exact (Si.ob a z).elim .inr fun q => absurd q ha
      · exact .inr z) Hi Si.kb (fun a z => by
      rcases z with z | z
      · exact Si.sr.trk a z
      · exact Si.bt a (S1.trk a (.inr z)))
    by_cases hlt : i < ds.length
    · refine .inr ⟨hgo i hlt, _, fun σ' H' z => ⟨ds.length - (i + 1), by omega, rfl, hlt, z⟩, fun y H2 hy => ?_⟩
      obtain ⟨k2, r2⟩ := hyld i _ y H2 (List.getElem?_eq_getElem hlt) hy
      rw [List.drop_eq_getElem_cons hlt] at hi
      have hi : ((forT t mb ds[i] ρi).thn fun ρ => forLoop (forT t mb) (ds.drop (i + 1)) ρ).Post _ _ _ := hi
      rw [SOut.Post.thn] at hi
      unfold forT at hi
      rw [toS_Post] at hi
      obtain ⟨ρ2, eb, h2⟩ := lift_Post hi
      refine ⟨Oi, ρi, ds[i], ρ2, Si.sr.keep k2, r2.imp fun a z => .inl z, eb, fun σ2 S2 _ => ⟨H1, O, ρ2, Oi, Si.ex S2 k2.all, h2.mono (fun ρ3 z σ3 H3 O3 S3 => ⟨ρ3, O3, S3, z⟩) (fun d ρ3 z v H3 r3 => z v H3 (r3.trans S')) fun x ρ3 z cls d σ3 H3 O3 Γ3 g3 S3 x3 => z cls d σ3 H3 O3 Γ3 g3 (S'.trans S3) x3⟩⟩
    · have ei : i = ds.length := by omega
      subst ei
      rw [List.drop_length] at hi
      exact .inl ⟨hstop _ (Nat.le_refl _), (hi : ∀ σ' H' O', _) σi Hi Oi (S'.trans Si)⟩
  · exact ⟨fun pins s σ H E I ⟨ρ, O, S, _⟩ => absurd S.fd hfx⟩⟩
end
end BV
set_option Elab.async false
set_option linter.all false
set_option maxRecDepth 100000
set_option maxHeartbeats 4000000
/-! BV18: what a def promises; calls. -/
namespace BV
open PySem PySem.Spec L2
open PyProof.Rows hiding St

/-- room for k nested calls, no guards -/
structure RoomG (k : Nat) (A : Around) : Prop where
  room : Room k A
  free : A.guards = some []
theorem RoomG.below {k : Nat} {A : Around} (r : RoomG (k + 1) A) (env : PySem.Env) : RoomG k (A.deeper env) := ⟨r.room.deeper env, r.free⟩
theorem RoomG.mono {j k : Nat} {A : Around} (r : RoomG k A) (h : j ≤ k) : RoomG j A := ⟨r.room.mono h, r.free⟩
structure FnG (P : Program) (w : World) (K : PySem.W.Frag) (mg : Str → Option Value) (base : Heap) (CX : CXT) (k : Nat) (f : Addr) (fd : FuncData) (ps : List Str) (sp : Sp) : Prop where
  len : ∀ vs H Q E, sp vs H Q E → vs.length = ps.length
  go : ∀ (A : Around) (outer : List PySem.Env) (s : Shared) (H : Hp) (args : Args) (us : List Value) (vs : List V) (Q : VK) (E : XK), RoomG k A → Env0 P w K mg base A outer s H → BindsTo s fd args (ps.zip us) → Vals vs us → sp vs H Q E →
    codeAny (model P w) A (.call (.ref f) args) (CR CX outer P w H s Q E) s
section
variable {P : Program} {w : World} {K : PySem.W.Frag} {mg : Str → Option Value} {base : Heap} {CX : CXT} {k : Nat} {f : Addr} {name qual : Str} {params : Arguments} {body : List Stmt} {scope : Scope} {dV kV doc pm cdv ct oc : Value} {an od : Option Addr} {osl : Array (Option Value)} {N ps : List Str} {sp : Sp}
/-- a body's end is a call's end -/
theorem end_of {A : Around} {outer : List PySem.Env} {s s' : Shared} {H : Hp} {E : XK} {Q : VK} {fl : Flow} (h : SP (cxOf CX P w K mg base N qual scope f cdv A outer s H E) [] { nx := fun _ H' => Q .non H', rt := Q } fl s') : ∃ u, (fl = .ret u ∨ (fl = .next ∧ u = .none)) ∧ CE outer P w H s Q u s' := by
  cases fl with
  | ret u => obtain ⟨v, σ', H', J, rv, q⟩ := h; exact ⟨u, .inl rfl, v, H', J.os, J.bare, J.base, J.hok, rv, q⟩
  | next => obtain ⟨σ', H', J, q⟩ := h; exact ⟨.none, .inr ⟨rfl, rfl⟩, .non, H', J.os, J.bare, J.base, J.hok, rfl, q⟩
  | brk => obtain ⟨_, _, _, q⟩ := h; exact q.elim
  | cont => obtain ⟨_, _, _, q⟩ := h; exact q.elim
/-- a def's promise from its body's reading -/
theorem fnG_of (lk : K.lookup f = some ⟨oc, od, .func (PySem.W.fnOf name qual params body scope dV kV doc pm an cdv ct), osl⟩) (hcd : PySem.W.codeIn K cdv qual = true) (S : FnScope N ps scope) (len : ∀ vs H Q E, sp vs H Q E → vs.length = ps.length)
    (read : ∀ (A : Around) (outer : List PySem.Env) (s : Shared) (H : Hp) (vs : List V) (Q : VK) (E : XK), RoomG k (A.deeper (envOfC qual scope s.heap.objs.size f cdv)) → sp vs H Q E → ∃ t, PSs (cxOf CX P w K mg base N qual scope f cdv A outer s H E) body t ∧ t { nx := fun _ H' => Q .non H', rt := Q } (start N vs) H) :
    FnG P w K mg base CX (k + 1) f (PySem.W.fnOf name qual params body scope dV kV doc pm an cdv ct) ps sp where
  len := len
  go := fun A outer s H args us vs Q E room e0 binds vals wish => by
    have nvs := len _ _ _ _ wish
    have kin : K.In s.heap := e0.mod.kin.keeps fun b o z => (e0.bs b o z).1
    have nolim : s.heap.NoLimit := e0.mod.nolimit.keeps fun b o z => (e0.bs b o z).1
    have kinds : ∀ y ∈ ps.zip us, scope.names.lookup y.1 = some .local ∨ (scope.names.lookup y.1 = some .cell ∧ ((cellsFrom (s.heap.objs.size + 1) scope.names []).lookup y.1).isSome = true) := by
      rintro ⟨n, v⟩ hy
      refine (S.par n (List.of_mem_zip hy).1).imp id fun q => ⟨q, ?_⟩
      exact PySem.W.cellsFrom_some _ _ _ (.inl q)
    refine codeAny_call_function room.room.depth (kin _ _ lk) rfl S.co S.gen rfl (PySem.W.codeRec_of kin hcd) (binds _ _ _ _ (wpAny_newFunctionEnv_cells S.kind kinds fun env he s1 x => ?_))
    subst he
    obtain ⟨t, ht, hq⟩ := read A outer s H vs Q E (room.below _) wish
    refine ⟨nolim.keeps x.toInCall.keep, codeAny_func (wpAny_mono (ht.run [] s1 (start N vs) H _ (inv_start S room.room.hd e0 nvs vals x) hq) (fun fl s' hs => ?_) fun e s' hs => hs)⟩
    obtain ⟨u, hu, ce⟩ := end_of hs
    rcases hu with rfl | ⟨rfl, rfl⟩
    · exact ce
    · exact ce
end

/-! ### a call in a body -/
section
variable {X : Cx} {CX : CXT} {k : Nat} {f : Addr} {fd : FuncData} {ps : List Str} {sp : Sp} {E : L2.St → XK} {x : Str} {p pos : Pos} {e : Expr} {es : List Expr} {t : TA}
theorem run_fnG {pins : List (Addr × Obj)} {σ : L2.St} {H : Hp} {s : Shared} {Q : VK} {us : List Value} {vs : List V} (F : FnG X.prog X.w X.K X.mg X.base CX k f fd ps sp) (hr : RoomG k X.A) (hb : Binds X.K fd ps []) (hx : PassesAt CX X σ (E σ)) (I : L2.Inv X pins σ H s)
    (r : Vals vs us) (h : sp vs H Q (E σ)) : wpAny (model X.prog X.w) X.A (call (.ref f) us) (EP X pins σ Q) X.xe s := by
  have hl : (us ++ []).length = ps.length := by rw [List.append_nil, ← r.length]; exact F.len _ _ _ _ h
  have hbs := hb s us I.kIn hl
  rw [List.append_nil] at hbs
  refine wpAny_call (codeAny_mono (F.go X.A X.stack s H ⟨us, []⟩ us vs Q (E σ) hr I.env0 hbs r h) fun out s' hq => ?_)
  match out, hq with
  | .error e, hq => exact hx pins H s e s' I hq
  | .ok (.ret u), hq => exact I.after hq
/-- f(..): what is wanted of an exception is told by the slots -/
theorem pe_callG (F : FnG X.prog X.w X.K X.mg X.base CX k f fd ps sp) (hr : RoomG k X.A) (hg : Gl X x) (hm : X.mg x = some (.ref f)) (hk : PySem.W.keepIn X.K (.ref f) = true) (hb : Binds X.K fd ps []) (hx : ∀ σ, PassesAt CX X σ (E σ)) (ha : PA X (e :: es) t)
    (hdb : (x == ("__debug__" : Str)) = false) (he : starEach (e :: es) X.env = (false, eval e X.env) :: starEach es X.env) (hpl : (backTo pos (starEach es X.env)).any (·.1) = false) :
    PE X (.Call (.Name x p) (e :: es) [] pos) (tCallS sp E t) :=
  ⟨fun pins s σ H Q I h => wpAny_Call_Name_kw (ld_glob I hg hm (PySem.W.callWith_K (h₀ := X.base) I.ok.mod.kin hk (thn (ha.run pos pins s σ H _ I h) fun us s1 ⟨vs, H1, I1, r, q⟩ => ⟨I1.kIn, run_fnG F hr hb (hx σ) I1 r q⟩) he hpl) hdb)⟩
theorem pe_callG0 (F : FnG X.prog X.w X.K X.mg X.base CX k f fd ps sp) (hr : RoomG k X.A) (hg : Gl X x) (hm : X.mg x = some (.ref f)) (hk : PySem.W.keepIn X.K (.ref f) = true) (hb : Binds X.K fd ps []) (hx : ∀ σ, PassesAt CX X σ (E σ)) (hdb : (x == ("__debug__" : Str)) = false) :
    PE X (.Call (.Name x p) [] [] pos) (tCallS sp E tNil) :=
  ⟨fun pins s σ H Q I h => wpAny_Call_Name_kw (ld_glob I hg hm (PySem.W.callWith_K0 I.kIn hk (run_fnG (us := []) F hr hb (hx σ) I .nil h)) hdb)⟩
end

/-! ### the promise -/
/-- the shapes at a def's entry -/
def shp (fn : Fn) : List Sh := if fn.io = true then .dk :: List.replicate (fn.ns - 1) .fz else List.replicate fn.ns .fz
def fxs (fn : Fn) (vs : List V) : List FX := if fn.io = true then (vs[0]?.toList.map fun v => (0, v, false)) else []
def rho (fn : Fn) (ds : List D) : Ev := ds.map some ++ List.replicate (fn.ns - fn.np) none
def sig (fn : Fn) (vs : List V) : L2.St := vs.map some ++ List.replicate (fn.ns - vs.length) none
/-- what is left behind a call: the deck's slot -/
def DkOut (K : PySem.W.Frag) (N : Addr → Prop) (fn : Fn) (vs : List V) (O : Nat → List Addr) (H : Hp) (out : D) : Prop := fn.io = true → Slot K N H .dk (some out) vs[0]? (O 0)
/-- a new list, nothing else knows it -/
def NewOut (K : PySem.W.Frag) (Z : Addr → Prop) (fn : Fn) (vs : List V) (O : Nat → List Addr) (H H' : Hp) (v : V) (d out : D) : Prop := fn.fr = true → ∃ a xs ds, v = .ref a ∧ d = .list ds ∧ H a = none ∧ H' a = some (.lst xs) ∧ RepA K (NN (addZ Z a) O) H' xs ds ∧ DkOut K (NN (addZ Z a) O) fn vs O H' out
def FSp (K : PySem.W.Frag) (XD : XP) (fn : Fn) (r : List D → FRes) : Sp := fun vs H Q E => ∃ Z O ds, vs.length = fn.np ∧ ds.length = fn.np ∧ SR K Z (shp fn) (fxs fn vs) (rho fn ds) (sig fn vs) H O ∧ match r ds with
  | .ret d out => ∀ v H', Keep (OO O) H H' → (∀ a, H a ≠ none → H' a ≠ none) → Rep K (NN Z O) H' v d → DkOut K (NN Z O) fn vs O H' out → NewOut K Z fn vs O H H' v d out → Q v H'
  | .exc x out => ∀ cls dd H', Keep (OO O) H H' → (∀ a, H a ≠ none → H' a ≠ none) → DkOut K (NN Z O) fn vs O H' out → XD.xd cls dd H' x → E cls dd H'
  | .stk => False
end BV
set_option Elab.async false
set_option linter.all false
set_option maxRecDepth 100000
set_option maxHeartbeats 4000000
/-! BV19: calls. -/
namespace BV
open PySem PySem.Spec L2
open PyProof.Rows hiding St
section
variable {K : PySem.W.Frag} {N Z : Addr → Prop} {H H' : Hp} {vs : List V} {ds : List D} {fn : Fn}
theorem getV_app {ds : List D} {n i : Nat} : getV (ds.map some ++ List.replicate n none) i = ds[i]? := by
  unfold getV
  by_cases h : i < ds.length
  · rw [List.getElem?_append_left (by rw [List.length_map]; exact h), List.getElem?_map]
    cases ds[i]? <;> rfl
  · rw [List.getElem?_append_right (by rw [List.length_map]; omega), List.getElem?_replicate, List.getElem?_eq_none (by omega)]
    split <;> rfl
theorem getS_app {vs : List V} {n i : Nat} : getS (vs.map some ++ List.replicate n none) i = vs[i]? := by
  unfold getS
  by_cases h : i < vs.length
  · rw [List.getElem?_append_left (by rw [List.length_map]; exact h), List.getElem?_map]
    cases vs[i]? <;> rfl
  · rw [List.getElem?_append_right (by rw [List.length_map]; omega), List.getElem?_replicate, List.getElem?_eq_none (by omega)]
    split <;> rfl
/-- the state at the entry of a def without a deck -/
theorem sr_entry (r : RepA K N H vs ds) (t : ∀ a, N a → H a ≠ none) (sm : N sysModules) (hl : ds.length = fn.np) (hn : fn.np ≤ fn.ns) (hio : fn.io = false) : SR K N (shp fn) (fxs fn vs) (rho fn ds) (sig fn vs) H (fun _ => []) := by
  have e1 : shp fn = List.replicate fn.ns .fz := by unfold shp; rw [hio]; rfl
  have e2 : fxs fn vs = [] := by unfold fxs; rw [hio]; rfl
  have hv := r.length
  rw [e1, e2]
  exact {
    lenR := by unfold rho; simp only [List.length_append, List.length_map, List.length_replicate]; omega
    lenS := by unfold sig; simp only [List.length_append, List.length_map, List.length_replicate]; omega
    slot := fun i sh h => by
      have hs : sh = .fz := (List.mem_replicate.mp (List.mem_of_getElem? h)).2
      subst hs
      unfold rho sig
      rw [getV_app, getS_app]
      cases e : ds[i]? with
      | none => exact rfl
      | some d =>
        obtain ⟨v, h1, h2⟩ := r.get e
        exact ⟨rfl, v, h1, h2.imp fun a z => z.elim id fun ⟨_, m⟩ => by cases m⟩
    out := fun _ _ => rfl
    dis := fun _ _ _ m => by cases m
    trk := fun a z => z.elim (t a) fun ⟨_, m⟩ => by cases m
    zo := fun _ _ _ m => by cases m
    sm := sm
    fix := fun p hp => by cases hp }
/-- .. with one -/
theorem sr_entryD {O : Nat → List Addr} {Γ : List Sh} {fx : List FX} {ρ : Ev} {σ : L2.St} {i : Nat} {v : V} {d : D} (s : SR K Z Γ fx ρ σ H O) (hΓ : Γ[i]? = some .dk) (hd : getV ρ i = some d) (hv : getS σ i = some v) (r : RepA K (NN Z O) H vs ds) (hl : ds.length + 1 = fn.np) (hn : fn.np ≤ fn.ns) (hio : fn.io = true) :
    SR K (fun a => NN Z O a ∧ a ∉ O i) (shp fn) (fxs fn (v :: vs)) (rho fn (d :: ds)) (sig fn (v :: vs)) H (putO (fun _ => []) 0 (O i)) := by
  have e1 : shp fn = .dk :: List.replicate (fn.ns - 1) .fz := by unfold shp; rw [hio]; rfl
  have e2 : fxs fn (v :: vs) = [(0, v, false)] := by unfold fxs; rw [hio]; rfl
  have hvl := r.length
  have inN : ∀ a, NN (fun a => NN Z O a ∧ a ∉ O i) (putO (fun _ => []) 0 (O i)) a → NN Z O a := fun a z => by
    rcases z with z | ⟨j, m⟩
    · exact z.1
    · unfold putO at m
      split at m
      · exact .inr ⟨i, m⟩
      · cases m
  rw [e1, e2]
  exact {
    lenR := by unfold rho; simp only [List.length_append, List.length_map, List.length_replicate, List.length_cons]; omega
    lenS := by unfold sig; simp only [List.length_append, List.length_map, List.length_replicate, List.length_cons]; omega
    slot := fun j sh h => by
      unfold rho sig
      rw [getV_app, getS_app]
      cases j with
      | zero =>
        cases h
        have := s.slot i _ hΓ
        rw [hd, hv] at this
        exact this.imp fun a _ => inN a
      | succ j =>
        have hs : sh = .fz := (List.mem_replicate.mp (List.mem_of_getElem? (show (List.replicate (fn.ns - 1) Sh.fz)[j]? = some sh from h))).2
        subst hs
        show Slot K _ H .fz ds[j]? vs[j]? []
        cases e : ds[j]? with
        | none => exact rfl
        | some d =>
          obtain ⟨v, h1, h2⟩ := r.get e
          exact ⟨rfl, v, h1, h2.imp inN⟩
    out := fun j hj => by
      simp only [List.length_cons, List.length_replicate] at hj
      exact putO_ne (by omega)
    dis := fun j k a h1 h2 => by
      unfold putO at h1 h2
      split at h1
      · split at h2
        · omega
        · cases h2
      · cases h1
    trk := fun a z => s.trk a (inN a z)
    sm := ⟨.inl s.sm, fun m => s.zo _ i s.sm m⟩
    zo := fun a j z m => by
      unfold putO at m
      split at m
      · exact z.2 m
      · cases m
    fix := fun p hp => by
      cases hp with
      | head => unfold sig; rw [getS_app]; rfl
      | tail _ h => cases h }
end
section
variable {X : Cx} {XD : XP} {W : WX} {Γ : List Sh} {k : Nat} {f : Addr} {fd : FuncData} {ps : List Str} {fn : Fn} {r : List D → FRes} {x y : Str} {p pos py : Pos} {e : Expr} {es : List Expr} {m : Ev → Out (List D)} {qa ba : Bool} {i : Nat}
/-- what a call's rule asks of the callee's name -/
structure Callee (X : Cx) (XD : XP) (x : Str) (k : Nat) (fn : Fn) (r : List D → FRes) : Prop where
  ex : ∃ (f : Addr) (fd : FuncData) (ps : List Str), FnG X.prog X.w X.K X.mg X.base (L2N.CX X.prog X.w) k f fd ps (FSp X.K XD fn r) ∧ X.mg x = some (.ref f) ∧ PySem.W.keepIn X.K (.ref f) = true ∧ Binds X.K fd ps []
  len : ∀ ds, r ds ≠ .stk → ds.length = fn.np
  ns : fn.np ≤ fn.ns
  dbg : (x == ("__debug__" : Str)) = false
theorem ve_call_core {es : List Expr} (hio : fn.io = false) (mk : ∀ t, PA X es t → PE X (.Call (.Name x p) es [] pos) (tCallS (FSp X.K XD fn r) (WE W) t)) (c : Callee X XD x k fn r) (ha : VA X XD W Γ es false qa m) :
    VE X XD W Γ (.Call (.Name x p) es [] pos) ba fn.fr qa (fun ρ => (m ρ).bind fun ds ρ => backC ρ (r ds)) := by
  refine ⟨fun Z fx O hx => PEimp (mk _ (ha.pa Z fx O hx)) fun σ H Q h => ?_⟩
  obtain ⟨ρ, S, h⟩ := h
  dsimp only at h
  rw [Out.Post.bind] at h
  refine ⟨ρ, S, h.mono (fun ds ρ1 h1 vs H1 S1 k1 q1 r1 => ?_) fun _ _ z => z⟩
  have r1 : RepA X.K (NN Z O) H1 vs ds := r1
  have hl : ds.length = fn.np := c.len ds fun z => by rw [z] at h1; exact h1.elim
  refine ⟨NN Z O, fun _ => [], ds, r1.length.trans hl, hl, sr_entry r1 S1.trk (.inl S1.sm) hl c.ns hio, ?_⟩
  have k0 : ∀ {H' : Hp}, Keep (OO fun _ => []) H1 H' → Keep none_ H1 H' := fun z => z.mono fun a ⟨_, m⟩ => by cases m
  have n0 : ∀ {P : Addr → Prop} {a : Addr}, P a → NN P (fun _ => []) a := fun z => .inl z
  cases er : r ds with
  | stk => rw [er] at h1; exact h1
  | exc x out =>
    rw [er] at h1
    intro cls dd H' kk bt dk xd
    exact (h1 : ∀ cls d H', _) cls dd H' (S1.keep (k0 kk)) (k1.trans (k0 kk).all) xd
  | ret d out =>
    rw [er] at h1
    intro v H' kk bt rv dk nw
    refine (h1 : ∀ v H', _) v H' (S1.keep (k0 kk)) (k1.trans (k0 kk).all) (fun z => (q1 z).trans (k0 kk)) ?_ fun z => ?_
    · have rv' : Rep X.K (NN Z O) H' v d := rv.imp fun a z => n0 z
      cases ba with
      | true => exact .rep rv'
      | false => exact rv'
    · obtain ⟨a, xs, ds', e1, e2, e3, e4, e5, _⟩ := nw z
      refine ⟨a, xs, ds', e1, e2, S1.back k1 e3, e4, e5.imp fun b z => ?_, S1.more e3 (k0 kk) (by rw [e4]; exact fun z => nomatch z)⟩
      rcases NN_addZ z with z | z
      · exact n0 (.inl z)
      · exact n0 (.inr z)
theorem ve_call (hr : RoomG k X.A) (hg : Gl X x) (tk : L2N.Takes X W) (hio : fn.io = false) (c : Callee X XD x k fn r) (hs : (e :: es).all noStar = true) (ha : VA X XD W Γ (e :: es) false qa m) :
    VE X XD W Γ (.Call (.Name x p) (e :: es) [] pos) ba fn.fr qa (fun ρ => (m ρ).bind fun ds ρ => backC ρ (r ds)) := by
  obtain ⟨f, fd, ps, F, hm, hk, hb⟩ := c.ex
  have hs' := Bool.and_eq_true_iff.mp (show (noStar e && es.all noStar) = true from hs)
  exact ve_call_core hio (fun t h => pe_callG F hr hg hm hk hb (fun σ => L2N.passAt tk σ) h c.dbg (star_cons hs'.1) (star_any hs'.2)) c ha
/-- f(deck, ..) -/
theorem ve_calld (hr : RoomG k X.A) (hg : Gl X x) (tk : L2N.Takes X W) (hio : fn.io = true) (c : Callee X XD x k fn r) (hN : X.N[i]? = some y) (hv : Vis X.env.scope y) (hd : (y == ("__debug__" : Str)) = false) (hcd : (y == ("__classdict__" : Str)) = false) (hΓ : Γ[i]? = some .dk)
    (hs : es.all noStar = true) (ha : VA X XD W Γ es false qa m) :
    VE X XD W Γ (.Call (.Name x p) (.Name y py :: es) [] pos) ba fn.fr false (fun ρ => if hasL ρ i = true then (m ρ).bind fun ds ρ => (Out.lift (getV ρ i) ρ).bind fun d ρ => backD i ρ (r (d :: ds)) else .stk) := by
  obtain ⟨f, fd, ps, F, hm, hk, hb⟩ := c.ex
  refine ⟨fun Z fx O hx => PEimp (pe_callG F hr hg hm hk hb (fun σ => L2N.passAt tk σ) (pa_cons (pe_var hN hv hd hcd) (ha.pa Z fx O hx) (star_cons rfl)) c.dbg (star_cons rfl) (star_any hs)) fun σ H Q h => ?_⟩
  obtain ⟨ρ, S, h⟩ := h
  dsimp only at h
  by_cases hl : hasL ρ i = true
  · rw [if_pos hl, Out.Post.bind] at h
    obtain ⟨ds0, e0⟩ := hasL_some hl
    obtain ⟨a, b, x0, xs, ys, d0, dd, es0, kd, hσ⟩ := dk_slot S hΓ e0
    refine ⟨.ref a, hσ, ρ, S, h.mono (fun ds ρ1 h1 vs H1 S1 k1 q1 r1 => ?_) fun _ _ z => z⟩
    rw [Out.Post.bind] at h1
    obtain ⟨d, e1, h2⟩ := lift_Post h1
    have r1 : RepA X.K (NN Z O) H1 vs ds := r1
    have hlen : ds.length + 1 = fn.np := c.len (d :: ds) fun z => by rw [z] at h2; exact h2.elim
    have hv : getS σ i = some (.ref a) := kd.v
    have inN : ∀ a, NN Z O a → NN (fun a => NN Z O a ∧ a ∉ O i) (putO (fun _ => []) 0 (O i)) a := fun a z => by
      by_cases m : a ∈ O i
      · exact .inr ⟨0, m⟩
      · exact .inl ⟨z, m⟩
    refine ⟨_, _, d :: ds, by simp only [List.length_cons, r1.length]; exact hlen, hlen, sr_entryD S1 hΓ e1 hv r1 hlen c.ns hio, ?_⟩
    have kO : ∀ {H' : Hp}, Keep (OO (putO (fun _ => []) 0 (O i))) H1 H' → Keep (fun a => a ∈ O i) H1 H' := fun z => z.mono fun a ⟨j, m⟩ => by
      unfold putO at m
      split at m
      · exact m
      · cases m
    have kN : ∀ a, a ∈ O i → NN Z O a := fun a m => .inr ⟨i, m⟩
    have SN : ∀ {H' : Hp} {out : D}, Keep (fun a => a ∈ O i) H1 H' → (∀ a, H1 a ≠ none → H' a ≠ none) → Slot X.K (NN Z O) H' .dk (some out) (some (.ref a)) (O i) → SR X.K Z Γ fx (ρ1.set i (some out)) σ H' O := fun {H' out} kk bt sl => {
      lenR := by rw [List.length_set]; exact S1.lenR
      lenS := S1.lenS
      slot := fun j sh g => by
        rw [getV_set]
        by_cases hj : i = j
        · subst hj
          rw [hΓ] at g
          cases g
          rw [if_pos rfl, if_pos (by rw [S1.lenR]; exact lt_of_get hΓ), hv]
          exact sl
        · rw [if_neg hj]
          exact (S1.slot j sh g).keepN kk kN fun c m z => hj (S1.dis i j c z m)
      out := S1.out
      dis := S1.dis
      trk := fun c z => bt c (S1.trk c z)
      zo := S1.zo
      sm := S1.sm
      fix := S1.fix }
    have kA : ∀ {H' : Hp}, Keep (fun a => a ∈ O i) H1 H' → Keep (OO O) H H' := fun z => k1.trans (z.mono fun a m => ⟨i, m⟩)
    cases er : r (d :: ds) with
    | stk => rw [er] at h2; exact h2
    | exc x out =>
      rw [er] at h2
      intro cls dd H' kk bt dk xd
      exact (h2 : ∀ cls d H', _) cls dd H' (SN (kO kk) bt ((dk hio).imp fun a _ => inN a)) (kA (kO kk)) xd
    | ret d' out =>
      rw [er] at h2
      intro v H' kk bt rv dk nw
      have sl : Slot X.K (NN Z O) H' .dk (some out) (some (.ref a)) (O i) := (dk hio).imp fun a _ => inN a
      have S2 := SN (kO kk) bt sl
      refine (h2 : ∀ v H', _) v H' S2 (kA (kO kk)) (fun z => nomatch z) ?_ fun z => ?_
      · have rv' : Rep X.K (NN Z O) H' v d' := rv.imp inN
        cases ba with
        | true => exact .rep rv'
        | false => exact rv'
      · obtain ⟨c, xs', ds', g1, g2, g3, g4, g5, g6⟩ := nw z
        have inC : ∀ b, NN (addZ Z c) O b → NN (addZ (fun a => NN Z O a ∧ a ∉ O i) c) (putO (fun _ => []) 0 (O i)) b := fun b z => by
          rcases NN_addZ z with z | z
          · exact (inN b z).elim (fun z => .inl (.inl z)) .inr
          · exact .inl (.inr z)
        refine ⟨c, xs', ds', g1, g2, S1.back k1 g3, g4, g5.imp inC, ?_⟩
        exact {
          lenR := S2.lenR
          lenS := S2.lenS
          slot := fun j sh g => by
            rw [getV_set]
            by_cases hj : i = j
            · subst hj
              rw [hΓ] at g
              cases g
              rw [if_pos rfl, if_pos (by rw [S1.lenR]; exact lt_of_get hΓ), hv]
              exact (g6 hio).imp fun b _ => inC b
            · rw [if_neg hj]
              refine ((S1.slot j sh g).imp (N' := NN (addZ Z c) O) fun b hb z => ?_).keepN (kO kk) (fun b m => .inr ⟨i, m⟩) fun b m z => hj (S1.dis i j b z m)
              rcases NN_addZ z with z | z
              · exact z
              · exact absurd (z ▸ g3) hb
          out := S2.out
          dis := S2.dis
          trk := fun b z => by
            rcases NN_addZ z with z | z
            · exact S2.trk b z
            · rw [z, g4]; exact fun z => nomatch z
          zo := fun b j z m => by
            rcases z with z | z
            · exact S2.zo b j z m
            · exact S1.trk c (.inr ⟨j, z ▸ m⟩) g3
          sm := .inl S2.sm
          fix := S2.fix }
  · rw [if_neg hl] at h
    exact h.elim
end
end BV
set_option Elab.async false
set_option linter.all false
set_option maxRecDepth 100000
set_option maxHeartbeats 4000000
/-! BV20: from a body to a def's promise. -/
namespace BV
open PySem PySem.Spec L2
open PyProof.Rows hiding St
section
variable {P : Program} {w : World} {K : PySem.W.Frag} {mg : Str → Option Value} {base : Heap} {XD : XP} {Pr : Nat → Option Fn} {k fi : Nat} {fn : Fn} {f : Addr} {name qual : Str} {params : Arguments} {body : List Stmt} {scope : Scope} {dV kV doc pm cdv ct oc : Value} {an od : Option Addr} {osl : Array (Option Value)} {N ps : List Str}
theorem run_len (hf : Pr fi = some fn) : ∀ ds, run Pr k fi ds ≠ .stk → ds.length = fn.np := fun ds h => by
  cases k with
  | zero => exact absurd rfl h
  | succ k =>
    have h : (match Pr fi with
      | some fn => if ds.length = fn.np ∧ fn.hot = false then fn.endS (evS (run Pr k) (runH Pr k) .none fn.body (ds.map some ++ List.replicate (fn.ns - fn.np) none)) else .stk
      | none => .stk) ≠ FRes.stk := h
    rw [hf] at h
    by_cases e : ds.length = fn.np ∧ fn.hot = false
    · exact e.1
    · simp only [if_neg e] at h
      exact absurd rfl h
theorem run_eq (hf : Pr fi = some fn) {ds : List D} (e : ds.length = fn.np) (hh : fn.hot = false) : run Pr (k + 1) fi ds = fn.endS (evS (run Pr k) (runH Pr k) .none fn.body (rho fn ds)) := by
  show (match Pr fi with
    | some fn => if ds.length = fn.np ∧ fn.hot = false then fn.endS (evS (run Pr k) (runH Pr k) .none fn.body (ds.map some ++ List.replicate (fn.ns - fn.np) none)) else .stk
    | none => .stk) = _
  rw [hf]
  simp only [if_pos (And.intro e hh)]
  rfl
theorem fxs_mem {vs : List V} {p : FX} (h : p ∈ fxs fn vs) : fn.io = true ∧ p.1 = 0 ∧ vs[0]? = some p.2.1 ∧ p.2.2 = false := by
  unfold fxs at h
  by_cases hio : fn.io = true
  · rw [if_pos hio] at h
    cases e : vs[0]? with
    | none => rw [e] at h; cases h
    | some v =>
      rw [e] at h
      have : p = (0, v, false) := by simpa using h
      rw [this]
      exact ⟨hio, rfl, rfl, rfl⟩
  · rw [if_neg hio] at h; cases h
theorem fxs_io {vs : List V} {v : V} (hio : fn.io = true) (h : vs[0]? = some v) : (0, v, false) ∈ fxs fn vs := by
  unfold fxs
  rw [if_pos hio, h]
  exact List.mem_singleton.mpr rfl
theorem shp_zero (hio : fn.io = true) : (shp fn)[0]? = some .dk := by
  unfold shp
  rw [if_pos hio]
  rfl
theorem outS_some {ρ : Ev} {g : D → FRes} {r : FRes} (e : Fn.endS.outS fn ρ g = r) (hn : r ≠ .stk) : ∃ o, r = g o ∧ (fn.io = true → getV ρ 0 = some o) := by
  unfold Fn.endS.outS at e
  by_cases hio : fn.io = true
  · rw [if_pos hio] at e
    cases q : getV ρ 0 with
    | none => rw [q] at e; exact absurd e.symm hn
    | some o => rw [q] at e; exact ⟨o, e.symm, fun _ => rfl⟩
  · rw [if_neg hio] at e
    exact ⟨.none, e.symm, fun z => absurd z hio⟩
/-- the deck's slot at a body's end -/
theorem dk_out {Z : Addr → Prop} {Γ : List Sh} {vs : List V} {H H' : Hp} {O O' : Nat → List Addr} {ρ : Ev} {σ : L2.St} {o : D} (hnp : fn.io = true → 0 < vs.length) (hO : ∀ j, j ≠ 0 → O j = []) (hO0 : fn.io = false → O 0 = []) (S : SS K Z Γ (fxs fn vs) H O ρ σ H' O') (ho : fn.io = true → getV ρ 0 = some o) : DkOut K (NN Z O) fn vs O H' o := fun hio => by
  obtain ⟨v, hv⟩ : ∃ v, vs[0]? = some v := ⟨_, List.getElem?_eq_getElem (hnp hio)⟩
  have hm := fxs_io hio hv
  have sl := S.sr.slot 0 _ (S.fd _ hm)
  rw [ho hio, S.sr.fix _ hm, S.oi _ hm] at sl
  rw [hv]
  refine sl.imp fun a _ z => ?_
  rcases z with z | ⟨j, m⟩
  · exact .inl z
  · by_cases hj : j = 0
    · subst hj
      exact .inr ⟨0, by rw [S.oi _ hm]; exact m⟩
    · rw [hO j hj] at m; cases m
theorem nn_in {Z : Addr → Prop} {Γ : List Sh} {vs : List V} {H H' : Hp} {O O' : Nat → List Addr} {ρ : Ev} {σ : L2.St} (hnp : fn.io = true → 0 < vs.length) (hO : ∀ j, j ≠ 0 → O j = []) (hO0 : fn.io = false → O 0 = []) (S : SS K Z Γ (fxs fn vs) H O ρ σ H' O') : ∀ a, NN Z O a → NN Z O' a := fun a z => by
  rcases z with z | ⟨j, m⟩
  · exact .inl z
  · by_cases hj : j = 0
    · subst hj
      cases hio : fn.io with
      | false => rw [hO0 hio] at m; cases m
      | true =>
        obtain ⟨v, hv⟩ : ∃ v, vs[0]? = some v := ⟨_, List.getElem?_eq_getElem (hnp hio)⟩
        exact .inr ⟨0, by rw [S.oi _ (fxs_io hio hv)]; exact m⟩
    · rw [hO j hj] at m; cases m
theorem fn_spec (lk : K.lookup f = some ⟨oc, od, .func (PySem.W.fnOf name qual params body scope dV kV doc pm an cdv ct), osl⟩) (hcd : PySem.W.codeIn K cdv qual = true) (S : FnScope N ps scope) (hf : Pr fi = some fn) (hN : N.length = fn.ns) (hp : ps.length = fn.np) (hio : fn.io = true → 0 < fn.np) (hns : 0 < fn.ns) (hhi : XD.hi = none) (hhot : fn.hot = false)
    (read : ∀ (A : Around) (outer : List PySem.Env) (s : Shared) (H : Hp) (E : XK), RoomG k (A.deeper (envOfC qual scope s.heap.objs.size f cdv)) → ∃ Γ', VSs (cxOf (L2N.CX P w) P w K mg base N qual scope f cdv A outer s H E) XD (fun cls d _ H => E cls d H) (fun _ => True) fn.fr (shp fn) body Γ' (fun ρ => evS (run Pr k) (runH Pr k) .none fn.body ρ)) :
    FnG P w K mg base (L2N.CX P w) (k + 1) f (PySem.W.fnOf name qual params body scope dV kV doc pm an cdv ct) ps (FSp K XD fn (run Pr (k + 1) fi)) := by
  refine fnG_of lk hcd S (fun vs H Q E ⟨_, _, _, h, _⟩ => h.trans hp.symm) fun A outer s H vs Q E room ⟨Z, O, ds, h1, h2, h3, h4⟩ => ?_
  obtain ⟨Γ', hv⟩ := read A outer s H E room
  refine ⟨_, hv.pss Z (fxs fn vs) H O (fun _ z => by rw [hhi] at z; cases z), rho fn ds, O, ?_, ?_⟩
  · have e : L2.start N vs = sig fn vs := by unfold L2.start sig; rw [hN]
    rw [e]
    refine ⟨h3, Keep.refl, fun a z => .inl z, fun _ z => z, fun p hp => ?_, fun _ _ => rfl⟩
    obtain ⟨z1, z2, _, z3⟩ := fxs_mem hp
    rw [z2, z3]
    exact shp_zero z1
  · rw [run_eq hf h2 hhot] at h4
    have hnp : fn.io = true → 0 < vs.length := fun z => by rw [h1]; exact hio z
    have hO : ∀ j, j ≠ 0 → O j = [] := fun j hj => by
      by_cases hl : j < (shp fn).length
      · refine h3.fzO ?_
        unfold shp at hl ⊢
        split at hl
        · rename_i z
          rw [if_pos z]
          obtain ⟨j', rfl⟩ : ∃ j', j = j' + 1 := ⟨j - 1, by omega⟩
          simp only [List.length_cons, List.length_replicate] at hl
          rw [List.getElem?_cons_succ, List.getElem?_replicate, if_pos (by omega)]
        · rename_i z
          rw [if_neg z]
          simp only [List.length_replicate] at hl
          rw [List.getElem?_replicate, if_pos hl]
      · exact h3.out j (by omega)
    have hO0 : fn.io = false → O 0 = [] := fun z => h3.fzO (by
      unfold shp
      rw [if_neg (by rw [z]; exact Bool.false_ne_true), List.getElem?_replicate, if_pos hns])
    show (evS (run Pr k) (runH Pr k) .none fn.body (rho fn ds)).Post _ _ _
    generalize evS (run Pr k) (runH Pr k) .none fn.body (rho fn ds) = o at h4 ⊢
    cases o with
    | stk => exact h4
    | next ρ' =>
      intro σ' H' O' S'
      show Q .non H'
      have h4 : match (if fn.fr = true then FRes.stk else Fn.endS.outS fn ρ' (FRes.ret .none)) with | .ret d out => _ | .exc x out => _ | .stk => _ := h4
      by_cases hfr : fn.fr = true
      · rw [if_pos hfr] at h4; exact h4.elim
      · rw [if_neg hfr] at h4
        cases eo : Fn.endS.outS fn ρ' (FRes.ret .none) with
        | stk => rw [eo] at h4; exact h4.elim
        | exc x o => obtain ⟨o', h5, _⟩ := outS_some eo (fun z => nomatch z); cases h5
        | ret d o =>
          obtain ⟨o', h5, h6⟩ := outS_some eo (fun z => nomatch z)
          cases h5
          rw [eo] at h4
          exact (h4 : ∀ v H', _) .non H' S'.kb S'.bt .non (dk_out hnp hO hO0 S' h6) fun z => absurd z hfr
    | ret d ρ' =>
      intro v H' hret
      obtain ⟨Γ2, σ', O', S', rv, nf⟩ := hret
      have h4 : match Fn.endS.outS fn ρ' (FRes.ret d) with | .ret d out => _ | .exc x out => _ | .stk => _ := h4
      cases eo : Fn.endS.outS fn ρ' (FRes.ret d) with
      | stk => rw [eo] at h4; exact h4.elim
      | exc x o => obtain ⟨o', h5, _⟩ := outS_some eo (fun z => nomatch z); cases h5
      | ret d' o =>
        obtain ⟨o', h5, h6⟩ := outS_some eo (fun z => nomatch z)
        cases h5
        rw [eo] at h4
        have inN := nn_in hnp hO hO0 S'
        refine (h4 : ∀ v H', _) v H' S'.kb S'.bt (rv.imp inN) (dk_out hnp hO hO0 S' h6) fun z => ?_
        obtain ⟨a, xs, ds', e1, e2, e3, e4, e5, e6⟩ := nf z
        refine ⟨a, xs, ds', e1, e2, e3, e4, e5.imp fun b z => ?_, ?_⟩
        · rcases NN_addZ z with z | z
          · exact (inN b z).elim (fun z => .inl (.inl z)) .inr
          · exact .inl (.inr z)
        · exact dk_out hnp hO hO0 ⟨e6, S'.kb, S'.ob, S'.bt, S'.fd, S'.oi⟩ h6
    | exc x ρ' =>
      intro cls dd σ' H' O' Γ2 _ S' xd
      have h4 : match Fn.endS.outS fn ρ' (FRes.exc x) with | .ret d out => _ | .exc x out => _ | .stk => _ := h4
      cases eo : Fn.endS.outS fn ρ' (FRes.exc x) with
      | stk => rw [eo] at h4; exact h4.elim
      | ret d o => obtain ⟨o', h5, _⟩ := outS_some eo (fun z => nomatch z); cases h5
      | exc x' o =>
        obtain ⟨o', h5, h6⟩ := outS_some eo (fun z => nomatch z)
        cases h5
        rw [eo] at h4
        exact (h4 : ∀ cls dd H', _) cls dd H' S'.kb S'.bt (dk_out hnp hO hO0 S' h6) xd
end
end BV
set_option Elab.async false
set_option linter.all false
set_option maxRecDepth 100000
set_option maxHeartbeats 4000000
/-! BV21: raise, try. -/
namespace BV
open PySem PySem.Spec L2
open PyProof.Rows hiding St

/-- the classes of exceptions: their names, where they stand -/
structure XTab (K : PySem.W.Frag) (mg : Str → Option Value) (rd cs : List Str) : Prop where
  sub : ∀ c ∈ rd, c ∈ cs
  at_ : ∀ c ∈ cs, ∃ C, mg c = some (.ref C) ∧ PySem.W.keepIn K (.ref C) = true ∧ ExcC K C ∧ PySem.W.typeIn K (.ref C) = some (.type "type")
  exm : ∀ c ∈ rd, ∀ h ∈ cs, ∀ C C', mg c = some (.ref C) → mg h = some (.ref C') → PySem.W.exmOne K (.ref C) (.ref C') = some (excSub c h)
  kit : ∀ c ∈ rd, ∀ h ∈ cs, ∀ C C', mg c = some (.ref C) → mg h = some (.ref C') → PySem.W.kitOne K (.ref C) (.ref C') = some (excSub c h)
  kitV : ∀ c ∈ rd, ∀ C, mg c = some (.ref C) → PySem.W.kitOne K (.ref C) (.type "ValueError") = some true
/-- an exception's class and dict stand for data -/
def XD1 (mg : Str → Option Value) (cs : List Str) : XI := fun cls dd _ x => ∃ c C, c ∈ cs ∧ mg c = some (.ref C) ∧ cls = .ref C ∧ dd = none ∧ x = mkExc c .none
section
variable {K : PySem.W.Frag} {Z : Addr → Prop} {Γ Γ' : List Sh} {fx : List FX} {B H H' : Hp} {P O : Nat → List Addr} {ρ : Ev} {σ : L2.St} {i : Nat} {v : V} {a : Addr}
/-- the slot of a caught exception, from its begin -/
theorem SR.catch (s : SR K Z Γ fx ρ σ H O) (hΓ : Γ[i]? = some .fz) (hf : ∀ p ∈ fx, p.1 ≠ i) : SR K Z (Γ.set i .ex) ((i, .ref a, true) :: fx) (ρ.set i none) (σ.set i (some (.ref a))) H O where
  lenR := by rw [List.length_set, List.length_set]; exact s.lenR
  lenS := by rw [List.length_set, List.length_set]; exact s.lenS
  slot := fun j sh e => by
    rw [getV_set, getS_set]
    rcases get_set e with ⟨rfl, rfl⟩ | ⟨hj, e⟩
    · rw [if_pos rfl]
      have : (if j < ρ.length then (none : Option D) else none) = none := by split <;> rfl
      rw [this]
      exact s.fzO hΓ
    · rw [if_neg (fun z => hj z.symm), if_neg (fun z => hj z.symm)]
      exact s.slot j sh e
  out := fun j h => s.out j (by rwa [List.length_set] at h)
  dis := s.dis
  trk := s.trk
  zo := s.zo
  sm := s.sm
  fix := fun p hp => by
    rw [getS_set]
    rcases List.mem_cons.mp hp with rfl | hp
    · rw [if_pos rfl, if_pos (by rw [s.lenS]; exact lt_of_get hΓ)]
    · rw [if_neg (fun z => hf p hp z.symm)]
      exact s.fix p hp
/-- .. to its end -/
theorem SR.uncatch (s : SR K Z Γ ((i, v, true) :: fx) ρ σ H O) (hΓ : Γ[i]? = some .ex) (hf : ∀ p ∈ fx, p.1 ≠ i) : SR K Z (Γ.set i .fz) fx (ρ.set i none) (σ.set i none) H O where
  lenR := by rw [List.length_set, List.length_set]; exact s.lenR
  lenS := by rw [List.length_set, List.length_set]; exact s.lenS
  slot := fun j sh e => by
    rw [getV_set, getS_set]
    rcases get_set e with ⟨rfl, rfl⟩ | ⟨hj, e⟩
    · rw [if_pos rfl]
      have : (if j < ρ.length then (none : Option D) else none) = none := by split <;> rfl
      rw [this]
      have := s.slot j _ hΓ
      cases q : getV ρ j with
      | none => rw [q] at this; exact this
      | some d => rw [q] at this; exact this
    · rw [if_neg (fun z => hj z.symm), if_neg (fun z => hj z.symm)]
      exact s.slot j sh e
  out := fun j h => s.out j (by rwa [List.length_set] at h)
  dis := s.dis
  trk := s.trk
  zo := s.zo
  sm := s.sm
  fix := fun p hp => by
    rw [getS_set, if_neg (fun z => hf p hp z.symm)]
    exact s.fix p (List.mem_cons_of_mem _ hp)
theorem SR.dropfx {p : FX} (s : SR K Z Γ (p :: fx) ρ σ H O) : SR K Z Γ fx ρ σ H O := ⟨s.lenR, s.lenS, s.slot, s.out, s.dis, s.trk, s.zo, (fun q hq => s.fix q (List.mem_cons_of_mem _ hq)), s.sm⟩
theorem SS.dropfx {p : FX} (s : SS K Z Γ (p :: fx) B P ρ σ H O) : SS K Z Γ fx B P ρ σ H O := ⟨s.sr.dropfx, s.kb, s.ob, s.bt, fun q hq => s.fd q (List.mem_cons_of_mem _ hq), fun q hq => s.oi q (List.mem_cons_of_mem _ hq)⟩
theorem RetOk.dropfx {p : FX} {rs : Bool} {d : D} (r : RetOk K Z (p :: fx) B P rs v d ρ H) : RetOk K Z fx B P rs v d ρ H := by
  obtain ⟨Γ', σ', O', S', rv, nf⟩ := r
  refine ⟨Γ', σ', O', S'.dropfx, rv, fun z => ?_⟩
  obtain ⟨a, xs, ds, e1, e2, e3, e4, e5, e6⟩ := nf z
  exact ⟨a, xs, ds, e1, e2, e3, e4, e5, e6.dropfx⟩
end
section
variable {X : Cx} {XD : XP} {W : WX} {G : List Sh → Prop} {rs : Bool} {Γ Γ1 Γ2 Γh : List Sh} {rd cs : List Str} {C : Addr} {bmB : List Value} {B newId initId : String} {x n m : Str} {i j : Nat} {p p2 cpos pos np pos' : Pos} {body suite : List Stmt} {b₀ : Stmt} {mb : Ev → SOut} {mh : D → Ev → SOut}
/-- raise X('m') -/
theorem vs_raise (hxd : XD.xd = XD1 X.mg rd) (hc : X.calm = true) (tk : L2N.Takes X W) (F : ExcBaseFacts B newId initId bmB) (q : PySem.W.excIn X.K C bmB newId = true) (t : XTab X.K X.mg rd cs) (hx : x ∈ rd) (gC : X.mg x = some (.ref C)) (hg : Gl X x) (hdb : (x == ("__debug__" : Str)) = false) (hG : G Γ) :
    VS X XD W G rs Γ (.Raise (some (.Call (.Name x p) [.Constant (.str m) j p2] [] cpos)) none pos) Γ1 (fun ρ => (Out.ok (PyData.str m) ρ).toS fun d ρ => .exc (mkExc x (if false = true then d else .none)) ρ) := by
  obtain ⟨C', gC', kC, eC, tC⟩ := t.at_ x (t.sub x hx)
  rw [gC] at gC'
  cases gC'
  refine ⟨fun Z fx B P hx' => PSimp (L2N.ps_raise hc tk (L2N.pmk_own F q gC kC (raises_own eC.hs tC) hg hdb)) fun E σ H h => ?_⟩
  obtain ⟨ρ, O, S, h⟩ := h
  exact (h : ∀ cls d σ' H' O' Γ2, _) (.ref C) none σ H O Γ hG S (by rw [hxd]; exact ⟨x, C, hx, gC, rfl, rfl, rfl⟩)
/-- the names a handler's class goes by -/
theorem names_of (hg : Gl X x) (hdb : (x == ("__debug__" : Str)) = false) (gC : X.mg x = some (.ref C)) : Names X x (.ref C) := ⟨hg, hdb, .inl gC⟩
abbrev XP.at (XD : XP) (i : Nat) : XP := { xd := XD.xd, hi := some i }
/-- an exception's class stands for data -/
def XC (XD : XP) (cls : Value) (dd : Option Addr) (x : D) : Prop := ∃ H, XD.xd cls dd H x
def ctxT (D : Ends) (i : Nat) : Ends := { nx := fun σ' H' => D.nx (σ'.set i none) H', rt := D.rt, bk := fun σ' H' => D.bk (σ'.set i none) H', ct := fun σ' H' => D.ct (σ'.set i none) H' }
theorem vs_try (hxd : XD.xd = XD1 X.mg rd) (t : XTab X.K X.mg rd cs) (hs : X.stack = X.env :: X.outer) (hf : X.env.frame = some X.env.locals) (hN : X.N.Nodup) (hi : X.N[i]? = some n) (hln : X.env.kindOf n = some .local) (hg : Gl X x) (hdb : (x == ("__debug__" : Str)) = false) (hx : x ∈ cs) (tk : L2N.Takes X W)
    (hΓ : Γ[i]? = some .fz) (hG : G Γ) (hΓ1 : Γh.set i .fz = Γ1) (hΓh : Γh[i]? = some .ex)
    (hb : ∀ (W : WX) (pn : List (Addr × Obj)) (xe : Value → Shared → Prop), L2N.Takes (X.tr pn xe) W → PassesOwn (model X.prog X.w) X.A X.env xe → VSs (X.tr pn xe) XD W (fun Γ2 => Γ2 = Γ) rs Γ body Γ1 mb)
    (hsu : ∀ (a : Addr) (oe : Obj) (cls : Value) (d : Option Addr) (pn : List (Addr × Obj)) (y : D), L2N.Zn cls d oe → (∃ vs, oe.data = .fields vs) → XC XD cls d y → VSs (X.suite a ((a, oe) :: pn)) (XD.at i) W0 (fun _ => True) rs (Γ.set i .ex) (b₀ :: suite) Γh (mh y)) (hhi : XD.hi = none) :
    VS X XD W G rs Γ (.Try body [.ExceptHandler (some (.Name x np)) (some n) (b₀ :: suite) pos'] [] [] pos) Γ1 (fun ρ => match mb ρ with
      | .exc y ρ => (match excCls y with
        | some c => if ([x].any fun h => excSub c h) = true then endH (some i) (mh y (startH (some i) ρ)) else .exc y ρ
        | none => .stk)
      | o => o) := by
  obtain ⟨C, gC, kC, eC, tC⟩ := t.at_ x hx
  refine ⟨fun Z fx B P hx' => PSimp (L2N.ps_try_as (np := np) (pos := pos) (pos' := pos') (tb := fun W => tS X.K Z Γ Γ1 fx B P XD W (fun Γ2 => Γ2 = Γ) rs mb)
    (ts := fun a cls d E σ H => ∃ y Z B P fx, XC XD cls d y ∧ tS X.K Z (Γ.set i .ex) Γh ((i, .ref a, true) :: fx) B P (XD.at i) W0 (fun _ => True) rs (mh y) E σ H) hs hf hN hi hln (names_of hg hdb gC) tk
    (fun W pn xe tk' po => (hb W pn xe tk' po).pss Z fx B P fun _ z => by rw [hhi] at z; cases z)
    (fun a oe cls d pn hz hd => ⟨fun pins s σ H E I ⟨y, Z, B, P, fx, hy, h⟩ => ((hsu a oe cls d pn y hz hd hy).pss Z ((i, .ref a, true) :: fx) B P fun k z => ⟨a, rfl, by cases z; exact List.mem_cons_self ..⟩).run pins s σ H E I h⟩)) fun E σ H h => ?_⟩
  obtain ⟨ρ, O, S, h⟩ := h
  refine ⟨ρ, O, S, ?_⟩
  dsimp only at h
  cases em : mb ρ with
  | stk => rw [em] at h; exact h
  | next ρ1 => rw [em] at h; exact h
  | ret d ρ1 => rw [em] at h; exact h
  | exc y ρ1 =>
    rw [em] at h
    intro cls dd σ1 H1 O1 Γ2 eΓ S1 xd
    subst eΓ
    have xd' := xd
    rw [hxd] at xd'
    obtain ⟨c, Cc, hcs, gc, rfl, rfl, rfl⟩ := xd'
    have e1 : excCls (mkExc c .none) = some c := rfl
    simp only [e1] at h
    refine ⟨excSub c x, t.exm c hcs x hx Cc C gc gC, fun hb' a hna => ?_, fun hb' => ?_⟩
    · have hany : ([x].any fun h => excSub c h) = true := by simp [hb']
      rw [if_pos hany] at h
      have hfx : ∀ p ∈ fx, p.1 ≠ i := fun p hp z => by
        have := S1.fd p hp
        rw [z, hΓ] at this
        exact fsh_fz this.symm
      refine ⟨mkExc c .none, Z, H1, O1, fx, ⟨H1, xd⟩, ρ1.set i none, O1, ⟨S1.sr.catch hΓ hfx, Keep.refl, fun a z => .inl z, fun _ z => z, fun p hp => ?_, fun p hp => rfl⟩, ?_⟩
      · rcases List.mem_cons.mp hp with rfl | hp
        · exact List.getElem?_set_self (lt_of_get hΓ)
        · rw [List.getElem?_set_ne fun z => hfx p hp z.symm]; exact S1.fd p hp
      · have h' : (endH (some i) (mh (mkExc c .none) (ρ1.set i none))).Post _ _ _ := h
        cases eh : mh (mkExc c .none) (ρ1.set i none) with
        | stk => rw [eh] at h'; exact h'.elim
        | exc y ρ2 => rw [eh] at h'; exact h'.elim
        | ret d ρ2 => rw [eh] at h'; exact fun v H2 r => (h' : ∀ v H', _) v H2 (r.dropfx.trans S1)
        | next ρ2 =>
          rw [eh] at h'
          intro σ2 H2 O2 S2
          refine (h' : ∀ σ' H' O', _) (σ2.set i none) H2 O2 (S1.trans ⟨hΓ1 ▸ S2.sr.uncatch hΓh hfx, S2.kb, S2.ob, S2.bt, fun p hp => ?_, fun p hp => S2.oi p (List.mem_cons_of_mem _ hp)⟩)
          rw [← hΓ1, List.getElem?_set_ne fun z => hfx p hp z.symm]
          exact S2.fd p (List.mem_cons_of_mem _ hp)
    · have hany : ¬ ([x].any fun h => excSub c h) = true := by simp [hb']
      rw [if_neg hany] at h
      exact (h : ∀ cls d σ' H' O' Γ2, _) _ _ σ1 H1 O1 Γ2 hG S1 xd
end
end BV
set_option Elab.async false
set_option linter.all false
set_option maxRecDepth 100000
set_option maxHeartbeats 4000000
/-! BV22: calls with a caught exception; isinstance of it. -/
namespace BV
open PySem PySem.Spec L2
open PyProof.Rows hiding St

structure FnX (P : Program) (w : World) (K : PySem.W.Frag) (mg : Str → Option Value) (base : Heap) (CX : CXT) (k : Nat) (f : Addr) (fd : FuncData) (ps : List Str) (sp : Addr × Obj → Sp) : Prop where
  len : ∀ p vs H Q E, sp p vs H Q E → vs.length = ps.length
  go : ∀ (A : Around) (outer : List PySem.Env) (s : Shared) (H : Hp) (args : Args) (us : List Value) (vs : List V) (Q : VK) (E : XK) (p : Addr × Obj), L2H.RoomH k A → A.guards = some [] → L2H.Hot1 A p → L2H.PinOk outer H s p → Env0 P w K mg base A outer s H → BindsTo s fd args (ps.zip us) → Vals vs us → sp p vs H Q E →
    codeAny (model P w) A (.call (.ref f) args) (CR CX outer P w H s Q E) s
section
variable {P : Program} {w : World} {K : PySem.W.Frag} {mg : Str → Option Value} {base : Heap} {CX : CXT} {k : Nat} {f : Addr} {name qual : Str} {params : Arguments} {body : List Stmt} {scope : Scope} {dV kV doc pm cdv ct oc : Value} {an od : Option Addr} {osl : Array (Option Value)} {N ps : List Str} {sp : Addr × Obj → Sp}
theorem endX_of {A : Around} {outer : List PySem.Env} {s s' : Shared} {H : Hp} {E : XK} {Q : VK} {fl : Flow} {p : Addr × Obj} (h : SP (L2H.cxH CX P w K mg base N qual scope f cdv A outer s H E p) [] { nx := fun _ H' => Q .non H', rt := Q } fl s') : ∃ u, (fl = .ret u ∨ (fl = .next ∧ u = .none)) ∧ CE outer P w H s Q u s' := by
  cases fl with
  | ret u => obtain ⟨v, σ', H', J, rv, q⟩ := h; exact ⟨u, .inl rfl, v, H', J.os, J.bare, J.base, J.hok, rv, q⟩
  | next => obtain ⟨σ', H', J, q⟩ := h; exact ⟨.none, .inr ⟨rfl, rfl⟩, .non, H', J.os, J.bare, J.base, J.hok, rfl, q⟩
  | brk => obtain ⟨_, _, _, q⟩ := h; exact q.elim
  | cont => obtain ⟨_, _, _, q⟩ := h; exact q.elim
theorem fnX_of (lk : K.lookup f = some ⟨oc, od, .func (PySem.W.fnOf name qual params body scope dV kV doc pm an cdv ct), osl⟩) (hcd : PySem.W.codeIn K cdv qual = true) (S : FnScope N ps scope) (len : ∀ p vs H Q E, sp p vs H Q E → vs.length = ps.length)
    (read : ∀ (A : Around) (outer : List PySem.Env) (s : Shared) (H : Hp) (vs : List V) (Q : VK) (E : XK) (p : Addr × Obj), L2H.Hot1 A p → L2H.RoomH k (A.deeper (envOfC qual scope s.heap.objs.size f cdv)) → A.guards = some [] → sp p vs H Q E → ∃ t, PSs (L2H.cxH CX P w K mg base N qual scope f cdv A outer s H E p) body t ∧ t { nx := fun _ H' => Q .non H', rt := Q } (L2.start N vs) H) :
    FnX P w K mg base CX (k + 1) f (PySem.W.fnOf name qual params body scope dV kV doc pm an cdv ct) ps sp where
  len := len
  go := fun A outer s H args us vs Q E p room free hot pin e0 binds vals wish => by
    have nvs := len _ _ _ _ _ wish
    have kin : K.In s.heap := e0.mod.kin.keeps fun b o z => (e0.bs b o z).1
    have nolim : s.heap.NoLimit := e0.mod.nolimit.keeps fun b o z => (e0.bs b o z).1
    have kinds : ∀ y ∈ ps.zip us, scope.names.lookup y.1 = some .local ∨ (scope.names.lookup y.1 = some .cell ∧ ((cellsFrom (s.heap.objs.size + 1) scope.names []).lookup y.1).isSome = true) := by
      rintro ⟨n, v⟩ hy
      refine (S.par n (List.of_mem_zip hy).1).imp id fun q => ⟨q, ?_⟩
      exact PySem.W.cellsFrom_some _ _ _ (.inl q)
    refine codeAny_call_function room.depth (kin _ _ lk) rfl S.co S.gen rfl (PySem.W.codeRec_of kin hcd) (binds _ _ _ _ (wpAny_newFunctionEnv_cells S.kind kinds fun env he s1 x => ?_))
    subst he
    obtain ⟨t, ht, hq⟩ := read A outer s H vs Q E p hot (room.deeper _) free wish
    refine ⟨nolim.keeps x.toInCall.keep, codeAny_func (wpAny_mono (ht.run [] s1 (L2.start N vs) H _ (L2H.inv_startH S pin e0 nvs vals x) hq) (fun fl s' hs => ?_) fun e s' hs => hs)⟩
    obtain ⟨u, hu, ce⟩ := endX_of hs
    rcases hu with rfl | ⟨rfl, rfl⟩
    · exact ce
    · exact ce
end

section
variable {X : Cx} {CX : CXT} {k : Nat} {f : Addr} {fd : FuncData} {ps : List Str} {sp : Addr × Obj → Sp} {E : L2.St → XK} {x : Str} {p pos : Pos} {e : Expr} {es : List Expr} {t : TA} {o : Addr × Obj}
theorem run_fnX {pins : List (Addr × Obj)} {σ : L2.St} {H : Hp} {s : Shared} {Q : VK} {us : List Value} {vs : List V} (F : FnX X.prog X.w X.K X.mg X.base CX k f fd ps sp) (hr : L2H.RoomH k X.A) (free : X.A.guards = some []) (hot : L2H.Hot1 X.A o) (hp : o ∈ X.pn) (hb : Binds X.K fd ps []) (hx : PassesAt CX X σ (E σ)) (I : L2.Inv X pins σ H s)
    (r : Vals vs us) (h : sp o vs H Q (E σ)) : wpAny (model X.prog X.w) X.A (call (.ref f) us) (EP X pins σ Q) X.xe s := by
  have hl : (us ++ []).length = ps.length := by rw [List.append_nil, ← r.length]; exact F.len _ _ _ _ _ h
  have hbs := hb s us I.kIn hl
  rw [List.append_nil] at hbs
  obtain ⟨p1, p2, p3, p4, p5⟩ := I.pin o (List.mem_append_left _ hp)
  have pin : L2H.PinOk X.stack H s o := ⟨p1, p2, fun hm => (List.mem_cons.mp (I.stkSub o.1 hm)).elim p3 p4, p5⟩
  refine wpAny_call (codeAny_mono (F.go X.A X.stack s H ⟨us, []⟩ us vs Q (E σ) o hr free hot pin I.env0 hbs r h) fun out s' hq => ?_)
  match out, hq with
  | .error e, hq => exact hx pins H s e s' I hq
  | .ok (.ret u), hq => exact I.after hq
theorem pe_callX (F : FnX X.prog X.w X.K X.mg X.base CX k f fd ps sp) (hr : L2H.RoomH k X.A) (free : X.A.guards = some []) (hot : L2H.Hot1 X.A o) (hp : o ∈ X.pn) (hg : Gl X x) (hm : X.mg x = some (.ref f)) (hk : PySem.W.keepIn X.K (.ref f) = true) (hb : Binds X.K fd ps []) (hx : ∀ σ, PassesAt CX X σ (E σ)) (ha : PA X (e :: es) t)
    (hdb : (x == ("__debug__" : Str)) = false) (he : starEach (e :: es) X.env = (false, eval e X.env) :: starEach es X.env) (hpl : (backTo pos (starEach es X.env)).any (·.1) = false) :
    PE X (.Call (.Name x p) (e :: es) [] pos) (tCallS (sp o) E t) :=
  ⟨fun pins s σ H Q I h => wpAny_Call_Name_kw (ld_glob I hg hm (PySem.W.callWith_K (h₀ := X.base) I.ok.mod.kin hk (thn (ha.run pos pins s σ H _ I h) fun us s1 ⟨vs, H1, I1, r, q⟩ => ⟨I1.kIn, run_fnX F hr free hot hp hb (hx σ) I1 r q⟩) he hpl) hdb)⟩
end

/-! ### the promise -/
def HSp (K : PySem.W.Frag) (XD : XP) (r : D → FRes) : Addr × Obj → Sp := fun p vs H Q E => ∃ Z cur cls dd, vs = [V.ref p.1] ∧ L2N.Zn cls dd p.2 ∧ (∃ vs', p.2.data = .fields vs') ∧ XC XD cls dd cur ∧ ((∀ a, Z a → H a ≠ none) ∧ Z sysModules) ∧ match r cur with
  | .ret d _ => ∀ v H', Keep none_ H H' → Rep K Z H' v d → Q v H'
  | _ => False
/-- the handled exception stands for cur -/
def HotX (X : Cx) (XD : XP) (cur : D) : Prop := ∀ a, X.A.handled = some (.ref a) → ∃ oe cls dd, (a, oe) ∈ X.pn ∧ L2N.Zn cls dd oe ∧ (∃ vs, oe.data = .fields vs) ∧ XC XD cls dd cur
theorem vis_get {σ : L2.St} {i : Nat} {v : V} (h : getS σ i = some v) : σ[i]? = some (some v) := by
  unfold getS at h
  cases q : σ[i]? with
  | none => rw [q] at h; cases h
  | some o => rw [q] at h; exact congrArg some h
section
variable {X : Cx} {XD : XP} {W : WX} {Γ : List Sh} {k : Nat} {f : Addr} {fd : FuncData} {ps : List Str} {r : D → FRes} {x y T : Str} {p pos py pT : Pos} {i : Nat} {ba : Bool} {cur : D} {rd cs : List Str} {c : Str}
theorem ve_hot (F : FnX X.prog X.w X.K X.mg X.base (L2N.CX X.prog X.w) k f fd ps (HSp X.K XD r)) (hr : L2H.RoomH k X.A) (free : X.A.guards = some []) (hcur : HotX X XD cur) (hhi : XD.hi = some i) (tk : L2N.Takes X W) (hg : Gl X x) (hm : X.mg x = some (.ref f)) (hk : PySem.W.keepIn X.K (.ref f) = true) (hb : Binds X.K fd ps [])
    (hdb : (x == ("__debug__" : Str)) = false) (hN : X.N[i]? = some y) (hv : Vis X.env.scope y) (hd : (y == ("__debug__" : Str)) = false) (hcd : (y == ("__classdict__" : Str)) = false) :
    VE X XD W Γ (.Call (.Name x p) [.Name y py] [] pos) ba false true (fun ρ => match r cur with
      | .ret d _ => .ok d ρ
      | _ => .stk) := by
  refine ⟨fun Z fx O hx => ?_⟩
  obtain ⟨a, hh, hmem⟩ := hx i hhi
  obtain ⟨oe, cls, dd, hp, hz, hf, hc⟩ := hcur a hh
  have hot : L2H.Hot1 X.A (a, oe) := ⟨hh, by obtain ⟨vs, hv⟩ := hf; exact ⟨vs, hv, hz.2.2 vs hv⟩⟩
  refine PEimp (pe_callX F hr free hot hp hg hm hk hb (fun σ => L2N.passAt tk σ) (pa_cons (pe_var hN hv hd hcd) pa_nil (star_cons rfl)) hdb (star_cons rfl) (star_any rfl)) fun σ H Q h => ?_
  obtain ⟨ρ, S, h⟩ := h
  dsimp only at h
  refine ⟨.ref a, vis_get (S.fix _ hmem), NN Z O, cur, cls, dd, rfl, hz, hf, hc, ⟨S.trk, .inl S.sm⟩, ?_⟩
  cases er : r cur with
  | stk => rw [er] at h; exact h
  | exc z o => rw [er] at h; exact h
  | ret d o =>
    rw [er] at h
    intro v H' kk rv
    refine (h : ∀ v H', _) v H' (S.keep kk) kk.all (fun _ => kk) ?_ (fun z => nomatch z)
    cases ba with
    | true => exact .rep rv
    | false => exact rv
theorem call_isX {a D : Addr} {oe : Obj} (C : ExcC X.K D) (hz : oe.cls = .ref D ∧ oe.dict = none) (hf : ∃ vs, oe.data = .fields vs) (hp : (a, oe) ∈ X.pn) : CallR X (.builtin "isinstance") (rIsE X.K D a) := by
  intro pins s σ H xs us Q I r h
  obtain ⟨c, cv, b, rfl, hcv, e, q⟩ := h
  obtain ⟨u1, u2, rfl, r1, r2⟩ := vals2 r
  cases r1
  obtain rfl := hcv _ r2
  have hget := (I.pin (a, oe) (List.mem_append_left _ hp)).1
  obtain ⟨vs, hv⟩ := hf
  obtain ⟨oc, od, oda, osl⟩ := oe
  obtain ⟨h1, h2⟩ := hz
  dsimp only at h1 h2 hv
  subst h1 h2 hv
  exact PySem.W.kia_one (PySem.W.handS_kitx_exc C.hg C.hk C.hs C.hd C.ha C.hn C.ht C.hm) I.kIn ⟨hget, rfl, rfl, trivial⟩ e (fun z => nomatch z) fun tk => ⟨.bl b, H, I.kept (t' := tk) fun _ _ z => z, rfl, q⟩
/-- a class by its name: an own one, or ValueError -/
theorem pe_cls {C : Addr} (hg : Gl X T) (hm : X.mg T = some (.ref C)) (hd : (T == ("__debug__" : Str)) = false) : PE X (.Name T pT) (tC (.ref C)) := ⟨fun pins s σ H Q I h => ld_glob I hg hm ⟨.ref C, H, I, rfl, h⟩ hd⟩
theorem ve_isx (hxd : XD.xd = XD1 X.mg rd) (t : XTab X.K X.mg rd cs) (hcur : HotX X XD cur) (hhi : XD.hi = some i) (hgi : Gl X "isinstance") (hmi : X.mg "isinstance" = none) (hgT : Gl X T) (hdT : (T == ("__debug__" : Str)) = false)
    (hT : (T ∈ cs) ∨ (T = "ValueError" ∧ X.mg T = none)) (hN : X.N[i]? = some y) (hv : Vis X.env.scope y) (hd : (y == ("__debug__" : Str)) = false) (hcd : (y == ("__classdict__" : Str)) = false) :
    VE X XD W Γ (.Call (.Name "isinstance" p) [.Name y py, .Name T pT] [] pos) ba false true (fun ρ => Out.lift ((excCls cur).map fun d => .bool (excSub d T)) ρ) := by
  refine ⟨fun Z fx O hx => ?_⟩
  obtain ⟨a, hh, hmem⟩ := hx i hhi
  obtain ⟨oe, cls, dd, hp, hz, hf, H0, hc⟩ := hcur a hh
  rw [hxd] at hc
  obtain ⟨c, C, hcs, gc, rfl, rfl, rfl⟩ := hc
  obtain ⟨C', gc', kC, eC, _⟩ := t.at_ c (t.sub c hcs)
  rw [gc] at gc'
  cases gc'
  have fin : ∀ {u : V} {cv : Value}, PE X (.Name T pT) (tC u) → (∀ w, RelV u w → w = cv) → PySem.W.kitOne X.K (.ref C) cv = some (excSub c T) → PE X (.Call (.Name "isinstance" p) [.Name y py, .Name T pT] [] pos) (tV X.K Z Γ fx O XD W ba false true (fun ρ => Out.lift ((excCls (mkExc c .none)).map fun d => .bool (excSub d T)) ρ)) := by
    intro u cv hpe hu hkit
    refine PEimp (pe_callB (call_isX eC ⟨hz.1, hz.2.1⟩ hf hp) hgi hmi rfl (pa_cons (pe_var hN hv hd hcd) (pa_cons hpe pa_nil (star_cons rfl)) (star_cons rfl)) (he := star_cons rfl) (hpl := star_any rfl)) fun σ H Q h => ?_
    obtain ⟨ρ, S, h⟩ := h
    have h' : ∀ v H', SR X.K Z Γ fx ρ σ H' O → Keep (OO O) H H' → (true = true → Keep none_ H H') → RepM ba X.K (NN Z O) H' v (.bool (excSub c T)) → (false = true → _) → Q v H' := h
    refine ⟨.ref a, vis_get (S.fix _ hmem), u, cv, excSub c T, rfl, hu, hkit, h' _ H S Keep.refl (fun _ => Keep.refl) ?_ (fun z => nomatch z)⟩
    cases ba with
    | true => exact .rep (.bl _)
    | false => exact .bl _
  rcases hT with hT | ⟨rfl, hT⟩
  · obtain ⟨D, gD, _, _, _⟩ := t.at_ T hT
    exact fin (pe_cls hgT gD hdT) (fun w r => by cases r; rfl) (t.kit c hcs T hT C D gc gD)
  · refine fin (pe_bltn (v := .ty "ValueError") hgT hT rfl rfl) (fun w r => by cases r; rfl) ((t.kitV c hcs C gc).trans ?_)
    simp [excSub]
end

/-! ### from a body to such a promise -/
def shpH (fn : Fn) : List Sh := .ex :: List.replicate (fn.ns - 1) .fz
section
variable {P : Program} {w : World} {K : PySem.W.Frag} {mg : Str → Option Value} {base : Heap} {XD : XP} {Pr : Nat → Option Fn} {k fi : Nat} {fn : Fn} {f : Addr} {name qual : Str} {params : Arguments} {body : List Stmt} {scope : Scope} {dV kV doc pm cdv ct oc : Value} {an od : Option Addr} {osl : Array (Option Value)} {N : List Str} {y : Str}
theorem sr_hot {Z : Addr → Prop} {H : Hp} {a : Addr} (t : ∀ a, Z a → H a ≠ none) (sm : Z sysModules) (hns : 0 < fn.ns) : SR K Z (shpH fn) [(0, .ref a, true)] (List.replicate fn.ns none) (sig fn [.ref a]) H (fun _ => []) where
  lenR := by unfold shpH; simp only [List.length_cons, List.length_replicate]; omega
  lenS := by unfold shpH sig; simp only [List.length_cons, List.length_replicate, List.length_append, List.length_map, List.length_nil]; omega
  slot := fun i sh h => by
    have : getV (List.replicate fn.ns (none : Option D)) i = none := by
      unfold getV
      rw [List.getElem?_replicate]
      split <;> rfl
    rw [this]
    cases sh <;> rfl
  out := fun _ _ => rfl
  dis := fun _ _ _ m => by cases m
  trk := fun a z => z.elim (t a) fun ⟨_, m⟩ => by cases m
  zo := fun _ _ _ m => by cases m
  sm := sm
  fix := fun p hp => by
    have : p = (0, .ref a, true) := by simpa using hp
    rw [this]
    unfold sig
    rw [getS_app]
    rfl
theorem fnX_spec (lk : K.lookup f = some ⟨oc, od, .func (PySem.W.fnOf name qual params body scope dV kV doc pm an cdv ct), osl⟩) (hcd : PySem.W.codeIn K cdv qual = true) (S : FnScope N [y] scope) (hf : Pr fi = some fn) (hN : N.length = fn.ns) (hns : 0 < fn.ns) (hhot : fn.hot = true) (hio : fn.io = false) (hfr : fn.fr = false)
    (read : ∀ (A : Around) (outer : List PySem.Env) (s : Shared) (H : Hp) (E : XK) (p : Addr × Obj) (cur : D), L2H.RoomH k (A.deeper (envOfC qual scope s.heap.objs.size f cdv)) → A.guards = some [] → HotX (L2H.cxH (L2N.CX P w) P w K mg base N qual scope f cdv A outer s H E p) (XD.at 0) cur → ∃ Γ', VSs (L2H.cxH (L2N.CX P w) P w K mg base N qual scope f cdv A outer s H E p) (XD.at 0) W0 (fun _ => True) false (shpH fn) body Γ' (fun ρ => evS (run Pr k) (runH Pr k) cur fn.body ρ)) :
    FnX P w K mg base (L2N.CX P w) (k + 1) f (PySem.W.fnOf name qual params body scope dV kV doc pm an cdv ct) [y] (HSp K XD (runH Pr (k + 1) fi)) := by
  refine fnX_of lk hcd S (fun p vs H Q E ⟨_, _, _, _, h, _⟩ => by rw [h]; rfl) fun A outer s H vs Q E p hot room free ⟨Z, cur, cls, dd, h1, h2, h3, h4, h5, h6⟩ => ?_
  subst h1
  obtain ⟨Γ', hv⟩ := read A outer s H E p cur room free fun a ha => by
    have e : some (Value.ref a) = some (Value.ref p.1) := ha.symm.trans hot.1
    cases e
    exact ⟨p.2, cls, dd, List.mem_singleton.mpr rfl, h2, h3, h4⟩
  refine ⟨_, hv.pss Z [(0, .ref p.1, true)] H (fun _ => []) (fun i z => ⟨p.1, hot.1, by cases z; exact List.mem_singleton.mpr rfl⟩), List.replicate fn.ns none, fun _ => [], ?_, ?_⟩
  · have e : L2.start N [V.ref p.1] = sig fn [V.ref p.1] := by unfold L2.start sig; rw [hN]
    rw [e]
    refine ⟨sr_hot h5.1 h5.2 hns, Keep.refl, fun a z => .inl z, fun _ z => z, fun q hq => ?_, fun _ _ => rfl⟩
    have : q = (0, .ref p.1, true) := by simpa using hq
    rw [this]
    rfl
  · have e : runH Pr (k + 1) fi cur = fn.endS (evS (run Pr k) (runH Pr k) cur fn.body (List.replicate fn.ns none)) := by
      show (match Pr fi with
        | some fn => if fn.hot = true then fn.endS (evS (run Pr k) (runH Pr k) cur fn.body (List.replicate fn.ns none)) else .stk
        | none => .stk) = _
      rw [hf]
      simp only [if_pos hhot]
    rw [e] at h6
    show (evS (run Pr k) (runH Pr k) cur fn.body (List.replicate fn.ns none)).Post _ _ _
    generalize evS (run Pr k) (runH Pr k) cur fn.body (List.replicate fn.ns none) = o at h6 ⊢
    have k0 : ∀ {H' : Hp}, Keep (OO fun _ => []) H H' → Keep none_ H H' := fun z => z.mono fun a ⟨_, m⟩ => by cases m
    have eo : ∀ ρ (g : D → FRes), Fn.endS.outS fn ρ g = g .none := fun ρ g => by unfold Fn.endS.outS; rw [if_neg (by rw [hio]; exact Bool.false_ne_true)]
    cases o with
    | stk => exact h6
    | next ρ' =>
      intro σ' H' O' S'
      have h6 : match (if fn.fr = true then FRes.stk else Fn.endS.outS fn ρ' (FRes.ret .none)) with | .ret d _ => _ | _ => False := h6
      rw [if_neg (by rw [hfr]; exact Bool.false_ne_true), eo] at h6
      exact (h6 : ∀ v H', _) .non H' (k0 S'.kb) .non
    | ret d ρ' =>
      intro v H' ⟨Γ2, σ', O', S', rv, _⟩
      have h6 : match Fn.endS.outS fn ρ' (FRes.ret d) with | .ret d _ => _ | _ => False := h6
      rw [eo] at h6
      exact (h6 : ∀ v H', _) v H' (k0 S'.kb) (rv.imp fun a z => .inl z)
    | exc x ρ' =>
      have h6 : match Fn.endS.outS fn ρ' (FRes.exc x) with | .ret d _ => _ | _ => False := h6
      rw [eo] at h6
      exact h6.elim
end
end BV
set_option Elab.async false
set_option linter.all false
set_option maxRecDepth 100000
set_option maxHeartbeats 4000000
/-! BVR: x[::-1] of lists, tuples, texts. -/
namespace BV
open PySem PySem.Spec L2
open PyProof.Rows hiding St
section
variable {prog : Program} {w : World} {A : Around} {E : Value → Shared → Prop} {s : Shared}
theorem applied_rev {sl : Addr} {vs : Value} {n : Nat} {Q : Int × Int × Nat → Shared → Prop} (hs : s.heap.IsSliceOf sl .none .none vs) (ps : IsPart vs (some (-1))) (h : Q ((n : Int) - 1, -1, n) s) :
    wpAny (model prog w) A (Builtin.Slice.sliceApplied (.ref sl) (pure (n : Int))) Q E s := by
  obtain ⟨os, hos, hcs, hds⟩ := id hs
  unfold Builtin.Slice.sliceApplied Builtin.Slice.sliceFields
  refine wpAny_bind (wpAny_bind (wpAny_field hos hds (x := .none) rfl (wpAny_bind (wpAny_field hos hds (x := .none) rfl (wpAny_bind (wpAny_field hos hds (x := vs) rfl (wpAny_pure ?_)))))))
  refine wpAny_bind (HT.slicePart_ ps ?_)
  show wpAny _ _ (if ((-1 : Int) == 0) = true then _ else _) _ _ s
  rw [if_neg (by decide)]
  refine wpAny_bind (slicePart_none (wpAny_bind (slicePart_none (wpAny_bind (wpAny_pure ?_)))))
  have e1 : Builtin.Slice.sliceAdjust none none (-1) (n : Int) = ((n : Int) - 1, -1) := rfl
  show wpAny _ _ (match Builtin.Slice.sliceAdjust none none (-1) (n : Int) with | (lo, hi) => pure (lo, (-1 : Int), Builtin.Slice.slicePlaces lo hi (-1))) _ _ s
  rw [e1]
  have e2 : Builtin.Slice.slicePlaces ((n : Int) - 1) (-1) (-1) = n := by
    unfold Builtin.Slice.slicePlaces
    rw [if_neg (by decide), show (-(-1) : Int) = 1 from rfl, Int.ediv_one]
    split <;> omega
  show wpAny _ _ (pure ((n : Int) - 1, (-1 : Int), Builtin.Slice.slicePlaces ((n : Int) - 1) (-1) (-1))) _ _ s
  rw [e2]
  exact wpAny_pure h
theorem range_rev {α : Type} (xs : Array α) : ((List.range xs.size).map fun k => xs.size - 1 - k).filterMap (xs[·]?) = xs.toList.reverse := by
  rw [PySem.W.krv_range, List.filterMap_reverse, PySem.W.krv_all]
theorem fm_congr {α β : Type} {f g : α → Option β} : ∀ l : List α, (∀ x ∈ l, f x = g x) → l.filterMap f = l.filterMap g
  | [], _ => rfl
  | x :: l, h => by rw [List.filterMap_cons, List.filterMap_cons, h x List.mem_cons_self, fm_congr l fun y hy => h y (List.mem_cons_of_mem _ hy)]
theorem pick_rev (xs : Array Value) : ((List.range xs.size).filterMap fun (m : Nat) => xs[((xs.size : Int) - 1 + (m : Int) * (-1)).toNat]?).toArray = xs.toList.reverse.toArray := by
  have e : ∀ m ∈ List.range xs.size, xs[((xs.size : Int) - 1 + (m : Int) * (-1)).toNat]? = xs[xs.size - 1 - m]? := by
    intro m hm
    have := List.mem_range.mp hm
    have : ((xs.size : Int) - 1 + (m : Int) * (-1)).toNat = xs.size - 1 - m := by omega
    rw [this]
  have e2 : (List.range xs.size).filterMap (fun (m : Nat) => xs[((xs.size : Int) - 1 + (m : Int) * (-1)).toNat]?) = (List.range xs.size).filterMap fun m => xs[xs.size - 1 - m]? := fm_congr _ e
  rw [e2, ← range_rev, List.filterMap_map]
  rfl
theorem tup_rev {t sl : Addr} {its : Array Value} {vs : Value} {Q : Value → Shared → Prop} (ht : IsTup s.heap t its) (hs : s.heap.IsSliceOf sl .none .none vs) (ps : IsPart vs (some (-1)))
    (h : Q (.ref s.heap.objs.size) { s with heap := s.heap.push { cls := .type "tuple", data := .seq its.toList.reverse.toArray } }) (hsz : its.size ≤ sizeLine) : wpAny (model prog w) A (getItem (.ref t) (.ref sl)) Q E s := by
  have hok : sizeOk (.seq its.toList.reverse.toArray) := by
    show its.toList.reverse.toArray.size ≤ sizeLine
    rw [List.size_toArray, List.length_reverse, Array.length_toList]
    exact hsz
  obtain ⟨os, hos, hcs, hds⟩ := id hs
  have hT : s.TypeIs (.ref sl) "slice" := ⟨os, hos, hcs⟩
  unfold getItem
  refine wpAny_holding ?_
  refine wpAny_bind (wpAny_sequenceKey ht.typeIs (by decide) ?_)
  refine wpAny_bind (wpAny_callSpecial?_slot (name := Str.ofString "__getitem__") ht.typeIs PyProof.Rows.slot_tuple_getitem
    (wpAny_call_entry PyProof.Rows.slot_tuple_getitem ht.typeIs PySem.F.entry_tuple_getitem ?_ (PyProof.Rows.args_tuple_getitem _ _)))
  show wpAny _ _ (Builtin.Tuple.tupleItemsOf (.ref t) >>= _) _ _ s
  refine wpAny_bind (PyProof.Rows.tupleItemsOf_ ht ?_)
  refine wpAny_bind (wpAny_typeOf hT ?_)
  rw [if_pos (by decide)]
  refine wpAny_bind (applied_rev hs ps ?_)
  have hno : ¬ ((((its.size : Int) - 1 == 0 && (-1 : Int) == 1 && its.size == its.size)) = true) := by
    rw [show ((-1 : Int) == 1) = false from rfl, Bool.and_false, Bool.false_and]
    exact Bool.false_ne_true
  show wpAny _ _ (if ((its.size : Int) - 1 == 0 && (-1 : Int) == 1 && its.size == its.size) = true then _ else _) _ _ s
  rw [if_neg hno, pick_rev]
  first
    | exact wpAny_bind (m := Builtin.Tuple.tupleExact _) (wpAny_newObj_type (wpAny_pure ⟨_, rfl, wpAny_pure h⟩) hok)
    | exact wpAny_bind (m := Builtin.Tuple.tupleExact _) (wpAny_newObj_type (wpAny_bind (wpAny_pure (wpAny_pure ⟨_, rfl, wpAny_pure h⟩))) hok)
    | exact wpAny_bind (wpAny_bind (m := Builtin.Tuple.tupleExact _) (wpAny_newObj_type (wpAny_pure (wpAny_pure ⟨_, rfl, wpAny_pure h⟩)) hok))
    | exact wpAny_bind (wpAny_bind (m := Builtin.Tuple.tupleExact _) (wpAny_newObj_type (wpAny_pure ⟨_, rfl, wpAny_pure h⟩) hok))
end
section
variable {X : Cx} {XD : XP} {W : WX} {Γ : List Sh} {a : Expr} {ma : Ev → Out D} {pos p1 p2 p3 : Pos} {ba bc fa qa : Bool} {kk : Nat}
def tRevD (K : PySem.W.Frag) (te : TE) : TE := fun σ H Q => te σ H fun x H1 => ∃ (N : Addr → Prop) (dx d : D), (∀ a, N a → H1 a ≠ none) ∧ RepT K N H1 x dx ∧ opRev dx = some d ∧ ∀ v H', Keep none_ H1 H' → Rep K N H' v d → Q v H'
theorem rev_strG {z : Str} (g : strG z) : strG ⟨z.cps.toList.reverse.toArray⟩ := by
  refine Bool.and_eq_true_iff.mpr ⟨?_, Nat.ble_eq_true_of_le ?_⟩
  · rw [ok_iff]
    intro c hc
    exact ok_iff.mp g.ok c (by simpa using hc)
  · have := g.len
    show (z.cps.toList.reverse.toArray).size ≤ LIM
    rw [List.size_toArray, List.length_reverse]
    exact this
theorem pe_revD {te : TE} (he : PE X a te) : PE X (.Subscript a (.Slice none none (some (.UnaryOp .USub (.Constant (.int 1) kk p1) p2)) p3) pos) (tRevD X.K te) := by
  refine ⟨fun pins s σ H Q I h => ?_⟩
  refine Subscript_ (thn (he.run pins s σ H _ I h) fun v s1 ⟨x, H1, I1, r1, q1⟩ => ?_)
  obtain ⟨N, dx, d, hN, r, e, q⟩ := q1
  have hst : PO X (some (.UnaryOp .USub (.Constant (.int 1) kk p1) p2)) (tPart (tUn (rU fun i => .int (-i)) (tC (.int 1)))) := po_some (pe_un un_neg pe_int)
  refine wpAny_Slice (thn (po_none.run pins s1 σ H1 (fun o H2 => o = none ∧ H2 = H1) I1 ⟨rfl, rfl⟩) fun vl s2 ⟨l, H2, I2, pl, el, e2⟩ => ?_)
  subst el e2
  refine thn (po_none.run pins s2 σ H2 (fun o H3 => o = none ∧ H3 = H2) I2 ⟨rfl, rfl⟩) fun vu s3 ⟨u, H3, I3, pu, eu, e3⟩ => ?_
  subst eu e3
  refine thn (hst.run pins s3 σ H3 (fun o H4 => o = some (-1) ∧ H4 = H3) I3 ⟨1, rfl, -1, rfl, rfl, rfl⟩) fun vs s4 ⟨o, H4, I4, ps, eo, e4⟩ => ?_
  subst eo e4
  have I5 : Inv X pins σ H4 { s4 with heap := s4.heap.push { cls := .type "slice", data := .fields #[vl, vu, vs] } } := I4.kept (t' := s4.toks) fun b ob q => Heap.get?_push_of_some _ q
  cases dx with
  | list ds =>
    obtain ⟨b, xs, rfl, h1, h2⟩ := r.list_inv
    cases e
    cases r1
    obtain ⟨its, rv, ht, hz⟩ := I5.list (.inl h1)
    have hlen := rv.length
    show wpAny (model X.prog X.w) X.A (subscriptTail a (.Slice none none (some (.UnaryOp .USub (.Constant (.int 1) kk p1) p2)) p3) (.ref b) (.ref s4.heap.objs.size)) (EP X pins σ Q) X.xe { s4 with heap := s4.heap.push { cls := .type "slice", data := .fields #[vl, vu, vs] } }
    refine tail_any (ops := [.ref b, .ref s4.heap.objs.size]) ht.isList.typeIs (PySem.slot_list_getitem.lookup) ?_ (by with_unfolding_all rfl)
    refine wpAny_getItem_list_slice ht.isList (Heap.IsSliceOf.new _ vl vu vs) pl pu ps (by decide) ?_ (by rw [List.size_toArray]; omega)
    rw [PySem.W.krv_pick]
    have hp := I5.hok.fresh (Nat.le_refl _)
    have kn : Keep none_ H4 (upd H4 _ (.lst xs.reverse)) := Keep.new hp
    refine ⟨.ref _, _, I5.laid (t' := s4.toks) (o := .lst xs.reverse) (fun b ob q => Heap.get?_push_of_some _ q) (Nat.le_refl _) ?_, rfl, q _ _ kn (.lst (.inl upd_same) (fun z => hN _ z hp) (h2.reverse.keep kn fun _ z => z.elim))⟩
    exact ⟨by rw [List.length_reverse]; exact hz, _, 0, rv.reverse, Heap.get?_push_size _ rfl⟩
  | tuple ds =>
    obtain ⟨b, xs, rfl, h1, _, h2⟩ := r.tup_inv
    cases e
    cases r1
    obtain ⟨its, rv, ht, hz⟩ := I5.tuple h1
    have hlen := rv.length
    cases pl
    cases pu
    show wpAny (model X.prog X.w) X.A (subscriptTail a (.Slice none none (some (.UnaryOp .USub (.Constant (.int 1) kk p1) p2)) p3) (.ref b) (.ref s4.heap.objs.size)) (EP X pins σ Q) X.xe { s4 with heap := s4.heap.push { cls := .type "slice", data := .fields #[.none, .none, vs] } }
    refine tail_any (ops := [.ref b, .ref s4.heap.objs.size]) ht.typeIs (PyProof.Rows.slot_tuple_getitem.lookup) ?_ (by with_unfolding_all rfl)
    refine tup_rev ht (Heap.IsSliceOf.new _ .none .none vs) ps ?_ (by rw [List.size_toArray]; omega)
    have hp := I5.hok.fresh (Nat.le_refl _)
    have kn : Keep none_ H4 (upd H4 _ (.tup xs.reverse)) := Keep.new hp
    refine ⟨.ref _, _, I5.laid (t' := s4.toks) (o := .tup xs.reverse) (fun b ob q => Heap.get?_push_of_some _ q) (Nat.le_refl _) ?_, rfl, q _ _ kn (.tup (.new upd_same (fun z => hN _ z hp)) (h2.reverse.keep kn fun _ z => z.elim))⟩
    exact ⟨by rw [List.length_reverse]; exact hz, _, rv.reverse, IsTup.new _ _⟩
  | str z =>
    obtain ⟨rfl, g⟩ := r.str_inv
    cases e
    obtain ⟨t, rfl⟩ := r1
    cases pl
    cases pu
    show wpAny (model X.prog X.w) X.A (subscriptTail a (.Slice none none (some (.UnaryOp .USub (.Constant (.int 1) kk p1) p2)) p3) (.str z t) (.ref s4.heap.objs.size)) (EP X pins σ Q) X.xe { s4 with heap := s4.heap.push { cls := .type "slice", data := .fields #[.none, .none, vs] } }
    refine tail_any (ops := [.str z t, .ref s4.heap.objs.size]) (typeIs_str _ _ _) (F.slot_str_getitem.lookup) ?_ (by with_unfolding_all rfl)
    obtain ⟨st, e2, e1⟩ := IsPart.raw ps
    obtain ⟨os, hos, hcs, hds⟩ := Heap.IsSliceOf.new s4.heap .none .none vs
    subst e2
    refine wpAny_getItem_str_slice (l := none) (u := none) (st := st) ⟨os, hos, hcs, hds⟩ (by rw [e1]; rfl) ?_
    have g' := rev_strG g
    have e3 : (slicePicked z none none st).filterMap (z.cps[·]?) = z.cps.toList.reverse := by
      have : slicePicked z none none st = (List.range z.cps.size).map fun k => z.cps.size - 1 - k := by
        unfold slicePicked
        rw [e1]
        exact PySem.W.krv_sliceRange z.cps.size
      rw [this, range_rev]
    unfold sliceMade
    rw [e1, e3]
    rw [if_neg (by
      show ¬ (((-1 : Int) == 1) && _) = true
      rw [show ((-1 : Int) == 1) = false from rfl, Bool.false_and]
      exact Bool.false_ne_true)]
    exact ⟨by rw [sizeLine_eq]; exact g'.len, .str _, H4, I5.tok _, ⟨_, rfl⟩, q _ H4 Keep.refl (.str _ g')⟩
  | _ => cases e
theorem ve_rev (ha : VE X XD W Γ a ba fa qa ma) : VE X XD W Γ (.Subscript a (.Slice none none (some (.UnaryOp .USub (.Constant (.int 1) kk p1) p2)) p3) pos) bc false qa (fun ρ => (ma ρ).bind fun x ρ => Out.lift (opRev x) ρ) := by
  refine ⟨fun Z fx O hx => PEimp (pe_revD (ha.pe Z fx O hx)) fun σ H Q h => ?_⟩
  obtain ⟨ρ, S, h⟩ := h
  dsimp only at h
  rw [Out.Post.bind] at h
  refine ⟨ρ, S, h.mono (fun d ρ1 h1 v H1 S1 k1 q1 r1 _ => ?_) fun _ _ z => z⟩
  cases e : opRev d with
  | none => rw [e] at h1; exact h1.elim
  | some r =>
    rw [e] at h1
    refine ⟨NN Z O, d, r, S1.trk, r1.toT, e, fun w H2 k2 r2 => h1 w H2 (S1.keep k2) (k1.trans k2.all) (fun z => (q1 z).trans k2) ?_ (fun z => nomatch z)⟩
    cases bc with
    | true => exact .rep r2
    | false => exact r2
end
end BV
namespace BV
open PySem PySem.Spec L2
open PyProof.Rows hiding St
section
variable {X : Cx} {XD : XP} {W : WX} {Γ : List Sh} {G : List Sh → Prop} {rs : Bool} {a b : Expr} {ma mb : Ev → Out D} {pos px py pt pt2 : Pos} {fa fb qa qb : Bool} {i j : Nat} {x y : Str}
theorem VA.any {es : List Expr} {ba q : Bool} {m : Ev → Out (List D)} (h : VA X XD W Γ es ba q m) (Z : Addr → Prop) (fx : List FX) (hx : HX X XD fx) : PA X es (fun σ H Q => ∃ O, tA X.K Z Γ fx O XD W ba q m σ H Q) :=
  ⟨fun pos pins s σ H Q I ⟨O, z⟩ => (h.pa Z fx O hx).run pos pins s σ H Q I z⟩
theorem par_sw {p q : Expr} {env : PySem.Env} {kt k2 : _} (hk : env.scope.kind = .function) (hx : env.scope.names.lookup x = some .local) (hy : env.scope.names.lookup y = some .local) (hl : (py.line == px.line) = true) (hd : ([x, y].eraseDups.length != [x, y].length) = false) (hs : ([p, q].any fun | .Starred .. => true | _ => false) = false)
    (h1 : [p, q].all (foldedForSure 8) = false) (h2 : [p, q].all (constantsAlone 8) = false) : swappedStores [.Tuple [.Name x px, .Name y py] kt pt] (.Tuple [p, q] k2 pt2) env = pure (some [x, y]) := by
  have hb : (env.blockKind != .function) = false := by
    unfold Env.blockKind
    rw [hk]
    rfl
  have k1 : (env.kindOf x == some .local) = true := by unfold Env.kindOf; rw [hx]; rfl
  have k3 : (env.kindOf y == some .local) = true := by unfold Env.kindOf; rw [hy]; rfl
  have hn : [Expr.Name x px, .Name y py].filterMap (fun
    | .Name id pos => if env.kindOf id == some .local && pos.line == (([Expr.Name x px, .Name y py].head?.map (·.pos.line)).getD 0) then some id else none
    | _ => none) = [x, y] := by
    have e1 : (px.line == px.line) = true := beq_self_eq_true _
    simp only [List.filterMap_cons, List.filterMap_nil, List.head?_cons, Option.map_some, Option.getD_some, Expr.pos, k1, k3, e1, hl, Bool.and_self, if_true]
  unfold swappedStores
  dsimp only
  refine (if_neg ?_).trans ((if_neg ?_).trans ((if_neg ?_).trans ((if_neg ?_).trans ((if_neg ?_).trans ?_))))
  · intro z
    rw [hb] at z
    cases z
  · exact fun z => Bool.noConfusion (hs.symm.trans z)
  · have e : ∀ l : List Str, l = [x, y] → ¬ ((l.length != 2 || l.eraseDups.length != l.length) = true) := fun l hl z => by
      subst hl
      rw [hd] at z
      exact absurd z (by simp)
    exact e _ hn
  · exact fun z => Bool.noConfusion (h1.symm.trans z)
  · exact fun z => Bool.noConfusion (h2.symm.trans z)
  · exact congrArg (fun l => pure (some l)) hn
theorem vs_par {kt k2 : _} (hc : X.calm = true) (hN : X.N.Nodup) (hi : X.N[i]? = some x) (hj : X.N[j]? = some y) (hij : i ≠ j) (hx' : X.env.scope.names.lookup x = some .local) (hy' : X.env.scope.names.lookup y = some .local)
    (ha : VE X XD W Γ a false fa qa ma) (hb : VE X XD W Γ b false fb qb mb) (hs : starEach [a, b] X.env = (false, eval a X.env) :: starEach [b] X.env) (hs2 : starEach [b] X.env = (false, eval b X.env) :: starEach [] X.env)
    (hw : swappedStores [.Tuple [.Name x px, .Name y py] kt pt] (.Tuple [a, b] k2 pt2) X.env = pure (some [x, y])) (fi : Γ[i]? = some .fz) (fj : Γ[j]? = some .fz) (hG : G Γ) :
    VS X XD W G rs Γ (.Assign [.Tuple [.Name x px, .Name y py] kt pt] (.Tuple [a, b] k2 pt2) pos) Γ (fun ρ => (ma ρ).toS fun u ρ => (mb ρ).toS fun v ρ => .next ((ρ.set i (some u)).set j (some v))) := ⟨fun Z fx B P hx => by
  have va := va_cons ha (va_cons hb va_nil (fun z => nomatch z) hs2) (fun z => nomatch z) hs
  refine PSimp (ps_par hc hN hi hj hij hx' hy' (va.any Z fx hx) hw) fun E σ H h => ?_
  obtain ⟨ρ, O, S, h⟩ := h
  rw [toS_Post] at h
  refine ⟨O, ρ, S.sr, ?_⟩
  rw [Out.Post.bind]
  refine h.mono (fun d ρ1 h1 => ?_) fun x ρ1 z cls d H1 S1 k1 => z cls d σ H1 O Γ hG (S.ex S1 k1)
  rw [toS_Post] at h1
  rw [Out.Post.bind, Out.Post.bind]
  refine h1.mono (fun d2 ρ2 h2 => ?_) fun x ρ1 z cls d H1 S1 k1 => z cls d σ H1 O Γ hG (S.ex S1 k1)
  intro vs H1 S1 k1 _ r1
  have hf : ∀ i, Γ[i]? = some .fz → ∀ p ∈ fx, p.1 ≠ i := fun i fi p hp z => by
    have h1 := fi
    rw [← z, S.fd p hp] at h1
    exact fsh_fz h1
  cases r1 with
  | cons r1 r2 =>
    cases r2 with
    | cons r2 r3 =>
      cases r3
      exact ⟨_, _, rfl, h2 _ H1 O ((S.ex S1 k1).ex ((S1.setFz fi r1 (hf i fi)).setFz fj r2 (hf j fj)) Keep.refl)⟩⟩
end
end BV
set_option Elab.async false
set_option linter.all false
set_option maxRecDepth 100000
set_option maxHeartbeats 4000000
/-! BV23: the checker of expressions. -/
namespace BV
open PySem PySem.Spec L2
open PyProof.Rows hiding St

/-- what the checker knows of a def, of a block -/
structure Ck where
  sc : Scope
  N : List Str
  own : Str → Bool
  calm : Bool
  hi : Option Nat
  glb : List (Str × D)
  fns : List (Str × Nat)
  rsd : List Str
  cls : List Str
  P : Nat → Option Fn
/-- a value's, a test's reading: fresh, quiet -/
structure R where
  v : Option (Bool × Bool)
  t : Option Bool
def gd {α : Type} (b : Bool) (x : Option α) : Option α := if b = true then x else none
theorem gd_some {α : Type} {b : Bool} {x : Option α} {a : α} (h : gd b x = some a) : b = true ∧ x = some a := by
  unfold gd at h
  by_cases e : b = true
  · rw [if_pos e] at h; exact ⟨e, h⟩
  · rw [if_neg e] at h; cases h
def ndb (x : Str) : Bool := !(x == ("__debug__" : Str)) && !(x == ("__classdict__" : Str))
def visB (sc : Scope) (x : Str) : Bool := match sc.names.lookup x with
  | some .local => true
  | some .cell => true
  | some .free => true
  | _ => false
def glB (sc : Scope) (x : Str) : Bool := match sc.names.lookup x with
  | some .globalImplicit => !(x == ("__debug__" : Str))
  | _ => false
def locB (C : Ck) (x : Str) : Bool := match C.sc.names.lookup x with
  | some .local => true
  | some .cell => C.own x
  | _ => false
def nameB (C : Ck) (i : Nat) (x : Str) : Bool := match C.N[i]? with
  | some y => decide (y = x)
  | none => false
def fzB (Γ : List Sh) (i : Nat) : Bool := match Γ[i]? with
  | some .fz => true
  | _ => false
def l1B (Γ : List Sh) (i : Nat) : Bool := match Γ[i]? with
  | some .l1 => true
  | _ => false
def dkB (Γ : List Sh) (i : Nat) : Bool := match Γ[i]? with
  | some .dk => true
  | _ => false
def varB (C : Ck) (i : Nat) (x : Str) : Bool := nameB C i x && visB C.sc x && ndb x
def plain (e : Expr) (v : Option (Bool × Bool)) : R := ⟨v, if plainT e = true then v.map (·.2) else none⟩
def cstB : D → Const → Bool
  | .none, .none => true
  | .bool b, .bool c => b == c
  | .int i, .int j => decide (i = j)
  | .str x, .str y => decide (x = y) && strB x
  | _, _ => false
/-- texts and tuples of texts -/
def eqG : D → D → Bool
  | .none, .none => true
  | .bool b, .bool c => b == c
  | .int i, .int j => decide (i = j)
  | .str x, .str y => decide (x = y)
  | .tuple xs, .tuple ys => go xs ys
  | _, _ => false
where go : List D → List D → Bool
  | [], [] => true
  | .str x :: xs, .str y :: ys => decide (x = y) && go xs ys
  | .int x :: xs, .int y :: ys => decide (x = y) && go xs ys
  | _, _ => false
theorem eqG_go : ∀ xs ys : List D, eqG.go xs ys = true → xs = ys
  | [], [], _ => rfl
  | [], _ :: _, h => by cases h
  | x :: xs, [], h => by cases x <;> cases h
  | x :: xs, y :: ys, h => by
    cases x <;> cases y <;> first | (cases h; done) | skip
    · obtain ⟨h1, h2⟩ := Bool.and_eq_true_iff.mp (show (decide _ && eqG.go xs ys) = true from h)
      rw [of_decide_eq_true h1, eqG_go xs ys h2]
    · obtain ⟨h1, h2⟩ := Bool.and_eq_true_iff.mp (show (decide _ && eqG.go xs ys) = true from h)
      rw [of_decide_eq_true h1, eqG_go xs ys h2]
theorem eqG_eq {x y : D} (h : eqG x y = true) : x = y := by
  cases x <;> cases y <;> first | (cases h; done) | skip
  · rfl
  · rw [eq_of_beq (show (_ == _) = true from h)]
  · rw [of_decide_eq_true (show decide _ = true from h)]
  · rw [of_decide_eq_true (show decide _ = true from h)]
  · rw [eqG_go _ _ h]
def glbB (C : Ck) (x : Str) (d : D) : Bool := C.glb.any fun p => decide (p.1 = x) && eqG p.2 d
def fnB (C : Ck) (x : Str) (f : Nat) : Bool := C.fns.any fun p => decide (p.1 = x) && decide (p.2 = f)
def Blt.nm : Blt → Str
  | .len => "len"
  | .tuple => "tuple"
  | .list => "list"
  | .repr => "repr"
  | .str => "str"
  | .int => "int"
  | .abs => "abs"
  | .max2 => "max"
  | .min2 => "min"
  | .sum => "sum"
  | .all => "all"
  | .any => "any"
  | _ => ""
def Blt.fr : Blt → Bool
  | .list => true
  | _ => false
/-- supported; some want that no exception is handled -/
def Blt.ok (calm : Bool) : Blt → Bool
  | .len => true
  | .tuple => true
  | .list => true
  | .repr => true
  | .str => true
  | .int => true
  | .abs => true
  | .max2 => calm
  | .min2 => calm
  | .sum => calm
  | .all => calm
  | .any => calm
  | _ => false
def Mth.ok : Mth → Bool
  | .join => true
  | .count => true
  | _ => false
def Ty.nm : Ty → Str
  | .int => "int"
  | .str => "str"
  | .bool => "bool"
  | .tuple => "tuple"
  | .list => "list"
  | .dict => "dict"
def notSet : Expr → Bool
  | .Set _ _ _ => false
  | _ => true
theorem fs_no {e : Expr} {env : PySem.Env} (h : notSet e = true) (x : Value) : foldedSetIterable e env x = pure x := by
  cases e <;> first | rfl | cases h
mutual
def tgB (C : Ck) (Γ : List Sh) : Tg → Expr → Bool
  | .s i, .Name x _ => nameB C i x && locB C x && fzB Γ i
  | .t ts, .Tuple es _ _ => C.calm && tgsB C Γ ts es
  | _, _ => false
def tgsB (C : Ck) (Γ : List Sh) : Tg → List Expr → Bool
  | .nil, [] => true
  | .cons a r, e :: es => plainG e && tgB C Γ a e && tgsB C Γ r es
  | _, _ => false
end
/-- the block of a comprehension -/
def Ck.inB (C : Ck) (scope : Scope) : Ck := { C with sc := relS scope C.sc, own := fun x => scope.names.lookup x == some .cell, hi := none }
def ownN (C : Ck) (own : List Nat) : List (Str × Nat) := own.map fun i => ((C.N[i]?).getD Str.empty, i)
/-- the deck's parts -/
def dkIdx (C : Ck) (Γ : List Sh) (bor : Bool) : IE → IE → Expr → Expr → Option (Bool × Bool)
  | .var j, .cst (.int n), .Name x _, .Constant (.int n') _ _ => gd (dkB Γ j && varB C j x && decide (n = n') && (bor || (decide (0 ≤ n) && !decide (n = 1)))) (some (false, true))
  | _, _, _, _ => none
def isYes : IE → Bool
  | .cst (.bool true) => true
  | _ => false
mutual
def ck (C : Ck) (Γ : List Sh) (bor : Bool) : IE → Expr → R
  | .var i, e => plain e (match e with
    | .Name x _ => gd (varB C i x) (if fzB Γ i = true then some (false, true) else if (bor && l1B Γ i) = true then some (false, true) else none)
    | _ => none)
  | .cst d, e => plain e (match e with
    | .Constant c _ _ => gd (cstB d c) (some (false, true))
    | _ => none)
  | .glb x d, e => plain e (match e with
    | .Name y _ => gd (decide (y = x) && glB C.sc x && glbB C x d) (some (false, true))
    | _ => none)
  | .tup es, e => plain e (match e with
    | .Tuple l _ _ => gd (Nat.ble l.length LIM) ((ckA C Γ false es l).map fun q => (false, q))
    | _ => none)
  | .lst es, e => plain e (match e with
    | .List l _ => gd (Nat.ble l.length LIM) ((ckA C Γ false es l).map fun q => (true, q))
    | _ => none)
  | .bin o a b, e => plain e (match e with
    | .BinOp x op y _ => gd (decide (op = o.ast)) ((ck C Γ true b y).v.bind fun rb => (ck C Γ rb.2 a x).v.bind fun ra => some (false, ra.2 && rb.2))
    | _ => none)
  | .neg a, e => plain e (match e with
    | .UnaryOp .USub x _ => (ck C Γ true a x).v.bind fun ra => some (false, ra.2)
    | _ => none)
  | .cmp o a b, e => (match e with
    | .Compare x [op] [y] _ =>
      let r := gd (decide (op = o.ast) && !behindInMarks op y) ((ck C Γ true b y).v.bind fun rb => (ck C Γ rb.2 a x).v.bind fun ra => some (false, ra.2 && rb.2))
      ⟨r, r.map (·.2)⟩
    | _ => ⟨none, none⟩)
  | .cmp3 o p a b c, e => (match e with
    | .Compare x [op, op'] [y, z] _ =>
      let r := gd (decide (op = o.ast) && decide (op' = p.ast) && !lastMarks [op, op'] [y, z]) ((ck C Γ false a x).v.bind fun ra => (ck C Γ false b y).v.bind fun rb => (ck C Γ false c z).v.bind fun rc => some (false, ra.2 && (rb.2 && rc.2)))
      ⟨r, r.map (·.2)⟩
    | _ => ⟨none, none⟩)
  | .and es, e => (match e with
    | .BoolOp .And l _ => ⟨(ckL C Γ es l).v, (ckL C Γ es l).t⟩
    | _ => ⟨none, none⟩)
  | .or es, e => (match e with
    | .BoolOp .Or l _ => ⟨(ckL C Γ es l).v, (ckL C Γ es l).t⟩
    | _ => ⟨none, none⟩)
  | .not a, e => (match e with
    | .UnaryOp .Not x _ => ⟨(ck C Γ true a x).v.bind fun ra => some (false, ra.2), (ck C Γ true a x).t⟩
    | _ => ⟨none, none⟩)
  | .ife c a b, e => (match e with
    | .IfExp z x y _ => ⟨(ck C Γ true c z).t.bind fun qc => (ck C Γ bor a x).v.bind fun ra => (ck C Γ bor b y).v.bind fun rb => some (ra.1 && rb.1, qc && (ra.2 && rb.2)), none⟩
    | _ => ⟨none, none⟩)
  | .idx a i, e => plain e (match e with
    | .Subscript x y _ => (match dkIdx C Γ bor a i x y with
      | some r => some r
      | none => gd (plainIxB y) ((ck C Γ true i y).v.bind fun rb => (ck C Γ rb.2 a x).v.bind fun ra => some (false, ra.2 && rb.2)))
    | _ => none)
  | .slc a lo hi, e => plain e (match e with
    | .Subscript x (.Slice l h none _) _ => (match l with
        | none => gd (isNop lo) (some true)
        | some y => gd (!isNop lo) (Option.map Prod.snd (ck C Γ true lo y).v)).bind fun ql => (match h with
          | none => gd (isNop hi) (some true)
          | some y => gd (!isNop hi) (Option.map Prod.snd (ck C Γ true hi y).v)).bind fun qh => (ck C Γ (ql && qh) a x).v.bind fun ra => some (false, ra.2 && (ql && qh))
    | _ => none)
  | .blt b es, e => plain e (match e with
    | .Call (.Name x _) (y :: l) [] _ => gd (decide (x = b.nm) && b.ok C.calm && glB C.sc x) ((match ckA C Γ true es (y :: l) with
        | some q => some q
        | none => ckA C Γ false es (y :: l)).map fun q => (b.fr, q))
    | _ => none)
  | .mth m o es, e => plain e (match e with
    | .Call (.Attribute x n ap) (y :: l) [] p => gd (m.ok && decide (n = m.name) && plainO x && (ap.endLine == p.line) && Nat.ble (l.length + 2) 30) ((ckA C Γ true es (y :: l)).bind fun qb => (ck C Γ qb o x).v.bind fun ra => some (false, ra.2 && qb))
    | _ => none)
  | .isi a ts, e => plain e (match e with
    | .Call (.Name f _) [x, .Name T _] [] _ => (match ts with
      | [t] => gd (decide (f = ("isinstance" : Str)) && glB C.sc f && decide (T = t.nm) && glB C.sc T && noStar x) ((ck C Γ true a x).v.bind fun ra => some (false, ra.2))
      | _ => none)
    | _ => none)
  | .isx c, e => plain e (match e with
    | .Call (.Name f _) [.Name y _, .Name T _] [] _ => (match C.hi with
      | some i => gd (decide (f = ("isinstance" : Str)) && glB C.sc f && decide (T = c) && glB C.sc T && varB C i y && (C.cls.any (fun z => decide (z = T)) || decide (T = ("ValueError" : Str)))) (some (false, true))
      | none => none)
    | _ => none)
  | .call f es, e => plain e (match e with
    | .Call (.Name x _) (y :: l) [] _ => gd (C.calm && fnB C x f && glB C.sc x) (match C.P f with
      | some fn => gd (!fn.hot && !fn.io && !fn.dk) ((ckA C Γ false es (y :: l)).map fun q => (fn.fr, q))
      | none => none)
    | _ => none)
  | .calld f i es, e => plain e (match e with
    | .Call (.Name x _) (.Name y _ :: l) [] _ => gd (C.calm && fnB C x f && glB C.sc x && dkB Γ i && varB C i y) (match C.P f with
      | some fn => gd (!fn.hot && fn.io && !fn.dk) ((ckA C Γ false es l).map fun _ => (fn.fr, false))
      | none => none)
    | _ => none)
  | .hot f, e => plain e (match e with
    | .Call (.Name x _) [.Name y _] [] _ => (match C.hi with
      | some i => gd (!C.calm && fnB C x f && glB C.sc x && varB C i y) (match C.P f with
        | some fn => gd fn.hot (some (false, true))
        | none => none)
      | none => none)
    | _ => none)
  | .rev a, e => plain e (match e with
    | .Subscript x (.Slice none none (some (.UnaryOp .USub (.Constant (.int 1) _ _) _)) _) _ => (ck C Γ true a x).v.bind fun ra => some (false, ra.2)
    | _ => none)
  | .dct, e => plain e (match e with
    | .Dict [] [] _ => some (false, true)
    | _ => none)
  | .bad, e => (match e with
    | .ListComp _ _ _ _ => ⟨none, none⟩
    | _ => ⟨some (true, true), some true⟩)
  | .lc own t it c z, e => plain e (match e with
    | .ListComp elt [⟨tg, iter, ifs, 0⟩] scope _ =>
      gd (C.calm && blkC C.N C.sc scope (ownN C own) && own.all (fzB Γ) && t.slots.all (fun i => own.contains i) && notSet iter && tgB (C.inB scope) Γ t tg)
        ((match ckR C Γ it iter with
          | some q => some (false, q)
          | none => (match (ck C Γ false it iter).v with
            | some r => some (false, r.2)
            | none => Option.map (fun r => (true, Prod.snd r)) (ck C Γ true it iter).v)).bind fun (ri : Bool × Bool) =>
          (match ifs with
            | [] => gd (isYes c) (some true)
            | [y] => (ck (C.inB scope) Γ true c y).t
            | _ => none).bind fun qc => (ck (C.inB scope) Γ false z elt).v.bind fun re => gd (!ri.1 || (qc && re.2)) (some (true, ri.2 && (qc && re.2))))
    | _ => none)
  | _, _ => ⟨none, none⟩
def ckA (C : Ck) (Γ : List Sh) (bor : Bool) : IE → List Expr → Option Bool
  | .enil, [] => some true
  | .econs a r, x :: xs => gd (noStar x) ((ckA C Γ bor r xs).bind fun qb => gd (!bor || qb) ((ck C Γ bor a x).v.bind fun ra => some (ra.2 && qb)))
  | _, _ => none
def ckL (C : Ck) (Γ : List Sh) : IE → List Expr → R
  | .econs a .enil, [x] => ⟨(ck C Γ false a x).v, (ck C Γ true a x).t⟩
  | .econs a (.econs b r), x :: y :: l => ⟨(ck C Γ false a x).v.bind fun ra => (ckL C Γ (.econs b r) (y :: l)).v.bind fun rb => some (false, ra.2 && rb.2), (ck C Γ true a x).t.bind fun qa => (ckL C Γ (.econs b r) (y :: l)).t.bind fun qb => some (qa && qb)⟩
  | _, _ => ⟨none, none⟩
/-- a range that is walked -/
def ckR (C : Ck) (Γ : List Sh) : IE → Expr → Option Bool
  | .rng es, e => (match e with
    | .Call (.Name x _) [y] [] _ => gd (decide (x = ("range" : Str)) && glB C.sc x) (ckA C Γ true es [y])
    | .Call (.Name x _) [y, z] [] _ => gd (decide (x = ("range" : Str)) && glB C.sc x) (ckA C Γ true es [y, z])
    | _ => none)
  | _, _ => none
end
end BV
set_option Elab.async false
set_option linter.all false
set_option maxRecDepth 100000
set_option maxHeartbeats 4000000
/-! BV24: the checker is right: expressions. -/
namespace BV
open PySem PySem.Spec L2
open PyProof.Rows hiding St

/-- names that the module leaves alone -/
def bltNames : List Str := ["isinstance", "range", "len", "tuple", "list", "sorted", "repr", "str", "int", "abs", "max", "min", "sum", "all", "any", "bool", "dict", "enumerate", "zip", "ValueError", "set"]
/-- a hot callee -/
def HotCallee (X : Cx) (XD : XP) (x : Str) (k : Nat) (r : D → FRes) : Prop := ∃ (f : Addr) (fd : FuncData) (y : Str), FnX X.prog X.w X.K X.mg X.base (L2N.CX X.prog X.w) k f fd [y] (HSp X.K XD r) ∧ X.mg x = some (.ref f) ∧ PySem.W.keepIn X.K (.ref f) = true ∧ Binds X.K fd [y] []
/-- what is left of a new deck -/
def DkNew (K : PySem.W.Frag) (N : Addr → Prop) (H H' : Hp) (v : V) (d : D) : Prop := ∃ a b x xs ys d0 ds es, v = .ref a ∧ d = .list (d0 :: .list es :: ds) ∧ a ≠ b ∧ H a = none ∧ H b = none ∧ H' a = some (.lst (x :: .ref b :: xs)) ∧ H' b = some (.lst ys) ∧
  Rep K (fun c => N c ∨ c = a ∨ c = b) H' x d0 ∧ RepA K (fun c => N c ∨ c = a ∨ c = b) H' xs ds ∧ RepA K (fun c => N c ∨ c = a ∨ c = b) H' ys es
def DSp (K : PySem.W.Frag) (r : List D → FRes) : Sp := fun vs H Q E => ∃ Z v d, vs = [v] ∧ ((∀ a, Z a → H a ≠ none) ∧ Z sysModules) ∧ Rep K Z H v d ∧ match r [d] with
  | .ret d' _ => ∀ v' H', Keep none_ H H' → DkNew K Z H H' v' d' → Q v' H'
  | _ => False
def DkCallee (X : Cx) (x : Str) (k : Nat) (r : List D → FRes) : Prop := ∃ (f : Addr) (fd : FuncData) (y : Str), FnG X.prog X.w X.K X.mg X.base (L2N.CX X.prog X.w) k f fd [y] (DSp X.K r) ∧ X.mg x = some (.ref f) ∧ PySem.W.keepIn X.K (.ref f) = true ∧ Binds X.K fd [y] []
structure EC (k : Nat) (C : Ck) (X : Cx) (XD : XP) (W : WX) (cur : D) : Prop where
  sc : X.env.scope = C.sc
  kind : C.sc.kind = .function
  N : X.N = C.N
  nd : C.N.Nodup
  own : ∀ x, C.own x = true → X.fn x = true
  calm : C.calm = true → X.calm = true ∧ RoomG k X.A
  room : L2H.RoomH k X.A
  free : X.A.guards = some []
  blt : ∀ x ∈ bltNames, X.mg x = none
  glb : ∀ p ∈ C.glb, ∃ u, X.mg p.1 = some u ∧ KRep X.K u p.2
  fns : ∀ p ∈ C.fns, ∀ fn, C.P p.2 = some fn → fn.hot = false → fn.dk = false → Callee X XD p.1 k fn (run C.P k p.2)
  dks : ∀ p ∈ C.fns, ∀ fn, C.P p.2 = some fn → fn.dk = true → DkCallee X p.1 k (run C.P k p.2)
  hots : ∀ p ∈ C.fns, ∀ fn, C.P p.2 = some fn → fn.hot = true → HotCallee X XD p.1 k (runH C.P k p.2)
  xt : XTab X.K X.mg C.rsd C.cls
  xd : XD.xd = XD1 X.mg C.rsd
  hi : XD.hi = C.hi
  tk : L2N.Takes X W
  hcur : C.hi ≠ none → HotX X XD cur
theorem takes_W0 {X : Cx} : L2N.Takes X W0 := fun _ _ ⟨_, _, _, _, _, _, _, _, _, _, _, _, _, _, _, _, w⟩ => w.elim
section
variable {k : Nat} {C : Ck} {X : Cx} {XD : XP} {W : WX} {cur : D}
theorem EC.units (h : EC k C X XD W cur) : X.A.units + 70 < cLine := by have := h.room.un; omega
theorem EC.name (h : EC k C X XD W cur) {i : Nat} {x : Str} (e : nameB C i x = true) : X.N[i]? = some x := by
  rw [h.N]
  unfold nameB at e
  split at e
  · rename_i y q
    rw [q, of_decide_eq_true e]
  · cases e
theorem EC.vis (h : EC k C X XD W cur) {x : Str} (e : visB C.sc x = true) : Vis X.env.scope x := by
  rw [h.sc]
  unfold visB at e
  split at e
  · exact .inl (by assumption)
  · exact .inr (.inl (by assumption))
  · exact .inr (.inr (by assumption))
  · cases e
theorem ndb_1 {x : Str} (e : ndb x = true) : (x == ("__debug__" : Str)) = false ∧ (x == ("__classdict__" : Str)) = false := by
  unfold ndb at e
  obtain ⟨h1, h2⟩ := Bool.and_eq_true_iff.mp e
  exact ⟨by simpa using h1, by simpa using h2⟩
theorem EC.gl (h : EC k C X XD W cur) {x : Str} (e : glB C.sc x = true) : Gl X x ∧ (x == ("__debug__" : Str)) = false := by
  unfold glB at e
  split at e
  · rename_i q
    refine ⟨?_, by simpa using e⟩
    show X.env.scope.names.lookup x = _
    rw [h.sc]
    exact q
  · cases e
theorem EC.loc (h : EC k C X XD W cur) {x : Str} (e : locB C x = true) : Loc X.env.scope x ∧ (X.fn x = true ∨ X.env.scope.names.lookup x = some .local) := by
  rw [h.sc]
  unfold locB at e
  split at e
  · rename_i q; exact ⟨.inl q, .inr q⟩
  · rename_i q; exact ⟨.inr q, .inl (h.own x e)⟩
  · cases e
theorem varB_1 {i : Nat} {x : Str} (e : varB C i x = true) : nameB C i x = true ∧ visB C.sc x = true ∧ ndb x = true := by
  obtain ⟨h1, h2⟩ := Bool.and_eq_true_iff.mp (show ((nameB C i x && visB C.sc x) && ndb x) = true from e)
  obtain ⟨h3, h4⟩ := Bool.and_eq_true_iff.mp h1
  exact ⟨h3, h4, h2⟩
theorem fz_of {Γ : List Sh} {i : Nat} (h : fzB Γ i = true) : Γ[i]? = some .fz := by
  unfold fzB at h
  split at h
  · assumption
  · cases h
theorem l1_of {Γ : List Sh} {i : Nat} (h : l1B Γ i = true) : Γ[i]? = some .l1 := by
  unfold l1B at h
  split at h
  · assumption
  · cases h
theorem dk_of {Γ : List Sh} {i : Nat} (h : dkB Γ i = true) : Γ[i]? = some .dk := by
  unfold dkB at h
  split at h
  · assumption
  · cases h
theorem fnB_1 {x : Str} {f : Nat} (h : fnB C x f = true) : (x, f) ∈ C.fns := by
  unfold fnB at h
  obtain ⟨p, hp, e⟩ := List.any_eq_true.mp h
  obtain ⟨h1, h2⟩ := Bool.and_eq_true_iff.mp e
  have e1 := of_decide_eq_true h1
  have e2 := of_decide_eq_true h2
  rw [← e1, ← e2]
  exact hp
theorem glbB_1 {x : Str} {d : D} (h : glbB C x d = true) : (x, d) ∈ C.glb := by
  unfold glbB at h
  obtain ⟨p, hp, e⟩ := List.any_eq_true.mp h
  obtain ⟨h1, h2⟩ := Bool.and_eq_true_iff.mp e
  have e1 := of_decide_eq_true h1
  have e2 := eqG_eq h2
  rw [← e1, ← e2]
  exact hp
mutual
theorem tg_ok (h : EC k C X XD W cur) {Γ : List Sh} : ∀ (t : Tg) (e : Expr), tgB C Γ t e = true → VG X Γ e t ∧ plainG e = true
  | .s i, .Name x p, e => by
    obtain ⟨h1, h2⟩ := Bool.and_eq_true_iff.mp (show ((nameB C i x && locB C x) && fzB Γ i) = true from e)
    obtain ⟨h3, h4⟩ := Bool.and_eq_true_iff.mp h1
    obtain ⟨h5, h6⟩ := h.loc h4
    exact ⟨vg_name (by rw [h.N]; exact h.nd) (h.name h3) h5 h6 (fz_of h2), rfl⟩
  | .t ts, .Tuple es kk p, e => by
    obtain ⟨h1, h2⟩ := Bool.and_eq_true_iff.mp (show (C.calm && tgsB C Γ ts es) = true from e)
    obtain ⟨h3, h4, h5⟩ := tgs_ok h ts es h2
    exact ⟨vg_tup (h.calm h1).1 h3 h4 h5, rfl⟩
  | .s _, .Tuple _ _ _, e => by cases e
  | .t _, .Name _ _, e => by cases e
  | .nil, x, e => by cases x <;> cases e
  | .cons _ _, x, e => by cases x <;> cases e
  | .s _, .BoolOp _ _ _, e => by cases e
  | .s _, .NamedExpr _ _ _, e => by cases e
  | .s _, .BinOp _ _ _ _, e => by cases e
  | .s _, .UnaryOp _ _ _, e => by cases e
  | .s _, .Lambda _ _ _ _, e => by cases e
  | .s _, .IfExp _ _ _ _, e => by cases e
  | .s _, .Dict _ _ _, e => by cases e
  | .s _, .Set _ _ _, e => by cases e
  | .s _, .ListComp _ _ _ _, e => by cases e
  | .s _, .SetComp _ _ _ _, e => by cases e
  | .s _, .DictComp _ _ _ _ _, e => by cases e
  | .s _, .GeneratorExp _ _ _ _, e => by cases e
  | .s _, .Await _ _, e => by cases e
  | .s _, .Yield _ _, e => by cases e
  | .s _, .YieldFrom _ _, e => by cases e
  | .s _, .Compare _ _ _ _, e => by cases e
  | .s _, .Call _ _ _ _, e => by cases e
  | .s _, .FormattedValue _ _ _ _, e => by cases e
  | .s _, .JoinedStr _ _, e => by cases e
  | .s _, .Constant _ _ _, e => by cases e
  | .s _, .Attribute _ _ _, e => by cases e
  | .s _, .Subscript _ _ _, e => by cases e
  | .s _, .Starred _ _, e => by cases e
  | .s _, .List _ _, e => by cases e
  | .s _, .Slice _ _ _ _, e => by cases e
  | .t _, .BoolOp _ _ _, e => by cases e
  | .t _, .NamedExpr _ _ _, e => by cases e
  | .t _, .BinOp _ _ _ _, e => by cases e
  | .t _, .UnaryOp _ _ _, e => by cases e
  | .t _, .Lambda _ _ _ _, e => by cases e
  | .t _, .IfExp _ _ _ _, e => by cases e
  | .t _, .Dict _ _ _, e => by cases e
  | .t _, .Set _ _ _, e => by cases e
  | .t _, .ListComp _ _ _ _, e => by cases e
  | .t _, .SetComp _ _ _ _, e => by cases e
  | .t _, .DictComp _ _ _ _ _, e => by cases e
  | .t _, .GeneratorExp _ _ _ _, e => by cases e
  | .t _, .Await _ _, e => by cases e
  | .t _, .Yield _ _, e => by cases e
  | .t _, .YieldFrom _ _, e => by cases e
  | .t _, .Compare _ _ _ _, e => by cases e
  | .t _, .Call _ _ _ _, e => by cases e
  | .t _, .FormattedValue _ _ _ _, e => by cases e
  | .t _, .JoinedStr _ _, e => by cases e
  | .t _, .Constant _ _ _, e => by cases e
  | .t _, .Attribute _ _ _, e => by cases e
  | .t _, .Subscript _ _ _, e => by cases e
  | .t _, .Starred _ _, e => by cases e
  | .t _, .List _ _, e => by cases e
  | .t _, .Slice _ _ _ _, e => by cases e
theorem tgs_ok (h : EC k C X XD W cur) {Γ : List Sh} : ∀ (ts : Tg) (es : List Expr), tgsB C Γ ts es = true → VGs X Γ es ts ∧ es.all plainG = true ∧ es.length = ts.len
  | .nil, [], _ => ⟨vgs_nil, rfl, rfl⟩
  | .cons a r, e :: es, q => by
    obtain ⟨h1, h2⟩ := Bool.and_eq_true_iff.mp (show ((plainG e && tgB C Γ a e) && tgsB C Γ r es) = true from q)
    obtain ⟨h3, h4⟩ := Bool.and_eq_true_iff.mp h1
    obtain ⟨h5, h6, h7⟩ := tgs_ok h r es h2
    refine ⟨vgs_cons (tg_ok h a e h4).1 h5 h3, ?_, ?_⟩
    · show (plainG e && es.all plainG) = true
      rw [h3, h6] <;> rfl
    · show es.length + 1 = r.len + 1
      rw [h7]
  | .nil, _ :: _, e => by cases e
  | .cons _ _, [], e => by cases e
  | .s _, x, e => by cases x <;> cases e
  | .t _, x, e => by cases x <;> cases e
end
/-- in a block -/
theorem EC.inB (h : EC k C X XD W cur) (hc : C.calm = true) (scope : Scope) (hk : scope.kind = .function) (s : Shared) (H : Hp) (c : Addr) (cl : List (Str × Addr)) (fp : List Addr) : EC k (C.inB scope) (X.blk s H scope (compEnvC scope cl c X.env) fp) XD.blk W0 cur where
  sc := by
    show relS scope X.env.scope = relS scope C.sc
    rw [h.sc]
  kind := hk
  N := h.N
  nd := h.nd
  own := fun x e => e
  calm := fun _ => h.calm hc
  room := h.room
  free := h.free
  blt := h.blt
  glb := h.glb
  fns := fun p hp fn e hh hd => by
    have c := h.fns p hp fn e hh hd
    exact ⟨c.ex, c.len, c.ns, c.dbg⟩
  dks := h.dks
  hots := h.hots
  xt := h.xt
  xd := h.xd
  hi := rfl
  tk := takes_W0
  hcur := fun z => absurd rfl z
end
end BV
set_option Elab.async false
set_option linter.all false
set_option maxRecDepth 100000
set_option maxHeartbeats 8000000
/-! BV25: the checker is right: expressions, by induction. -/
namespace BV
open PySem PySem.Spec L2
open PyProof.Rows hiding St
section
variable {k : Nat} {C : Ck} {X : Cx} {XD : XP} {W : WX} {cur : D} {Γ : List Sh} {bor : Bool} {e : Expr}
/-- the claim for an expression -/
abbrev OkE (k : Nat) (C : Ck) (X : Cx) (XD : XP) (W : WX) (cur : D) (Γ : List Sh) (bor : Bool) (ie : IE) (e : Expr) (r : R) : Prop :=
  (∀ fr q, r.v = some (fr, q) → VE X XD W Γ e bor fr q (evE (run C.P k) (runH C.P k) cur ie)) ∧ ∀ q, r.t = some q → VT X XD W Γ e q (evE (run C.P k) (runH C.P k) cur ie)
theorem plain_ok {v : Option (Bool × Bool)} {m : Ev → Out D} (h : ∀ fr q, v = some (fr, q) → VE X XD W Γ e bor fr q m) : (∀ fr q, (plain e v).v = some (fr, q) → VE X XD W Γ e bor fr q m) ∧ ∀ q, (plain e v).t = some q → VT X XD W Γ e q m := by
  refine ⟨h, fun q hq => ?_⟩
  unfold plain at hq
  dsimp only at hq
  by_cases hp : plainT e = true
  · rw [if_pos hp] at hq
    obtain ⟨⟨fr, q'⟩, h1, rfl⟩ := Option.map_eq_some_iff.mp hq
    exact vt_of (h fr _ h1) hp
  · rw [if_neg hp] at hq; cases hq
theorem none_ok {m : Ev → Out D} : (∀ fr q, ((⟨none, none⟩ : R)).v = some (fr, q) → VE X XD W Γ e bor fr q m) ∧ ∀ q, ((⟨none, none⟩ : R)).t = some q → VT X XD W Γ e q m := And.intro (fun _ _ z => nomatch z) (fun _ z => nomatch z)
theorem cst_ok {d : D} {c : Const} {j : Nat} {p : Pos} (h : cstB d c = true) : VE X XD W Γ (.Constant c j p) bor false true (fun ρ => .ok d ρ) := by
  cases d <;> cases c <;> first | (cases h; done) | skip
  · exact ve_cst pe_non fun _ _ => .non
  · rw [eq_of_beq (show (_ == _) = true from h)]; exact ve_cst pe_bl fun _ _ => .bl _
  · rw [of_decide_eq_true (show decide _ = true from h)]; exact ve_cst pe_int fun _ _ => .int _
  · obtain ⟨h1, h2⟩ := Bool.and_eq_true_iff.mp (show (decide _ && strB _) = true from h)
    have e1 := of_decide_eq_true h1
    subst e1
    exact ve_cst pe_str fun _ _ => .str _ h2
theorem ve_bad {fr q : Bool} : VE X XD W Γ e bor fr q (fun _ => .stk) := ⟨fun Z fx O hx => ⟨fun pins s σ H Q I h => by
  obtain ⟨ρ, S, h⟩ := h
  exact h.elim⟩⟩
theorem vt_bad {q : Bool} : VT X XD W Γ e q (fun _ => .stk) := ⟨fun Z fx O hx => ⟨fun pins s σ H Q I h => by
  obtain ⟨ρ, S, h⟩ := h
  exact h.elim⟩⟩
theorem ve_dct {p : Pos} : VE X XD W Γ (.Dict [] [] p) bor false true (fun ρ => .ok (.dict []) ρ) := by
  refine ⟨fun Z fx O hx => PEimp pe_dnewK fun σ H Q h => ?_⟩
  obtain ⟨ρ, S, h⟩ := h
  dsimp only at h
  intro a ha
  have kn : Keep none_ H (upd H a (.dK [])) := Keep.new ha
  have r : Rep X.K (NN Z O) (upd H a (.dK [])) (.ref a) (.dict []) := .dct upd_same (S.fresh ha)
  refine h _ _ (S.keep kn) kn.all (fun _ => kn) ?_ (fun z => nomatch z)
  cases bor with
  | true => exact .rep r
  | false => exact r
theorem evA_len {call : Nat → List D → FRes} {hcall : Nat → D → FRes} {cur : D} : ∀ {es : IE} {ρ ρ' : Ev} {ds : List D} {l : List Expr} {C : Ck} {Γ : List Sh} {b : Bool} {q : Bool}, ckA C Γ b es l = some q → evA call hcall cur es ρ = .ok ds ρ' → ds.length = l.length
  | .enil, ρ, ρ', ds, [], C, Γ, b, q, _, h => by cases h; rfl
  | .econs a r, ρ, ρ', ds, x :: xs, C, Γ, b, q, hc, h => by
    obtain ⟨_, h2⟩ := gd_some (show gd (noStar x) ((ckA C Γ b r xs).bind fun qb => gd (!b || qb) ((ck C Γ b a x).v.bind fun ra => some (ra.2 && qb))) = some q from hc)
    obtain ⟨qb, h3, _⟩ := Option.bind_eq_some_iff.mp h2
    have h : ((evE call hcall cur a ρ).bind fun x ρ => (evA call hcall cur r ρ).bind fun xs ρ => .ok (x :: xs) ρ) = .ok ds ρ' := h
    cases e1 : evE call hcall cur a ρ with
    | stk => rw [e1] at h; cases h
    | exc x ρ1 => rw [e1] at h; cases h
    | ok y ρ1 =>
      rw [e1] at h
      have h : ((evA call hcall cur r ρ1).bind fun xs ρ => .ok (y :: xs) ρ) = .ok ds ρ' := h
      cases e2 : evA call hcall cur r ρ1 with
      | stk => rw [e2] at h; cases h
      | exc x ρ2 => rw [e2] at h; cases h
      | ok ys ρ2 =>
        rw [e2] at h
        cases h
        have := evA_len h3 e2
        simp only [List.length_cons, this]
  | .enil, _, _, _, _ :: _, _, _, _, _, hc, _ => by cases hc
  | .econs _ _, _, _, _, [], _, _, _, _, hc, _ => by cases hc
  | .var _, _, _, _, _, _, _, _, _, _, h => by cases h
  | .cst _, _, _, _, _, _, _, _, _, _, h => by cases h
  | .glb _ _, _, _, _, _, _, _, _, _, _, h => by cases h
  | .tup _, _, _, _, _, _, _, _, _, _, h => by cases h
  | .lst _, _, _, _, _, _, _, _, _, _, h => by cases h
  | .bin _ _ _, _, _, _, _, _, _, _, _, _, h => by cases h
  | .neg _, _, _, _, _, _, _, _, _, _, h => by cases h
  | .cmp _ _ _, _, _, _, _, _, _, _, _, _, h => by cases h
  | .cmp3 _ _ _ _ _, _, _, _, _, _, _, _, _, _, h => by cases h
  | .and _, _, _, _, _, _, _, _, _, _, h => by cases h
  | .or _, _, _, _, _, _, _, _, _, _, h => by cases h
  | .not _, _, _, _, _, _, _, _, _, _, h => by cases h
  | .ife _ _ _, _, _, _, _, _, _, _, _, _, h => by cases h
  | .idx _ _, _, _, _, _, _, _, _, _, _, h => by cases h
  | .slc _ _ _, _, _, _, _, _, _, _, _, _, h => by cases h
  | .rev _, _, _, _, _, _, _, _, _, _, h => by cases h
  | .nop, _, _, _, _, _, _, _, _, _, h => by cases h
  | .blt _ _, _, _, _, _, _, _, _, _, _, h => by cases h
  | .mth _ _ _, _, _, _, _, _, _, _, _, _, h => by cases h
  | .isi _ _, _, _, _, _, _, _, _, _, _, h => by cases h
  | .isx _, _, _, _, _, _, _, _, _, _, h => by cases h
  | .fld _, _, _, _, _, _, _, _, _, _, h => by cases h
  | .hot _, _, _, _, _, _, _, _, _, _, h => by cases h
  | .call _ _, _, _, _, _, _, _, _, _, _, h => by cases h
  | .calld _ _ _, _, _, _, _, _, _, _, _, _, h => by cases h
  | .rng _, _, _, _, _, _, _, _, _, _, h => by cases h
  | .enm _, _, _, _, _, _, _, _, _, _, h => by cases h
  | .zip _ _, _, _, _, _, _, _, _, _, _, h => by cases h
  | .lc _ _ _ _ _, _, _, _, _, _, _, _, _, _, h => by cases h
  | .dct, _, _, _, _, _, _, _, _, _, h => by cases h
  | .bad, _, _, _, _, _, _, _, _, _, h => by cases h
theorem blt_ok (h : EC k C X XD W cur) {b : Blt} {x : Str} {es : List Expr} {y : Expr} {m : Ev → Out (List D)} {p pos : Pos} {ba qa : Bool} (h1 : x = b.nm) (h2 : b.ok C.calm = true) (h3 : glB C.sc x = true) (hs : noStar y = true) (hss : es.all noStar = true) (ha : VA X XD W Γ (y :: es) ba qa m) :
    VE X XD W Γ (.Call (.Name x p) (y :: es) [] pos) bor b.fr qa (fun ρ => (m ρ).bind fun ds ρ => Out.lift (opBlt b ds) ρ) := by
  obtain ⟨g, gd⟩ := h.gl h3
  have bm : ∀ z, z ∈ bltNames → X.mg z = none := h.blt
  have hcalm : C.calm = true → X.calm = true := fun z => (h.calm z).1
  subst h1
  cases b <;> first | (cases h2; done) | skip
  · exact ve_args (fun ta h => pe_callB cl_len g (bm _ (by decide)) rfl h (by decide) gd (star_cons hs) (star_any hss)) (fun _ _ _ z => z) ha
  · exact ve_args (fun ta h => pe_callTy cl_tuple g (bm _ (by decide)) rfl h (by decide) gd (star_cons hs) (star_any hss)) (fun _ _ _ z => z) ha
  · exact ve_args (fun ta h => pe_callTy cl_list g (bm _ (by decide)) rfl h (by decide) gd (star_cons hs) (star_any hss)) (fun _ _ _ z => z) ha
  · exact ve_argsS (fun ta h' => pe_callB (cl_repr h.free h.units) g (bm _ (by decide)) rfl h' (by decide) gd (star_cons hs) (star_any hss)) (fun _ _ _ z => z) ha
  · exact ve_args (fun ta h => pe_callTy cl_str g (bm _ (by decide)) rfl h (by decide) gd (star_cons hs) (star_any hss)) (fun _ _ _ z => z) ha
  · exact ve_args (fun ta h => pe_callTy cl_int g (bm _ (by decide)) rfl h (by decide) gd (star_cons hs) (star_any hss)) (fun _ _ _ z => z) ha
  · exact ve_args (fun ta h => pe_callB cl_abs g (bm _ (by decide)) rfl h (by decide) gd (star_cons hs) (star_any hss)) (fun _ _ _ z => z) ha
  · exact ve_args (fun ta h => pe_callB (cl_max2 (hcalm h2)) g (bm _ (by decide)) rfl h (by decide) gd (star_cons hs) (star_any hss)) (fun _ _ _ z => z) ha
  · exact ve_args (fun ta h => pe_callB (cl_min2 (hcalm h2)) g (bm _ (by decide)) rfl h (by decide) gd (star_cons hs) (star_any hss)) (fun _ _ _ z => z) ha
  · exact ve_args (fun ta h => pe_callB (cl_sum (hcalm h2)) g (bm _ (by decide)) rfl h (by decide) gd (star_cons hs) (star_any hss)) (fun _ _ _ z => z) ha
  · exact ve_args (fun ta h => pe_callB (cl_all (hcalm h2)) g (bm _ (by decide)) rfl h (by decide) gd (star_cons hs) (star_any hss)) (fun _ _ _ z => z) ha
  · exact ve_args (fun ta h => pe_callB (cl_any (hcalm h2)) g (bm _ (by decide)) rfl h (by decide) gd (star_cons hs) (star_any hss)) (fun _ _ _ z => z) ha
theorem stars_of : ∀ {es : IE} {l : List Expr} {C : Ck} {Γ : List Sh} {b q : Bool}, ckA C Γ b es l = some q → l.all noStar = true
  | es, [], _, _, _, _, _ => rfl
  | .econs a r, x :: xs, C, Γ, b, q, h => by
    obtain ⟨h1, h2⟩ := gd_some (show gd (noStar x) ((ckA C Γ b r xs).bind fun qb => gd (!b || qb) ((ck C Γ b a x).v.bind fun ra => some (ra.2 && qb))) = some q from h)
    obtain ⟨qb, h3, _⟩ := Option.bind_eq_some_iff.mp h2
    show (noStar x && xs.all noStar) = true
    rw [h1, stars_of h3] <;> rfl
  | .enil, _ :: _, _, _, _, _, h => by cases h
  | .var _, _ :: _, _, _, _, _, h => by cases h
  | .cst _, _ :: _, _, _, _, _, h => by cases h
  | .glb _ _, _ :: _, _, _, _, _, h => by cases h
  | .tup _, _ :: _, _, _, _, _, h => by cases h
  | .lst _, _ :: _, _, _, _, _, h => by cases h
  | .bin _ _ _, _ :: _, _, _, _, _, h => by cases h
  | .neg _, _ :: _, _, _, _, _, h => by cases h
  | .cmp _ _ _, _ :: _, _, _, _, _, h => by cases h
  | .cmp3 _ _ _ _ _, _ :: _, _, _, _, _, h => by cases h
  | .and _, _ :: _, _, _, _, _, h => by cases h
  | .or _, _ :: _, _, _, _, _, h => by cases h
  | .not _, _ :: _, _, _, _, _, h => by cases h
  | .ife _ _ _, _ :: _, _, _, _, _, h => by cases h
  | .idx _ _, _ :: _, _, _, _, _, h => by cases h
  | .slc _ _ _, _ :: _, _, _, _, _, h => by cases h
  | .rev _, _ :: _, _, _, _, _, h => by cases h
  | .nop, _ :: _, _, _, _, _, h => by cases h
  | .blt _ _, _ :: _, _, _, _, _, h => by cases h
  | .mth _ _ _, _ :: _, _, _, _, _, h => by cases h
  | .isi _ _, _ :: _, _, _, _, _, h => by cases h
  | .isx _, _ :: _, _, _, _, _, h => by cases h
  | .fld _, _ :: _, _, _, _, _, h => by cases h
  | .hot _, _ :: _, _, _, _, _, h => by cases h
  | .call _ _, _ :: _, _, _, _, _, h => by cases h
  | .calld _ _ _, _ :: _, _, _, _, _, h => by cases h
  | .rng _, _ :: _, _, _, _, _, h => by cases h
  | .enm _, _ :: _, _, _, _, _, h => by cases h
  | .zip _ _, _ :: _, _, _, _, _, h => by cases h
  | .lc _ _ _ _ _, _ :: _, _, _, _, _, h => by cases h
  | .dct, _ :: _, _, _, _, _, h => by cases h
  | .bad, _ :: _, _, _, _, _, h => by cases h
end
end BV
set_option Elab.async false
set_option linter.all false
set_option maxRecDepth 100000
set_option maxHeartbeats 8000000
/-! BV26: the checker is right: the induction over expressions. -/
namespace BV
open PySem PySem.Spec L2
open PyProof.Rows hiding St
theorem bb {a b : Bool} (h : (a && b) = true) : a = true ∧ b = true := Bool.and_eq_true_iff.mp h
theorem hq2 {b qb : Bool} (h : (!b || qb) = true) : b = true → qb = true := fun z => by rw [z] at h; simpa using h
section
variable {k : Nat}
abbrev EV (k : Nat) (C : Ck) (cur : D) : IE → Ev → Out D := evE (run C.P k) (runH C.P k) cur
abbrev EVA (k : Nat) (C : Ck) (cur : D) : IE → Ev → Out (List D) := evA (run C.P k) (runH C.P k) cur
theorem dkIdx_some {C : Ck} {Γ : List Sh} {bor : Bool} {a i : IE} {x y : Expr} {r : Bool × Bool} (h : dkIdx C Γ bor a i x y = some r) : ∃ j n z p kk p2, a = .var j ∧ i = .cst (.int n) ∧ x = .Name z p ∧ y = .Constant (.int n) kk p2 ∧ dkB Γ j = true ∧ varB C j z = true ∧ (bor = true ∨ (0 ≤ n ∧ n ≠ 1)) ∧ r = (false, true) := by
  unfold dkIdx at h
  split at h
  · rename_i j n z p n' kk p2
    obtain ⟨h1, h2⟩ := gd_some h
    obtain ⟨h3, h4⟩ := bb h1
    obtain ⟨h5, h6⟩ := bb h3
    obtain ⟨h7, h8⟩ := bb h5
    have e := of_decide_eq_true h6
    subst e
    refine ⟨j, n, z, p, kk, p2, rfl, rfl, rfl, rfl, h7, h8, ?_, (Option.some.inj h2).symm⟩
    rcases Bool.or_eq_true_iff.mp h4 with h | h
    · exact .inl h
    · obtain ⟨q1, q2⟩ := bb h
      exact .inr ⟨of_decide_eq_true q1, by simpa using q2⟩
  · cases h
theorem none_okL {X : Cx} {XD : XP} {W : WX} {Γ : List Sh} {e : Expr} {m : Ev → Out D} : (∀ fr q, ((⟨none, none⟩ : R)).v = some (fr, q) → VE X XD W Γ e false fr q m) ∧ ∀ q, ((⟨none, none⟩ : R)).t = some q → VW X XD W Γ e q m := And.intro (fun _ _ z => nomatch z) (fun _ z => nomatch z)
mutual
theorem ck_ok : ∀ (ie : IE) (C : Ck) (X : Cx) (XD : XP) (W : WX) (cur : D) (Γ : List Sh) (bor : Bool) (e : Expr), EC k C X XD W cur → OkE k C X XD W cur Γ bor ie e (ck C Γ bor ie e)
  | .var i, C, X, XD, W, cur, Γ, bor, e, h => plain_ok fun fr q hq => by
    split at hq
    · rename_i x p
      obtain ⟨h1, h2⟩ := gd_some hq
      obtain ⟨n1, n2, n3⟩ := varB_1 h1
      obtain ⟨d1, d2⟩ := ndb_1 n3
      by_cases c : fzB Γ i = true
      · rw [if_pos c] at h2
        cases h2
        exact ve_var (h.name n1) (h.vis n2) d1 d2 (fz_of c)
      · rw [if_neg c] at h2
        by_cases c' : (bor && l1B Γ i) = true
        · rw [if_pos c'] at h2
          cases h2
          obtain ⟨q1, q2⟩ := bb c'
          rw [q1]
          exact ve_varB (h.name n1) (h.vis n2) d1 d2 (l1_of q2)
        · rw [if_neg c'] at h2; cases h2
    · cases hq
  | .cst d, C, X, XD, W, cur, Γ, bor, e, h => plain_ok fun fr q hq => by
    split at hq
    · obtain ⟨h1, h2⟩ := gd_some hq
      cases h2
      exact cst_ok h1
    · cases hq
  | .glb x d, C, X, XD, W, cur, Γ, bor, e, h => plain_ok fun fr q hq => by
    split at hq
    · obtain ⟨h1, h2⟩ := gd_some hq
      cases h2
      obtain ⟨h3, h4⟩ := bb h1
      obtain ⟨h5, h6⟩ := bb h3
      have e1 := of_decide_eq_true h5
      subst e1
      obtain ⟨u, m, kr⟩ := h.glb _ (glbB_1 h4)
      exact ve_glb (h.gl h6).1 m kr (h.gl h6).2
    · cases hq
  | .tup es, C, X, XD, W, cur, Γ, bor, e, h => plain_ok fun fr q hq => by
    split at hq
    · obtain ⟨h1, h2⟩ := gd_some hq
      obtain ⟨qq, h3, h4⟩ := Option.map_eq_some_iff.mp h2
      cases h4
      exact ve_tup (ckA_ok es C X XD W cur Γ false _ h _ h3) (Nat.le_of_ble_eq_true h1) fun ρ ds ρ' z => evA_len h3 z
    · cases hq
  | .lst es, C, X, XD, W, cur, Γ, bor, e, h => plain_ok fun fr q hq => by
    split at hq
    · obtain ⟨h1, h2⟩ := gd_some hq
      obtain ⟨qq, h3, h4⟩ := Option.map_eq_some_iff.mp h2
      cases h4
      exact ve_lst (ckA_ok es C X XD W cur Γ false _ h _ h3) (Nat.le_of_ble_eq_true h1) fun ρ ds ρ' z => evA_len h3 z
    · cases hq
  | .bin o a b, C, X, XD, W, cur, Γ, bor, e, h => plain_ok fun fr q hq => by
    split at hq
    · obtain ⟨h1, h2⟩ := gd_some hq
      obtain ⟨rb, h3, h4⟩ := Option.bind_eq_some_iff.mp h2
      obtain ⟨ra, h5, h6⟩ := Option.bind_eq_some_iff.mp h4
      cases h6
      exact ve_bin (of_decide_eq_true h1) ((ck_ok a C X XD W cur Γ rb.2 _ h).1 ra.1 ra.2 h5) ((ck_ok b C X XD W cur Γ true _ h).1 rb.1 rb.2 h3) (fun z => z)
    · cases hq
  | .neg a, C, X, XD, W, cur, Γ, bor, e, h => plain_ok fun fr q hq => by
    split at hq
    · obtain ⟨ra, h5, h6⟩ := Option.bind_eq_some_iff.mp hq
      cases h6
      exact ve_neg ((ck_ok a C X XD W cur Γ true _ h).1 ra.1 ra.2 h5)
    · cases hq
  | .cmp o a b, C, X, XD, W, cur, Γ, bor, e, h => by
    have key : ∀ x op y p fr q, gd (decide (op = o.ast) && !behindInMarks op y) ((ck C Γ true b y).v.bind fun rb => (ck C Γ rb.2 a x).v.bind fun ra => some (false, ra.2 && rb.2)) = some (fr, q) → VE X XD W Γ (.Compare x [op] [y] p) bor fr q (EV k C cur (.cmp o a b)) ∧ VT X XD W Γ (.Compare x [op] [y] p) q (EV k C cur (.cmp o a b)) := by
      intro x op y p fr q hq
      obtain ⟨h1, h2⟩ := gd_some hq
      obtain ⟨g1, g2⟩ := bb h1
      obtain ⟨rb, h3, h4⟩ := Option.bind_eq_some_iff.mp h2
      obtain ⟨ra, h5, h6⟩ := Option.bind_eq_some_iff.mp h4
      cases h6
      have va := (ck_ok a C X XD W cur Γ rb.2 _ h).1 ra.1 ra.2 h5
      have vb := (ck_ok b C X XD W cur Γ true _ h).1 rb.1 rb.2 h3
      exact ⟨ve_cmp h.units (of_decide_eq_true g1) va vb (fun z => z) (by simpa using g2), vt_cmp h.units (of_decide_eq_true g1) va vb (fun z => z) (by simpa using g2)⟩
    show (∀ fr q, (match e with | .Compare x [op] [y] _ => _ | _ => _ : R).v = some (fr, q) → _) ∧ ∀ q, (match e with | .Compare x [op] [y] _ => _ | _ => _ : R).t = some q → _
    split
    · refine ⟨fun fr q hq => (key _ _ _ _ fr q hq).1, fun q hq => ?_⟩
      obtain ⟨⟨fr, q'⟩, h1, rfl⟩ := Option.map_eq_some_iff.mp hq
      exact (key _ _ _ _ fr q' h1).2
    · exact none_ok
  | .cmp3 o p a b c, C, X, XD, W, cur, Γ, bor, e, h => by
    have key : ∀ x op op' y z ps fr q, gd (decide (op = o.ast) && decide (op' = p.ast) && !lastMarks [op, op'] [y, z]) ((ck C Γ false a x).v.bind fun ra => (ck C Γ false b y).v.bind fun rb => (ck C Γ false c z).v.bind fun rc => some (false, ra.2 && (rb.2 && rc.2))) = some (fr, q) →
        VE X XD W Γ (.Compare x [op, op'] [y, z] ps) bor fr q (EV k C cur (.cmp3 o p a b c)) ∧ VT X XD W Γ (.Compare x [op, op'] [y, z] ps) q (EV k C cur (.cmp3 o p a b c)) := by
      intro x op op' y z ps fr q hq
      obtain ⟨h1, h2⟩ := gd_some hq
      obtain ⟨g1, g2⟩ := bb h1
      obtain ⟨g3, g4⟩ := bb g1
      obtain ⟨ra, h3, h4⟩ := Option.bind_eq_some_iff.mp h2
      obtain ⟨rb, h5, h6⟩ := Option.bind_eq_some_iff.mp h4
      obtain ⟨rc, h7, h8⟩ := Option.bind_eq_some_iff.mp h6
      cases h8
      have va := (ck_ok a C X XD W cur Γ false _ h).1 ra.1 ra.2 h3
      have vb := (ck_ok b C X XD W cur Γ false _ h).1 rb.1 rb.2 h5
      have vc := (ck_ok c C X XD W cur Γ false _ h).1 rc.1 rc.2 h7
      exact ⟨ve_cmp3 h.units (of_decide_eq_true g3) (of_decide_eq_true g4) va vb vc (by simpa using g2), vt_cmp3 h.units (of_decide_eq_true g3) (of_decide_eq_true g4) va vb vc (by simpa using g2)⟩
    show (∀ fr q, (match e with | .Compare x [op, op'] [y, z] _ => _ | _ => _ : R).v = some (fr, q) → _) ∧ ∀ q, (match e with | .Compare x [op, op'] [y, z] _ => _ | _ => _ : R).t = some q → _
    split
    · refine ⟨fun fr q hq => (key _ _ _ _ _ _ fr q hq).1, fun q hq => ?_⟩
      obtain ⟨⟨fr, q'⟩, h1, rfl⟩ := Option.map_eq_some_iff.mp hq
      exact (key _ _ _ _ _ _ fr q' h1).2
    · exact none_ok
  | .and es, C, X, XD, W, cur, Γ, bor, e, h => by
    show (∀ fr q, (match e with | .BoolOp .And l _ => _ | _ => _ : R).v = some (fr, q) → _) ∧ ∀ q, (match e with | .BoolOp .And l _ => _ | _ => _ : R).t = some q → _
    split
    · obtain ⟨h1, h2⟩ := ckL_and es C X XD W cur Γ _ _ h
      exact ⟨fun fr q hq => (h1 fr q hq).borrow, fun q hq => (h2 q hq).vt⟩
    · exact none_ok
  | .or es, C, X, XD, W, cur, Γ, bor, e, h => by
    show (∀ fr q, (match e with | .BoolOp .Or l _ => _ | _ => _ : R).v = some (fr, q) → _) ∧ ∀ q, (match e with | .BoolOp .Or l _ => _ | _ => _ : R).t = some q → _
    split
    · obtain ⟨h1, h2⟩ := ckL_or es C X XD W cur Γ _ _ h
      exact ⟨fun fr q hq => (h1 fr q hq).borrow, fun q hq => (h2 q hq).vt⟩
    · exact none_ok
  | .not a, C, X, XD, W, cur, Γ, bor, e, h => by
    show (∀ fr q, (match e with | .UnaryOp .Not x _ => _ | _ => _ : R).v = some (fr, q) → _) ∧ ∀ q, (match e with | .UnaryOp .Not x _ => _ | _ => _ : R).t = some q → _
    split
    · rename_i x p
      have ih := ck_ok a C X XD W cur Γ true x h
      refine ⟨fun fr q hq => ?_, fun q hq => vt_not (ih.2 q hq)⟩
      obtain ⟨ra, h5, h6⟩ := Option.bind_eq_some_iff.mp hq
      cases h6
      exact ve_not (ih.1 ra.1 ra.2 h5)
    · exact none_ok
  | .ife c a b, C, X, XD, W, cur, Γ, bor, e, h => by
    show (∀ fr q, (match e with | .IfExp z x y _ => _ | _ => _ : R).v = some (fr, q) → _) ∧ ∀ q, (match e with | .IfExp z x y _ => _ | _ => _ : R).t = some q → _
    split
    · refine ⟨fun fr q hq => ?_, fun q hq => nomatch hq⟩
      obtain ⟨qc, h3, h4⟩ := Option.bind_eq_some_iff.mp hq
      obtain ⟨ra, h5, h6⟩ := Option.bind_eq_some_iff.mp h4
      obtain ⟨rb, h7, h8⟩ := Option.bind_eq_some_iff.mp h6
      cases h8
      exact ve_ife ((ck_ok c C X XD W cur Γ true _ h).2 qc h3) ((ck_ok a C X XD W cur Γ bor _ h).1 ra.1 ra.2 h5) ((ck_ok b C X XD W cur Γ bor _ h).1 rb.1 rb.2 h7)
    · exact none_ok
  | .idx a i, C, X, XD, W, cur, Γ, bor, e, h => plain_ok fun fr q hq => by
    split at hq
    · split at hq
      · rename_i r hr
        cases hq
        obtain ⟨j, n, z, p, kk, p2, rfl, rfl, rfl, rfl, d1, d2, d3, d4⟩ := dkIdx_some hr
        cases d4
        obtain ⟨n1, n2, n3⟩ := varB_1 d2
        obtain ⟨e1, e2⟩ := ndb_1 n3
        exact ve_dk (h.name n1) (h.vis n2) e1 e2 (dk_of d1) d3
      · obtain ⟨h1, h2⟩ := gd_some hq
        obtain ⟨rb, h3, h4⟩ := Option.bind_eq_some_iff.mp h2
        obtain ⟨ra, h5, h6⟩ := Option.bind_eq_some_iff.mp h4
        cases h6
        exact ve_idx ((ck_ok a C X XD W cur Γ rb.2 _ h).1 ra.1 ra.2 h5) ((ck_ok i C X XD W cur Γ true _ h).1 rb.1 rb.2 h3) (fun z => z) h1
    · cases hq
  | .slc a lo hi, C, X, XD, W, cur, Γ, bor, e, h => plain_ok fun fr q hq => by
    split at hq
    · rename_i x l hh p2 pos
      obtain ⟨ql, h1, h2⟩ := Option.bind_eq_some_iff.mp hq
      obtain ⟨qh, h3, h4⟩ := Option.bind_eq_some_iff.mp h2
      obtain ⟨ra, h5, h6⟩ := Option.bind_eq_some_iff.mp h4
      cases h6
      have vl : VO X XD W Γ l ql (fun ρ => if isNop lo = true then .ok none ρ else (EV k C cur lo ρ).bind fun y ρ => Out.lift (partOf y) ρ) := by
        cases l with
        | none =>
          obtain ⟨g1, g2⟩ := gd_some h1
          cases g2
          simp only [if_pos g1]
          exact vo_none
        | some y =>
          obtain ⟨g1, g2⟩ := gd_some h1
          obtain ⟨r, g3, g4⟩ := Option.map_eq_some_iff.mp g2
          cases g4
          have : ¬ isNop lo = true := by simpa using g1
          simp only [if_neg this]
          exact vo_some ((ck_ok lo C X XD W cur Γ true _ h).1 r.1 r.2 g3)
      have vh : VO X XD W Γ hh qh (fun ρ => if isNop hi = true then .ok none ρ else (EV k C cur hi ρ).bind fun y ρ => Out.lift (partOf y) ρ) := by
        cases hh with
        | none =>
          obtain ⟨g1, g2⟩ := gd_some h3
          cases g2
          simp only [if_pos g1]
          exact vo_none
        | some y =>
          obtain ⟨g1, g2⟩ := gd_some h3
          obtain ⟨r, g3, g4⟩ := Option.map_eq_some_iff.mp g2
          cases g4
          have : ¬ isNop hi = true := by simpa using g1
          simp only [if_neg this]
          exact vo_some ((ck_ok hi C X XD W cur Γ true _ h).1 r.1 r.2 g3)
      exact ve_slc ((ck_ok a C X XD W cur Γ (ql && qh) _ h).1 ra.1 ra.2 h5) vl vh (fun z => z)
    · cases hq
  | .rev a, C, X, XD, W, cur, Γ, bor, e, h => plain_ok fun fr q hq => by
    split at hq
    · obtain ⟨ra, h1, h2⟩ := Option.bind_eq_some_iff.mp hq
      cases h2
      exact ve_rev ((ck_ok a C X XD W cur Γ true _ h).1 ra.1 ra.2 h1)
    · cases hq
  | .nop, C, X, XD, W, cur, Γ, bor, e, h => none_ok
  | .blt b es, C, X, XD, W, cur, Γ, bor, e, h => plain_ok fun fr q hq => by
    split at hq
    · obtain ⟨h1, h2⟩ := gd_some hq
      obtain ⟨g1, g2⟩ := bb h1
      obtain ⟨g3, g4⟩ := bb g1
      obtain ⟨qq, h3, h4⟩ := Option.map_eq_some_iff.mp h2
      cases h4
      split at h3
      · rename_i q' hA
        cases h3
        have st := bb (stars_of hA)
        exact blt_ok h (of_decide_eq_true g3) g4 g2 st.1 st.2 (ckA_ok es C X XD W cur Γ true _ h _ hA)
      · have st := bb (stars_of h3)
        exact blt_ok h (of_decide_eq_true g3) g4 g2 st.1 st.2 (ckA_ok es C X XD W cur Γ false _ h _ h3)
    · cases hq
  | .mth m o es, C, X, XD, W, cur, Γ, bor, e, h => plain_ok fun fr q hq => by
    split at hq
    · obtain ⟨h1, h2⟩ := gd_some hq
      obtain ⟨g1, g2⟩ := bb h1
      obtain ⟨g3, g4⟩ := bb g1
      obtain ⟨g5, g6⟩ := bb g3
      obtain ⟨g7, g8⟩ := bb g5
      obtain ⟨qb, h3, h4⟩ := Option.bind_eq_some_iff.mp h2
      obtain ⟨ra, h5, h6⟩ := Option.bind_eq_some_iff.mp h4
      cases h6
      have va := (ck_ok o C X XD W cur Γ qb _ h).1 ra.1 ra.2 h5
      have vb := ckA_ok es C X XD W cur Γ true _ h _ h3
      have hn := of_decide_eq_true g8
      subst hn
      have hl := Nat.le_of_ble_eq_true g2
      have st := stars_of h3
      cases m <;> first | (cases g7; done) | skip
      · exact ve_join g4 g6 st (by simp only [List.length_cons]; omega) va vb (fun z => z)
      · exact ve_count h.units g4 g6 st (by simp only [List.length_cons]; omega) va vb (fun z => z)
    · cases hq
  | .isi a ts, C, X, XD, W, cur, Γ, bor, e, h => plain_ok fun fr q hq => by
    split at hq
    · split at hq
      · rename_i t
        obtain ⟨h1, h2⟩ := gd_some hq
        obtain ⟨g1, g2⟩ := bb h1
        obtain ⟨g3, g4⟩ := bb g1
        obtain ⟨g5, g6⟩ := bb g3
        obtain ⟨g7, g8⟩ := bb g5
        obtain ⟨ra, h5, h6⟩ := Option.bind_eq_some_iff.mp h2
        cases h6
        have ef := of_decide_eq_true g7
        have eT := of_decide_eq_true g6
        subst ef eT
        have va := (ck_ok a C X XD W cur Γ true _ h).1 ra.1 ra.2 h5
        have e2 : evE (run C.P k) (runH C.P k) cur (.isi a [t]) = fun ρ => (EV k C cur a ρ).bind fun x ρ => .ok (PyData.bool (isTy t x)) ρ := by
          funext ρ
          show (EV k C cur a ρ).bind (fun x ρ => Out.ok (PyData.bool ([t].any fun t => isTy t x)) ρ) = _
          congr 1
          funext x ρ
          simp
        rw [e2]
        exact ve_isi (t := t) (h.gl g8).1 (h.blt _ (by decide)) (h.gl g4).1 (h.blt _ (by cases t <;> decide)) (by cases t <;> rfl) (by cases t <;> decide) (h.gl g4).2 g2 va
      · cases hq
    · cases hq
  | .isx c, C, X, XD, W, cur, Γ, bor, e, h => plain_ok fun fr q hq => by
    split at hq
    · split at hq
      · rename_i i hi
        obtain ⟨h1, h2⟩ := gd_some hq
        cases h2
        obtain ⟨g1, g2⟩ := bb h1
        obtain ⟨g3, g4⟩ := bb g1
        obtain ⟨g5, g6⟩ := bb g3
        obtain ⟨g7, g8⟩ := bb g5
        obtain ⟨g9, g10⟩ := bb g7
        have ef := of_decide_eq_true g9
        have eT := of_decide_eq_true g8
        subst ef eT
        obtain ⟨n1, n2, n3⟩ := varB_1 g4
        obtain ⟨d1, d2⟩ := ndb_1 n3
        refine ve_isx (rd := C.rsd) (cs := C.cls) h.xd h.xt (h.hcur (by rw [hi]; exact fun z => nomatch z)) (by rw [h.hi]; exact hi) (h.gl g10).1 (h.blt _ (by decide)) (h.gl g6).1 (h.gl g6).2 ?_ (h.name n1) (h.vis n2) d1 d2
        rcases Bool.or_eq_true_iff.mp g2 with z | z
        · obtain ⟨y, hy, e⟩ := List.any_eq_true.mp z
          exact .inl (of_decide_eq_true e ▸ hy)
        · have e := of_decide_eq_true z
          subst e
          exact .inr ⟨rfl, h.blt _ (by decide)⟩
      · cases hq
    · cases hq
  | .fld x, C, X, XD, W, cur, Γ, bor, e, h => none_ok
  | .hot f, C, X, XD, W, cur, Γ, bor, e, h => plain_ok fun fr q hq => by
    split at hq
    · split at hq
      · rename_i i hi
        obtain ⟨h1, h2⟩ := gd_some hq
        obtain ⟨g1, g2⟩ := bb h1
        obtain ⟨g3, g4⟩ := bb g1
        obtain ⟨g5, g6⟩ := bb g3
        split at h2
        · rename_i fn hfn
          obtain ⟨k1, k2⟩ := gd_some h2
          cases k2
          obtain ⟨fa, fd, y', F, hm, hk, hb⟩ := h.hots _ (fnB_1 g6) fn hfn k1
          obtain ⟨n1, n2, n3⟩ := varB_1 g2
          obtain ⟨d1, d2⟩ := ndb_1 n3
          exact ve_hot F h.room h.free (h.hcur (by rw [hi]; exact fun z => nomatch z)) (by rw [h.hi]; exact hi) h.tk (h.gl g4).1 hm hk hb (h.gl g4).2 (h.name n1) (h.vis n2) d1 d2
        · cases h2
      · cases hq
    · cases hq
  | .call f es, C, X, XD, W, cur, Γ, bor, e, h => plain_ok fun fr q hq => by
    split at hq
    · obtain ⟨h1, h2⟩ := gd_some hq
      obtain ⟨g1, g2⟩ := bb h1
      obtain ⟨g3, g4⟩ := bb g1
      split at h2
      · rename_i fn hfn
        obtain ⟨k1, k2⟩ := gd_some h2
        obtain ⟨k0, k7⟩ := bb k1
        obtain ⟨k3, k4⟩ := bb k0
        obtain ⟨qq, k5, k6⟩ := Option.map_eq_some_iff.mp k2
        cases k6
        exact ve_call (h.calm g3).2 (h.gl g2).1 h.tk (by simpa using k4) (h.fns _ (fnB_1 g4) fn hfn (by simpa using k3) (by simpa using k7)) (stars_of k5) (ckA_ok es C X XD W cur Γ false _ h _ k5)
      · cases h2
    · cases hq
  | .calld f i es, C, X, XD, W, cur, Γ, bor, e, h => plain_ok fun fr q hq => by
    split at hq
    · obtain ⟨h1, h2⟩ := gd_some hq
      obtain ⟨g1, g2⟩ := bb h1
      obtain ⟨g3, g4⟩ := bb g1
      obtain ⟨g5, g6⟩ := bb g3
      obtain ⟨g7, g8⟩ := bb g5
      split at h2
      · rename_i fn hfn
        obtain ⟨k1, k2⟩ := gd_some h2
        obtain ⟨k0, k7⟩ := bb k1
        obtain ⟨k3, k4⟩ := bb k0
        obtain ⟨qq, k5, k6⟩ := Option.map_eq_some_iff.mp k2
        cases k6
        obtain ⟨n1, n2, n3⟩ := varB_1 g2
        obtain ⟨d1, d2⟩ := ndb_1 n3
        exact ve_calld (h.calm g7).2 (h.gl g6).1 h.tk k4 (h.fns _ (fnB_1 g8) fn hfn (by simpa using k3) (by simpa using k7)) (h.name n1) (h.vis n2) d1 d2 (dk_of g4) (stars_of k5) (ckA_ok es C X XD W cur Γ false _ h _ k5)
      · cases h2
    · cases hq
  | .rng es, C, X, XD, W, cur, Γ, bor, e, h => none_ok
  | .enm a, C, X, XD, W, cur, Γ, bor, e, h => none_ok
  | .zip a b, C, X, XD, W, cur, Γ, bor, e, h => none_ok
  | .dct, C, X, XD, W, cur, Γ, bor, e, h => plain_ok fun fr q hq => by
    split at hq
    · cases hq
      exact ve_dct
    · cases hq
  | .bad, C, X, XD, W, cur, Γ, bor, e, h => ⟨fun fr q hq => ve_bad, fun q hq => vt_bad⟩
  | .lc own t it c z, C, X, XD, W, cur, Γ, bor, e, h => plain_ok fun fr q hq => by
    split at hq
    · rename_i elt tg iter ifs scope pos
      obtain ⟨h1, h2⟩ := gd_some hq
      obtain ⟨g1, g2⟩ := bb h1
      obtain ⟨g3, g4⟩ := bb g1
      obtain ⟨g5, g6⟩ := bb g3
      obtain ⟨g7, g8⟩ := bb g5
      obtain ⟨g9, g10⟩ := bb g7
      obtain ⟨ri, h3, h4⟩ := Option.bind_eq_some_iff.mp h2
      obtain ⟨qc, h5, h6⟩ := Option.bind_eq_some_iff.mp h4
      obtain ⟨re, h7, h8⟩ := Option.bind_eq_some_iff.mp h6
      obtain ⟨h9, h10⟩ := gd_some h8
      cases h10
      have ok := blkOk_by g10
      have vi : VI X XD W Γ tg iter ri.1 ri.2 (evW (run C.P k) (runH C.P k) cur it) := by
        split at h3
        · rename_i q' hR
          cases h3
          exact ckR_ok it C X XD W cur Γ iter tg h _ hR
        · split at h3
          · rename_i r hv
            cases h3
            exact vi_any ((ck_ok it C X XD W cur Γ false _ h).1 r.1 r.2 hv)
          · obtain ⟨r, h11, h12⟩ := Option.map_eq_some_iff.mp h3
            cases h12
            exact vi_any ((ck_ok it C X XD W cur Γ true _ h).1 r.1 r.2 h11)
      have eB : ∀ (s : Shared) (H : Hp) (c : Addr) (cl : List (Str × Addr)) (fp : List Addr), EC k (C.inB scope) (X.blk s H scope (compEnvC scope cl c X.env) fp) XD.blk W0 cur := fun s H c cl fp => h.inB g9 scope ok.kind s H c cl fp
      have hown : (ownN C own).map (·.2) = own := by unfold ownN; rw [List.map_map]; exact List.map_id _
      have vts : ∀ (s : Shared) (H : Hp) (c' : Addr) (cl : List (Str × Addr)) (fp : List Addr), VTs (X.blk s H scope (compEnvC scope cl c' X.env) fp) XD.blk W0 Γ ifs qc (EV k C cur c) := by
        intro s H c' cl fp
        split at h5
        · obtain ⟨y1, y2⟩ := gd_some h5
          cases y2
          have : c = .cst (.bool true) := by
            unfold isYes at y1
            split at y1
            · rfl
            · cases y1
          subst this
          exact vts_nil
        · exact vts_one ((ck_ok c (C.inB scope) _ _ _ cur Γ true _ (eB s H c' cl fp)).2 qc h5)
        · cases h5
      have hsl : ∀ i ∈ t.slots, i ∈ (ownN C own).map (·.2) := fun i hi => by
        rw [hown]
        have := List.all_eq_true.mp g6 i hi
        simpa using this
      have hfz : ∀ i ∈ (ownN C own).map (·.2), Γ[i]? = some .fz := fun i hi => by
        rw [hown] at hi
        exact fz_of (List.all_eq_true.mp g8 i hi)
      have main := ve_lc (X := X) (XD := XD) (W := W) (Γ := Γ) (pos := pos) (ba := bor) (h.calm g9).1 (by rw [h.N]; exact h.nd) vi (own := ownN C own) (by rw [h.N, h.sc]; exact ok) (fun s H c' cl fp => (tg_ok (eB s H c' cl fp) t tg g2).1) vts
        (fun s H c' cl fp => (ck_ok z (C.inB scope) _ _ _ cur Γ false _ (eB s H c' cl fp)).1 re.1 re.2 h7) (fs_no g4) hfz hsl (hq2 h9)
      rw [hown] at main
      exact main
    · cases hq
  | .enil, C, X, XD, W, cur, Γ, bor, e, h => none_ok
  | .econs a r, C, X, XD, W, cur, Γ, bor, e, h => none_ok
theorem ckA_ok : ∀ (es : IE) (C : Ck) (X : Cx) (XD : XP) (W : WX) (cur : D) (Γ : List Sh) (bor : Bool) (l : List Expr), EC k C X XD W cur → ∀ q, ckA C Γ bor es l = some q → VA X XD W Γ l bor q (EVA k C cur es)
  | .econs a r, C, X, XD, W, cur, Γ, bor, x :: xs, h, q, hq => by
    obtain ⟨h1, h2⟩ := gd_some (show gd (noStar x) ((ckA C Γ bor r xs).bind fun qb => gd (!bor || qb) ((ck C Γ bor a x).v.bind fun ra => some (ra.2 && qb))) = some q from hq)
    obtain ⟨qb, h3, h4⟩ := Option.bind_eq_some_iff.mp h2
    obtain ⟨h5, h6⟩ := gd_some h4
    obtain ⟨ra, h7, h8⟩ := Option.bind_eq_some_iff.mp h6
    cases h8
    exact va_cons ((ck_ok a C X XD W cur Γ bor _ h).1 ra.1 ra.2 h7) (ckA_ok r C X XD W cur Γ bor xs h qb h3) (hq2 h5) (star_cons h1)
  | .enil, C, X, XD, W, cur, Γ, bor, [], h, q, hq => by cases hq; exact va_nil
  | .enil, _, _, _, _, _, _, _, _ :: _, _, _, hq => by cases hq
  | .econs _ _, _, _, _, _, _, _, _, [], _, _, hq => by cases hq
  | .var _, _, _, _, _, _, _, _, _, _, _, hq => by cases hq
  | .cst _, _, _, _, _, _, _, _, _, _, _, hq => by cases hq
  | .glb _ _, _, _, _, _, _, _, _, _, _, _, hq => by cases hq
  | .tup _, _, _, _, _, _, _, _, _, _, _, hq => by cases hq
  | .lst _, _, _, _, _, _, _, _, _, _, _, hq => by cases hq
  | .bin _ _ _, _, _, _, _, _, _, _, _, _, _, hq => by cases hq
  | .neg _, _, _, _, _, _, _, _, _, _, _, hq => by cases hq
  | .cmp _ _ _, _, _, _, _, _, _, _, _, _, _, hq => by cases hq
  | .cmp3 _ _ _ _ _, _, _, _, _, _, _, _, _, _, _, hq => by cases hq
  | .and _, _, _, _, _, _, _, _, _, _, _, hq => by cases hq
  | .or _, _, _, _, _, _, _, _, _, _, _, hq => by cases hq
  | .not _, _, _, _, _, _, _, _, _, _, _, hq => by cases hq
  | .ife _ _ _, _, _, _, _, _, _, _, _, _, _, hq => by cases hq
  | .idx _ _, _, _, _, _, _, _, _, _, _, _, hq => by cases hq
  | .slc _ _ _, _, _, _, _, _, _, _, _, _, _, hq => by cases hq
  | .rev _, _, _, _, _, _, _, _, _, _, _, hq => by cases hq
  | .nop, _, _, _, _, _, _, _, _, _, _, hq => by cases hq
  | .blt _ _, _, _, _, _, _, _, _, _, _, _, hq => by cases hq
  | .mth _ _ _, _, _, _, _, _, _, _, _, _, _, hq => by cases hq
  | .isi _ _, _, _, _, _, _, _, _, _, _, _, hq => by cases hq
  | .isx _, _, _, _, _, _, _, _, _, _, _, hq => by cases hq
  | .fld _, _, _, _, _, _, _, _, _, _, _, hq => by cases hq
  | .hot _, _, _, _, _, _, _, _, _, _, _, hq => by cases hq
  | .call _ _, _, _, _, _, _, _, _, _, _, _, hq => by cases hq
  | .calld _ _ _, _, _, _, _, _, _, _, _, _, _, hq => by cases hq
  | .rng _, _, _, _, _, _, _, _, _, _, _, hq => by cases hq
  | .enm _, _, _, _, _, _, _, _, _, _, _, hq => by cases hq
  | .zip _ _, _, _, _, _, _, _, _, _, _, _, hq => by cases hq
  | .lc _ _ _ _ _, _, _, _, _, _, _, _, _, _, _, hq => by cases hq
  | .dct, _, _, _, _, _, _, _, _, _, _, hq => by cases hq
  | .bad, _, _, _, _, _, _, _, _, _, _, hq => by cases hq
theorem ckL_and : ∀ (es : IE) (C : Ck) (X : Cx) (XD : XP) (W : WX) (cur : D) (Γ : List Sh) (l : List Expr) (p : Pos), EC k C X XD W cur → (∀ fr q, (ckL C Γ es l).v = some (fr, q) → VE X XD W Γ (.BoolOp .And l p) false fr q (evAnd (run C.P k) (runH C.P k) cur es)) ∧ ∀ q, (ckL C Γ es l).t = some q → VW X XD W Γ (.BoolOp .And l p) q (evAnd (run C.P k) (runH C.P k) cur es)
  | .econs a .enil, C, X, XD, W, cur, Γ, [x], p, h => ⟨fun fr q hq => ve_one ((ck_ok a C X XD W cur Γ false _ h).1 fr q hq), fun q hq => vw_and1 ((ck_ok a C X XD W cur Γ true _ h).2 q hq)⟩
  | .econs a (.econs b r), C, X, XD, W, cur, Γ, x :: y :: l, p, h => by
    have ih := ckL_and (.econs b r) C X XD W cur Γ (y :: l) p h
    refine ⟨fun fr q hq => ?_, fun q hq => ?_⟩
    · obtain ⟨ra, h1, h2⟩ := Option.bind_eq_some_iff.mp (show ((ck C Γ false a x).v.bind fun ra => (ckL C Γ (.econs b r) (y :: l)).v.bind fun rb => some (false, ra.2 && rb.2)) = some (fr, q) from hq)
      obtain ⟨rb, h3, h4⟩ := Option.bind_eq_some_iff.mp h2
      cases h4
      exact ve_and ((ck_ok a C X XD W cur Γ false _ h).1 ra.1 ra.2 h1) (ih.1 rb.1 rb.2 h3)
    · obtain ⟨qa, h1, h2⟩ := Option.bind_eq_some_iff.mp (show ((ck C Γ true a x).t.bind fun qa => (ckL C Γ (.econs b r) (y :: l)).t.bind fun qb => some (qa && qb)) = some q from hq)
      obtain ⟨qb, h3, h4⟩ := Option.bind_eq_some_iff.mp h2
      cases h4
      exact vw_and ((ck_ok a C X XD W cur Γ true _ h).2 qa h1) (ih.2 qb h3)
  | .enil, _, _, _, _, _, _, _, _, _ => none_okL
  | .econs _ .enil, _, _, _, _, _, _, [], _, _ => none_okL
  | .econs _ .enil, _, _, _, _, _, _, _ :: _ :: _, _, _ => none_okL
  | .econs _ (.econs _ _), _, _, _, _, _, _, [], _, _ => none_okL
  | .econs _ (.econs _ _), _, _, _, _, _, _, [_], _, _ => none_okL
  | .econs _ (.var _), _, _, _, _, _, _, [], _, _ => none_okL
  | .econs _ (.var _), _, _, _, _, _, _, [_], _, _ => none_okL
  | .econs _ (.var _), _, _, _, _, _, _, _ :: _ :: _, _, _ => none_okL
  | .var _, _, _, _, _, _, _, _, _, _ => none_okL
  | .econs _ (.cst _), _, _, _, _, _, _, [], _, _ => none_okL
  | .econs _ (.cst _), _, _, _, _, _, _, [_], _, _ => none_okL
  | .econs _ (.cst _), _, _, _, _, _, _, _ :: _ :: _, _, _ => none_okL
  | .cst _, _, _, _, _, _, _, _, _, _ => none_okL
  | .econs _ (.glb _ _), _, _, _, _, _, _, [], _, _ => none_okL
  | .econs _ (.glb _ _), _, _, _, _, _, _, [_], _, _ => none_okL
  | .econs _ (.glb _ _), _, _, _, _, _, _, _ :: _ :: _, _, _ => none_okL
  | .glb _ _, _, _, _, _, _, _, _, _, _ => none_okL
  | .econs _ (.tup _), _, _, _, _, _, _, [], _, _ => none_okL
  | .econs _ (.tup _), _, _, _, _, _, _, [_], _, _ => none_okL
  | .econs _ (.tup _), _, _, _, _, _, _, _ :: _ :: _, _, _ => none_okL
  | .tup _, _, _, _, _, _, _, _, _, _ => none_okL
  | .econs _ (.lst _), _, _, _, _, _, _, [], _, _ => none_okL
  | .econs _ (.lst _), _, _, _, _, _, _, [_], _, _ => none_okL
  | .econs _ (.lst _), _, _, _, _, _, _, _ :: _ :: _, _, _ => none_okL
  | .lst _, _, _, _, _, _, _, _, _, _ => none_okL
  | .econs _ (.bin _ _ _), _, _, _, _, _, _, [], _, _ => none_okL
  | .econs _ (.bin _ _ _), _, _, _, _, _, _, [_], _, _ => none_okL
  | .econs _ (.bin _ _ _), _, _, _, _, _, _, _ :: _ :: _, _, _ => none_okL
  | .bin _ _ _, _, _, _, _, _, _, _, _, _ => none_okL
  | .econs _ (.neg _), _, _, _, _, _, _, [], _, _ => none_okL
  | .econs _ (.neg _), _, _, _, _, _, _, [_], _, _ => none_okL
  | .econs _ (.neg _), _, _, _, _, _, _, _ :: _ :: _, _, _ => none_okL
  | .neg _, _, _, _, _, _, _, _, _, _ => none_okL
  | .econs _ (.cmp _ _ _), _, _, _, _, _, _, [], _, _ => none_okL
  | .econs _ (.cmp _ _ _), _, _, _, _, _, _, [_], _, _ => none_okL
  | .econs _ (.cmp _ _ _), _, _, _, _, _, _, _ :: _ :: _, _, _ => none_okL
  | .cmp _ _ _, _, _, _, _, _, _, _, _, _ => none_okL
  | .econs _ (.cmp3 _ _ _ _ _), _, _, _, _, _, _, [], _, _ => none_okL
  | .econs _ (.cmp3 _ _ _ _ _), _, _, _, _, _, _, [_], _, _ => none_okL
  | .econs _ (.cmp3 _ _ _ _ _), _, _, _, _, _, _, _ :: _ :: _, _, _ => none_okL
  | .cmp3 _ _ _ _ _, _, _, _, _, _, _, _, _, _ => none_okL
  | .econs _ (.and _), _, _, _, _, _, _, [], _, _ => none_okL
  | .econs _ (.and _), _, _, _, _, _, _, [_], _, _ => none_okL
  | .econs _ (.and _), _, _, _, _, _, _, _ :: _ :: _, _, _ => none_okL
  | .and _, _, _, _, _, _, _, _, _, _ => none_okL
  | .econs _ (.or _), _, _, _, _, _, _, [], _, _ => none_okL
  | .econs _ (.or _), _, _, _, _, _, _, [_], _, _ => none_okL
  | .econs _ (.or _), _, _, _, _, _, _, _ :: _ :: _, _, _ => none_okL
  | .or _, _, _, _, _, _, _, _, _, _ => none_okL
  | .econs _ (.not _), _, _, _, _, _, _, [], _, _ => none_okL
  | .econs _ (.not _), _, _, _, _, _, _, [_], _, _ => none_okL
  | .econs _ (.not _), _, _, _, _, _, _, _ :: _ :: _, _, _ => none_okL
  | .not _, _, _, _, _, _, _, _, _, _ => none_okL
  | .econs _ (.ife _ _ _), _, _, _, _, _, _, [], _, _ => none_okL
  | .econs _ (.ife _ _ _), _, _, _, _, _, _, [_], _, _ => none_okL
  | .econs _ (.ife _ _ _), _, _, _, _, _, _, _ :: _ :: _, _, _ => none_okL
  | .ife _ _ _, _, _, _, _, _, _, _, _, _ => none_okL
  | .econs _ (.idx _ _), _, _, _, _, _, _, [], _, _ => none_okL
  | .econs _ (.idx _ _), _, _, _, _, _, _, [_], _, _ => none_okL
  | .econs _ (.idx _ _), _, _, _, _, _, _, _ :: _ :: _, _, _ => none_okL
  | .idx _ _, _, _, _, _, _, _, _, _, _ => none_okL
  | .econs _ (.slc _ _ _), _, _, _, _, _, _, [], _, _ => none_okL
  | .econs _ (.slc _ _ _), _, _, _, _, _, _, [_], _, _ => none_okL
  | .econs _ (.slc _ _ _), _, _, _, _, _, _, _ :: _ :: _, _, _ => none_okL
  | .slc _ _ _, _, _, _, _, _, _, _, _, _ => none_okL
  | .econs _ (.rev _), _, _, _, _, _, _, [], _, _ => none_okL
  | .econs _ (.rev _), _, _, _, _, _, _, [_], _, _ => none_okL
  | .econs _ (.rev _), _, _, _, _, _, _, _ :: _ :: _, _, _ => none_okL
  | .rev _, _, _, _, _, _, _, _, _, _ => none_okL
  | .econs _ (.nop), _, _, _, _, _, _, [], _, _ => none_okL
  | .econs _ (.nop), _, _, _, _, _, _, [_], _, _ => none_okL
  | .econs _ (.nop), _, _, _, _, _, _, _ :: _ :: _, _, _ => none_okL
  | .nop, _, _, _, _, _, _, _, _, _ => none_okL
  | .econs _ (.blt _ _), _, _, _, _, _, _, [], _, _ => none_okL
  | .econs _ (.blt _ _), _, _, _, _, _, _, [_], _, _ => none_okL
  | .econs _ (.blt _ _), _, _, _, _, _, _, _ :: _ :: _, _, _ => none_okL
  | .blt _ _, _, _, _, _, _, _, _, _, _ => none_okL
  | .econs _ (.mth _ _ _), _, _, _, _, _, _, [], _, _ => none_okL
  | .econs _ (.mth _ _ _), _, _, _, _, _, _, [_], _, _ => none_okL
  | .econs _ (.mth _ _ _), _, _, _, _, _, _, _ :: _ :: _, _, _ => none_okL
  | .mth _ _ _, _, _, _, _, _, _, _, _, _ => none_okL
  | .econs _ (.isi _ _), _, _, _, _, _, _, [], _, _ => none_okL
  | .econs _ (.isi _ _), _, _, _, _, _, _, [_], _, _ => none_okL
  | .econs _ (.isi _ _), _, _, _, _, _, _, _ :: _ :: _, _, _ => none_okL
  | .isi _ _, _, _, _, _, _, _, _, _, _ => none_okL
  | .econs _ (.isx _), _, _, _, _, _, _, [], _, _ => none_okL
  | .econs _ (.isx _), _, _, _, _, _, _, [_], _, _ => none_okL
  | .econs _ (.isx _), _, _, _, _, _, _, _ :: _ :: _, _, _ => none_okL
  | .isx _, _, _, _, _, _, _, _, _, _ => none_okL
  | .econs _ (.fld _), _, _, _, _, _, _, [], _, _ => none_okL
  | .econs _ (.fld _), _, _, _, _, _, _, [_], _, _ => none_okL
  | .econs _ (.fld _), _, _, _, _, _, _, _ :: _ :: _, _, _ => none_okL
  | .fld _, _, _, _, _, _, _, _, _, _ => none_okL
  | .econs _ (.hot _), _, _, _, _, _, _, [], _, _ => none_okL
  | .econs _ (.hot _), _, _, _, _, _, _, [_], _, _ => none_okL
  | .econs _ (.hot _), _, _, _, _, _, _, _ :: _ :: _, _, _ => none_okL
  | .hot _, _, _, _, _, _, _, _, _, _ => none_okL
  | .econs _ (.call _ _), _, _, _, _, _, _, [], _, _ => none_okL
  | .econs _ (.call _ _), _, _, _, _, _, _, [_], _, _ => none_okL
  | .econs _ (.call _ _), _, _, _, _, _, _, _ :: _ :: _, _, _ => none_okL
  | .call _ _, _, _, _, _, _, _, _, _, _ => none_okL
  | .econs _ (.calld _ _ _), _, _, _, _, _, _, [], _, _ => none_okL
  | .econs _ (.calld _ _ _), _, _, _, _, _, _, [_], _, _ => none_okL
  | .econs _ (.calld _ _ _), _, _, _, _, _, _, _ :: _ :: _, _, _ => none_okL
  | .calld _ _ _, _, _, _, _, _, _, _, _, _ => none_okL
  | .econs _ (.rng _), _, _, _, _, _, _, [], _, _ => none_okL
  | .econs _ (.rng _), _, _, _, _, _, _, [_], _, _ => none_okL
  | .econs _ (.rng _), _, _, _, _, _, _, _ :: _ :: _, _, _ => none_okL
  | .rng _, _, _, _, _, _, _, _, _, _ => none_okL
  | .econs _ (.enm _), _, _, _, _, _, _, [], _, _ => none_okL
  | .econs _ (.enm _), _, _, _, _, _, _, [_], _, _ => none_okL
  | .econs _ (.enm _), _, _, _, _, _, _, _ :: _ :: _, _, _ => none_okL
  | .enm _, _, _, _, _, _, _, _, _, _ => none_okL
  | .econs _ (.zip _ _), _, _, _, _, _, _, [], _, _ => none_okL
  | .econs _ (.zip _ _), _, _, _, _, _, _, [_], _, _ => none_okL
  | .econs _ (.zip _ _), _, _, _, _, _, _, _ :: _ :: _, _, _ => none_okL
  | .zip _ _, _, _, _, _, _, _, _, _, _ => none_okL
  | .econs _ (.lc _ _ _ _ _), _, _, _, _, _, _, [], _, _ => none_okL
  | .econs _ .dct, _, _, _, _, _, _, [], _, _ => none_okL
  | .econs _ .bad, _, _, _, _, _, _, [], _, _ => none_okL
  | .econs _ (.lc _ _ _ _ _), _, _, _, _, _, _, [_], _, _ => none_okL
  | .econs _ .dct, _, _, _, _, _, _, [_], _, _ => none_okL
  | .econs _ .bad, _, _, _, _, _, _, [_], _, _ => none_okL
  | .econs _ (.lc _ _ _ _ _), _, _, _, _, _, _, _ :: _ :: _, _, _ => none_okL
  | .econs _ .dct, _, _, _, _, _, _, _ :: _ :: _, _, _ => none_okL
  | .econs _ .bad, _, _, _, _, _, _, _ :: _ :: _, _, _ => none_okL
  | .lc _ _ _ _ _, _, _, _, _, _, _, _, _, _ => none_okL
  | .dct, _, _, _, _, _, _, _, _, _ => none_okL
  | .bad, _, _, _, _, _, _, _, _, _ => none_okL
theorem ckL_or : ∀ (es : IE) (C : Ck) (X : Cx) (XD : XP) (W : WX) (cur : D) (Γ : List Sh) (l : List Expr) (p : Pos), EC k C X XD W cur → (∀ fr q, (ckL C Γ es l).v = some (fr, q) → VE X XD W Γ (.BoolOp .Or l p) false fr q (evOr (run C.P k) (runH C.P k) cur es)) ∧ ∀ q, (ckL C Γ es l).t = some q → VW X XD W Γ (.BoolOp .Or l p) q (evOr (run C.P k) (runH C.P k) cur es)
  | .econs a .enil, C, X, XD, W, cur, Γ, [x], p, h => ⟨fun fr q hq => ve_one ((ck_ok a C X XD W cur Γ false _ h).1 fr q hq), fun q hq => vw_or1 ((ck_ok a C X XD W cur Γ true _ h).2 q hq)⟩
  | .econs a (.econs b r), C, X, XD, W, cur, Γ, x :: y :: l, p, h => by
    have ih := ckL_or (.econs b r) C X XD W cur Γ (y :: l) p h
    refine ⟨fun fr q hq => ?_, fun q hq => ?_⟩
    · obtain ⟨ra, h1, h2⟩ := Option.bind_eq_some_iff.mp (show ((ck C Γ false a x).v.bind fun ra => (ckL C Γ (.econs b r) (y :: l)).v.bind fun rb => some (false, ra.2 && rb.2)) = some (fr, q) from hq)
      obtain ⟨rb, h3, h4⟩ := Option.bind_eq_some_iff.mp h2
      cases h4
      exact ve_or ((ck_ok a C X XD W cur Γ false _ h).1 ra.1 ra.2 h1) (ih.1 rb.1 rb.2 h3)
    · obtain ⟨qa, h1, h2⟩ := Option.bind_eq_some_iff.mp (show ((ck C Γ true a x).t.bind fun qa => (ckL C Γ (.econs b r) (y :: l)).t.bind fun qb => some (qa && qb)) = some q from hq)
      obtain ⟨qb, h3, h4⟩ := Option.bind_eq_some_iff.mp h2
      cases h4
      exact vw_or ((ck_ok a C X XD W cur Γ true _ h).2 qa h1) (ih.2 qb h3)
  | .enil, _, _, _, _, _, _, _, _, _ => none_okL
  | .econs _ .enil, _, _, _, _, _, _, [], _, _ => none_okL
  | .econs _ .enil, _, _, _, _, _, _, _ :: _ :: _, _, _ => none_okL
  | .econs _ (.econs _ _), _, _, _, _, _, _, [], _, _ => none_okL
  | .econs _ (.econs _ _), _, _, _, _, _, _, [_], _, _ => none_okL
  | .econs _ (.var _), _, _, _, _, _, _, [], _, _ => none_okL
  | .econs _ (.var _), _, _, _, _, _, _, [_], _, _ => none_okL
  | .econs _ (.var _), _, _, _, _, _, _, _ :: _ :: _, _, _ => none_okL
  | .var _, _, _, _, _, _, _, _, _, _ => none_okL
  | .econs _ (.cst _), _, _, _, _, _, _, [], _, _ => none_okL
  | .econs _ (.cst _), _, _, _, _, _, _, [_], _, _ => none_okL
  | .econs _ (.cst _), _, _, _, _, _, _, _ :: _ :: _, _, _ => none_okL
  | .cst _, _, _, _, _, _, _, _, _, _ => none_okL
  | .econs _ (.glb _ _), _, _, _, _, _, _, [], _, _ => none_okL
  | .econs _ (.glb _ _), _, _, _, _, _, _, [_], _, _ => none_okL
  | .econs _ (.glb _ _), _, _, _, _, _, _, _ :: _ :: _, _, _ => none_okL
  | .glb _ _, _, _, _, _, _, _, _, _, _ => none_okL
  | .econs _ (.tup _), _, _, _, _, _, _, [], _, _ => none_okL
  | .econs _ (.tup _), _, _, _, _, _, _, [_], _, _ => none_okL
  | .econs _ (.tup _), _, _, _, _, _, _, _ :: _ :: _, _, _ => none_okL
  | .tup _, _, _, _, _, _, _, _, _, _ => none_okL
  | .econs _ (.lst _), _, _, _, _, _, _, [], _, _ => none_okL
  | .econs _ (.lst _), _, _, _, _, _, _, [_], _, _ => none_okL
  | .econs _ (.lst _), _, _, _, _, _, _, _ :: _ :: _, _, _ => none_okL
  | .lst _, _, _, _, _, _, _, _, _, _ => none_okL
  | .econs _ (.bin _ _ _), _, _, _, _, _, _, [], _, _ => none_okL
  | .econs _ (.bin _ _ _), _, _, _, _, _, _, [_], _, _ => none_okL
  | .econs _ (.bin _ _ _), _, _, _, _, _, _, _ :: _ :: _, _, _ => none_okL
  | .bin _ _ _, _, _, _, _, _, _, _, _, _ => none_okL
  | .econs _ (.neg _), _, _, _, _, _, _, [], _, _ => none_okL
  | .econs _ (.neg _), _, _, _, _, _, _, [_], _, _ => none_okL
  | .econs _ (.neg _), _, _, _, _, _, _, _ :: _ :: _, _, _ => none_okL
  | .neg _, _, _, _, _, _, _, _, _, _ => none_okL
  | .econs _ (.cmp _ _ _), _, _, _, _, _, _, [], _, _ => none_okL
  | .econs _ (.cmp _ _ _), _, _, _, _, _, _, [_], _, _ => none_okL
  | .econs _ (.cmp _ _ _), _, _, _, _, _, _, _ :: _ :: _, _, _ => none_okL
  | .cmp _ _ _, _, _, _, _, _, _, _, _, _ => none_okL
  | .econs _ (.cmp3 _ _ _ _ _), _, _, _, _, _, _, [], _, _ => none_okL
  | .econs _ (.cmp3 _ _ _ _ _), _, _, _, _, _, _, [_], _, _ => none_okL
  | .econs _ (.cmp3 _ _ _ _ _), _, _, _, _, _, _, _ :: _ :: _, _, _ => none_okL
  | .cmp3 _ _ _ _ _, _, _, _, _, _, _, _, _, _ => none_okL
  | .econs _ (.and _), _, _, _, _, _, _, [], _, _ => none_okL
  | .econs _ (.and _), _, _, _, _, _, _, [_], _, _ => none_okL
  | .econs _ (.and _), _, _, _, _, _, _, _ :: _ :: _, _, _ => none_okL
  | .and _, _, _, _, _, _, _, _, _, _ => none_okL
  | .econs _ (.or _), _, _, _, _, _, _, [], _, _ => none_okL
  | .econs _ (.or _), _, _, _, _, _, _, [_], _, _ => none_okL
  | .econs _ (.or _), _, _, _, _, _, _, _ :: _ :: _, _, _ => none_okL
  | .or _, _, _, _, _, _, _, _, _, _ => none_okL
  | .econs _ (.not _), _, _, _, _, _, _, [], _, _ => none_okL
  | .econs _ (.not _), _, _, _, _, _, _, [_], _, _ => none_okL
  | .econs _ (.not _), _, _, _, _, _, _, _ :: _ :: _, _, _ => none_okL
  | .not _, _, _, _, _, _, _, _, _, _ => none_okL
  | .econs _ (.ife _ _ _), _, _, _, _, _, _, [], _, _ => none_okL
  | .econs _ (.ife _ _ _), _, _, _, _, _, _, [_], _, _ => none_okL
  | .econs _ (.ife _ _ _), _, _, _, _, _, _, _ :: _ :: _, _, _ => none_okL
  | .ife _ _ _, _, _, _, _, _, _, _, _, _ => none_okL
  | .econs _ (.idx _ _), _, _, _, _, _, _, [], _, _ => none_okL
  | .econs _ (.idx _ _), _, _, _, _, _, _, [_], _, _ => none_okL
  | .econs _ (.idx _ _), _, _, _, _, _, _, _ :: _ :: _, _, _ => none_okL
  | .idx _ _, _, _, _, _, _, _, _, _, _ => none_okL
  | .econs _ (.slc _ _ _), _, _, _, _, _, _, [], _, _ => none_okL
  | .econs _ (.slc _ _ _), _, _, _, _, _, _, [_], _, _ => none_okL
  | .econs _ (.slc _ _ _), _, _, _, _, _, _, _ :: _ :: _, _, _ => none_okL
  | .slc _ _ _, _, _, _, _, _, _, _, _, _ => none_okL
  | .econs _ (.rev _), _, _, _, _, _, _, [], _, _ => none_okL
  | .econs _ (.rev _), _, _, _, _, _, _, [_], _, _ => none_okL
  | .econs _ (.rev _), _, _, _, _, _, _, _ :: _ :: _, _, _ => none_okL
  | .rev _, _, _, _, _, _, _, _, _, _ => none_okL
  | .econs _ (.nop), _, _, _, _, _, _, [], _, _ => none_okL
  | .econs _ (.nop), _, _, _, _, _, _, [_], _, _ => none_okL
  | .econs _ (.nop), _, _, _, _, _, _, _ :: _ :: _, _, _ => none_okL
  | .nop, _, _, _, _, _, _, _, _, _ => none_okL
  | .econs _ (.blt _ _), _, _, _, _, _, _, [], _, _ => none_okL
  | .econs _ (.blt _ _), _, _, _, _, _, _, [_], _, _ => none_okL
  | .econs _ (.blt _ _), _, _, _, _, _, _, _ :: _ :: _, _, _ => none_okL
  | .blt _ _, _, _, _, _, _, _, _, _, _ => none_okL
  | .econs _ (.mth _ _ _), _, _, _, _, _, _, [], _, _ => none_okL
  | .econs _ (.mth _ _ _), _, _, _, _, _, _, [_], _, _ => none_okL
  | .econs _ (.mth _ _ _), _, _, _, _, _, _, _ :: _ :: _, _, _ => none_okL
  | .mth _ _ _, _, _, _, _, _, _, _, _, _ => none_okL
  | .econs _ (.isi _ _), _, _, _, _, _, _, [], _, _ => none_okL
  | .econs _ (.isi _ _), _, _, _, _, _, _, [_], _, _ => none_okL
  | .econs _ (.isi _ _), _, _, _, _, _, _, _ :: _ :: _, _, _ => none_okL
  | .isi _ _, _, _, _, _, _, _, _, _, _ => none_okL
  | .econs _ (.isx _), _, _, _, _, _, _, [], _, _ => none_okL
  | .econs _ (.isx _), _, _, _, _, _, _, [_], _, _ => none_okL
  | .econs _ (.isx _), _, _, _, _, _, _, _ :: _ :: _, _, _ => none_okL
  | .isx _, _, _, _, _, _, _, _, _, _ => none_okL
  | .econs _ (.fld _), _, _, _, _, _, _, [], _, _ => none_okL
  | .econs _ (.fld _), _, _, _, _, _, _, [_], _, _ => none_okL
  | .econs _ (.fld _), _, _, _, _, _, _, _ :: _ :: _, _, _ => none_okL
  | .fld _, _, _, _, _, _, _, _, _, _ => none_okL
  | .econs _ (.hot _), _, _, _, _, _, _, [], _, _ => none_okL
  | .econs _ (.hot _), _, _, _, _, _, _, [_], _, _ => none_okL
  | .econs _ (.hot _), _, _, _, _, _, _, _ :: _ :: _, _, _ => none_okL
  | .hot _, _, _, _, _, _, _, _, _, _ => none_okL
  | .econs _ (.call _ _), _, _, _, _, _, _, [], _, _ => none_okL
  | .econs _ (.call _ _), _, _, _, _, _, _, [_], _, _ => none_okL
  | .econs _ (.call _ _), _, _, _, _, _, _, _ :: _ :: _, _, _ => none_okL
  | .call _ _, _, _, _, _, _, _, _, _, _ => none_okL
  | .econs _ (.calld _ _ _), _, _, _, _, _, _, [], _, _ => none_okL
  | .econs _ (.calld _ _ _), _, _, _, _, _, _, [_], _, _ => none_okL
  | .econs _ (.calld _ _ _), _, _, _, _, _, _, _ :: _ :: _, _, _ => none_okL
  | .calld _ _ _, _, _, _, _, _, _, _, _, _ => none_okL
  | .econs _ (.rng _), _, _, _, _, _, _, [], _, _ => none_okL
  | .econs _ (.rng _), _, _, _, _, _, _, [_], _, _ => none_okL
  | .econs _ (.rng _), _, _, _, _, _, _, _ :: _ :: _, _, _ => none_okL
  | .rng _, _, _, _, _, _, _, _, _, _ => none_okL
  | .econs _ (.enm _), _, _, _, _, _, _, [], _, _ => none_okL
  | .econs _ (.enm _), _, _, _, _, _, _, [_], _, _ => none_okL
  | .econs _ (.enm _), _, _, _, _, _, _, _ :: _ :: _, _, _ => none_okL
  | .enm _, _, _, _, _, _, _, _, _, _ => none_okL
  | .econs _ (.zip _ _), _, _, _, _, _, _, [], _, _ => none_okL
  | .econs _ (.zip _ _), _, _, _, _, _, _, [_], _, _ => none_okL
  | .econs _ (.zip _ _), _, _, _, _, _, _, _ :: _ :: _, _, _ => none_okL
  | .zip _ _, _, _, _, _, _, _, _, _, _ => none_okL
  | .econs _ (.lc _ _ _ _ _), _, _, _, _, _, _, [], _, _ => none_okL
  | .econs _ .dct, _, _, _, _, _, _, [], _, _ => none_okL
  | .econs _ .bad, _, _, _, _, _, _, [], _, _ => none_okL
  | .econs _ (.lc _ _ _ _ _), _, _, _, _, _, _, [_], _, _ => none_okL
  | .econs _ .dct, _, _, _, _, _, _, [_], _, _ => none_okL
  | .econs _ .bad, _, _, _, _, _, _, [_], _, _ => none_okL
  | .econs _ (.lc _ _ _ _ _), _, _, _, _, _, _, _ :: _ :: _, _, _ => none_okL
  | .econs _ .dct, _, _, _, _, _, _, _ :: _ :: _, _, _ => none_okL
  | .econs _ .bad, _, _, _, _, _, _, _ :: _ :: _, _, _ => none_okL
  | .lc _ _ _ _ _, _, _, _, _, _, _, _, _, _ => none_okL
  | .dct, _, _, _, _, _, _, _, _, _ => none_okL
  | .bad, _, _, _, _, _, _, _, _, _ => none_okL
theorem ckR_ok : ∀ (es : IE) (C : Ck) (X : Cx) (XD : XP) (W : WX) (cur : D) (Γ : List Sh) (e tg : Expr), EC k C X XD W cur → ∀ q, ckR C Γ es e = some q → VI X XD W Γ tg e false q (evW (run C.P k) (runH C.P k) cur es)
  | .rng es, C, X, XD, W, cur, Γ, e, tg, h, q, hq => by
    unfold ckR at hq
    split at hq
    · obtain ⟨h1, h2⟩ := gd_some hq
      obtain ⟨g1, g2⟩ := bb h1
      have e1 := of_decide_eq_true g1
      subst e1
      have st := bb (stars_of h2)
      exact vi_rng1 (h.gl g2).1 (h.blt _ (by decide)) st.1 (ckA_ok es C X XD W cur Γ true _ h _ h2) fun ρ ds ρ' z => evA_len h2 z
    · obtain ⟨h1, h2⟩ := gd_some hq
      obtain ⟨g1, g2⟩ := bb h1
      have e1 := of_decide_eq_true g1
      subst e1
      have st := bb (stars_of h2)
      have st2 := bb st.2
      exact vi_rng2 (h.gl g2).1 (h.blt _ (by decide)) st.1 st2.1 (ckA_ok es C X XD W cur Γ true _ h _ h2) fun ρ ds ρ' z => evA_len h2 z
    · cases hq
  | .enil, _, _, _, _, _, _, _, _, _, _, hq => by cases hq
  | .econs _ _, _, _, _, _, _, _, _, _, _, _, hq => by cases hq
  | .var _, _, _, _, _, _, _, _, _, _, _, hq => by cases hq
  | .cst _, _, _, _, _, _, _, _, _, _, _, hq => by cases hq
  | .glb _ _, _, _, _, _, _, _, _, _, _, _, hq => by cases hq
  | .tup _, _, _, _, _, _, _, _, _, _, _, hq => by cases hq
  | .lst _, _, _, _, _, _, _, _, _, _, _, hq => by cases hq
  | .bin _ _ _, _, _, _, _, _, _, _, _, _, _, hq => by cases hq
  | .neg _, _, _, _, _, _, _, _, _, _, _, hq => by cases hq
  | .cmp _ _ _, _, _, _, _, _, _, _, _, _, _, hq => by cases hq
  | .cmp3 _ _ _ _ _, _, _, _, _, _, _, _, _, _, _, hq => by cases hq
  | .and _, _, _, _, _, _, _, _, _, _, _, hq => by cases hq
  | .or _, _, _, _, _, _, _, _, _, _, _, hq => by cases hq
  | .not _, _, _, _, _, _, _, _, _, _, _, hq => by cases hq
  | .ife _ _ _, _, _, _, _, _, _, _, _, _, _, hq => by cases hq
  | .idx _ _, _, _, _, _, _, _, _, _, _, _, hq => by cases hq
  | .slc _ _ _, _, _, _, _, _, _, _, _, _, _, hq => by cases hq
  | .rev _, _, _, _, _, _, _, _, _, _, _, hq => by cases hq
  | .nop, _, _, _, _, _, _, _, _, _, _, hq => by cases hq
  | .blt _ _, _, _, _, _, _, _, _, _, _, _, hq => by cases hq
  | .mth _ _ _, _, _, _, _, _, _, _, _, _, _, hq => by cases hq
  | .isi _ _, _, _, _, _, _, _, _, _, _, _, hq => by cases hq
  | .isx _, _, _, _, _, _, _, _, _, _, _, hq => by cases hq
  | .fld _, _, _, _, _, _, _, _, _, _, _, hq => by cases hq
  | .hot _, _, _, _, _, _, _, _, _, _, _, hq => by cases hq
  | .call _ _, _, _, _, _, _, _, _, _, _, _, hq => by cases hq
  | .calld _ _ _, _, _, _, _, _, _, _, _, _, _, hq => by cases hq
  | .enm _, _, _, _, _, _, _, _, _, _, _, hq => by cases hq
  | .zip _ _, _, _, _, _, _, _, _, _, _, _, hq => by cases hq
  | .lc _ _ _ _ _, _, _, _, _, _, _, _, _, _, _, hq => by cases hq
  | .dct, _, _, _, _, _, _, _, _, _, _, hq => by cases hq
  | .bad, _, _, _, _, _, _, _, _, _, _, hq => by cases hq
end
end
end BV
set_option Elab.async false
set_option linter.all false
set_option maxRecDepth 100000
set_option maxHeartbeats 8000000
/-! BV27: the checker of statements. -/
namespace BV
open PySem PySem.Spec L2
open PyProof.Rows hiding St

def gB (g : Option (List Sh)) (Γ : List Sh) : Bool := match g with
  | none => true
  | some Γ0 => decide (Γ = Γ0)
def GG (g : Option (List Sh)) : List Sh → Prop := match g with
  | none => fun _ => True
  | some Γ0 => fun Γ2 => Γ2 = Γ0
theorem gB_ok {g : Option (List Sh)} {Γ : List Sh} (h : gB g Γ = true) : GG g Γ := by
  cases g with
  | none => trivial
  | some Γ0 => exact (of_decide_eq_true h : Γ = Γ0)
/-- a comprehension that is stored by its own end -/
def swB (C : Ck) (x : Str) (pe : Pos) : Expr → Bool
  | .ListComp _ _ scope p => (match C.sc.names.lookup x with
    | some .local => (pe.line == p.line) && !(scope.names.any fun (n, k) => n == x && (k == .local || k == .cell))
    | _ => false)
  | _ => false
def isLC : Expr → Bool
  | .ListComp _ _ _ _ => true
  | _ => false
/-- targets and values that are stored in order -/
def ordB : Expr → Expr → Bool
  | .Tuple _ _ _, .Tuple vs _ _ => vs.all (foldedForSure 8)
  | .Name _ _, _ => true
  | .Tuple _ _ _, .Name _ _ => true
  | .Tuple _ _ _, .Call _ _ _ _ => true
  | .Tuple _ _ _, .Subscript _ _ _ => true
  | _, _ => false
theorem ord_ok {t e : Expr} {env : PySem.Env} (h : ordB t e = true) : swappedStores [t] e env = pure none := by
  unfold ordB at h
  split at h
  · rename_i ts k p vs k2 p2
    unfold swappedStores
    dsimp only
    split
    · rfl
    · split
      · rfl
      · split
        · rfl
        · rfl
  · rfl
  · rfl
  · rfl
  · rfl
  · cases h
def starsB (l : List Expr) : Bool := l.any fun | .Starred .. => true | _ => false
def lineB (p q : Pos) : Bool := p.line == q.line
mutual
def ckS (C : Ck) (g : Option (List Sh)) (rs : Bool) (Γ : List Sh) : IS → Stmt → Option (List Sh × Bool)
  | .set i e, st => (match st with
    | .Assign [.Name x pe] y _ => gd (gB g Γ && nameB C i x && locB C x && frB Γ i && Nat.blt i Γ.length && (plainSw y || (isLC y && swB C x pe y))) ((ck C Γ false e y).v.bind fun _ => some (Γ.set i .fz, false))
    | _ => none)
  | .deck i f e, st => (match st with
    | .Assign [.Name x pe] (.Call (.Name z _) [y] [] _) _ => gd (gB g Γ && C.calm && nameB C i x && locB C x && frB Γ i && Nat.blt i Γ.length && fnB C z f && glB C.sc z && noStar y) (match C.P f with
      | some fn => gd fn.dk ((ck C Γ false e y).v.bind fun _ => some (Γ.set i .dk, false))
      | none => none)
    | _ => none)
  | .own i e, st => (match st with
    | .Assign [.Name x pe] y _ => gd (gB g Γ && nameB C i x && locB C x && frB Γ i && Nat.blt i Γ.length && (plainSw y || (isLC y && swB C x pe y))) ((ck C Γ false e y).v.bind fun r => gd r.1 (some (Γ.set i .l1, false)))
    | _ => none)
  | .asg t e, st => (match st with
    | .Assign [tg] y _ => gd (gB g Γ && tgB C Γ t tg && plainSw y && ordB tg y && t.slots.all (fzB Γ)) ((ck C Γ false e y).v.bind fun _ => some (Γ, false))
    | _ => none)
  | .par i j a b, st => (match st with
    | .Assign [.Tuple [.Name x px, .Name y py] _ _] (.Tuple [p, q] _ _) _ => gd (gB g Γ && C.calm && nameB C i x && nameB C j y && !decide (i = j) && decide (C.sc.names.lookup x = some .local) && decide (C.sc.names.lookup y = some .local) && (py.line == px.line) && !([x, y].eraseDups.length != [x, y].length) && !starsB [p, q] && ![p, q].all (foldedForSure 8) && ![p, q].all (constantsAlone 8) && fzB Γ i && fzB Γ j && noStar p && noStar q)
        ((ck C Γ false a p).v.bind fun _ => (ck C Γ false b q).v.bind fun _ => some (Γ, false))
    | _ => none)
  | .app i e, st => (match st with
    | .Expr (.Call (.Attribute (.Name x _) n ap) [y] [] cp) _ => gd (gB g Γ && varB C i x && l1B Γ i && decide (n = ("append" : Str)) && (ap.endLine == cp.line) && noStar y) ((ck C Γ false e y).v.bind fun _ => some (Γ, false))
    | _ => none)
  | .seti i k e, st => (match st with
    | .Assign [.Subscript (.Name x _) z _] y _ => if l1B Γ i = true then gd (gB g Γ && varB C i x && plainSw y && plainIxB z) ((ck C Γ false e y).v.bind fun _ => (ck C Γ false k z).v.bind fun _ => some (Γ, false)) else
        (match k, z with
          | .cst (.int j), .Constant (.int j') _ _ => gd (dkB Γ i && gB g Γ && varB C i x && plainSw y && decide (j = j') && decide (2 ≤ j)) ((ck C Γ false e y).v.bind fun _ => some (Γ, false))
          | _, _ => none)
    | _ => none)
  | .dk1 i k e, st => (match st with
    | .Assign [.Subscript (.Subscript (.Name x _) (.Constant (.int 1) _ _) _) z _] y _ => gd (dkB Γ i && gB g Γ && varB C i x && plainSw y && plainIxB z) ((ck C Γ false e y).v.bind fun _ => (ck C Γ false k z).v.bind fun _ => some (Γ, false))
    | _ => none)
  | .exp e, st => (match st with
    | .Expr y _ => gd (gB g Γ && plainSw y) ((ck C Γ false e y).v.bind fun _ => some (Γ, false))
    | _ => none)
  | .ifs c a b, st => (match st with
    | .If z x y _ => gd (gB g Γ) ((ck C Γ true c z).t.bind fun _ => (ckB C g rs Γ a x).bind fun ra => (ckB C g rs Γ b y).bind fun rb =>
        if ra.2 = true then some (rb.1, rb.2) else if rb.2 = true then some (ra.1, false) else gd (decide (ra.1 = rb.1)) (some (ra.1, false)))
    | _ => none)
  | .fors t it b, st => (match st with
    | .For tg iter x [] _ => gd (gB g Γ && C.calm && tgB C Γ t tg && t.slots.all (fzB Γ) && notSet iter) ((match ckR C Γ it iter with
        | some q => some q
        | none => Option.map Prod.snd (ck C Γ false it iter).v).bind fun _ => (ckB C g rs Γ b x).bind fun rb => gd (rb.2 || decide (rb.1 = Γ)) (some (Γ, false)))
    | _ => none)
  | .whl c b, st => (match st with
    | .While z x [] _ => gd (gB g Γ && C.calm) ((ck C Γ true c z).t.bind fun _ => (ckB C g rs Γ b x).bind fun rb => gd (rb.2 || decide (rb.1 = Γ)) (some (Γ, false)))
    | _ => none)
  | .ret e, st => (match st with
    | .Return (some y) _ => gd (gB g Γ) ((ck C Γ false e y).v.bind fun r => gd (!rs || r.1) (some (Γ, true)))
    | _ => none)
  | .rtn, st => (match st with
    | .Return none _ => gd (!rs) (some (Γ, true))
    | _ => none)
  | .rais c keep e, st => (match st with
    | .Raise (some (.Call (.Name x _) [.Constant (.str m) _ _] [] _)) none _ => (match e with
      | .cst (.str m') => gd (gB g Γ && C.calm && !keep && decide (x = c) && decide (m = m') && C.rsd.any (fun z => decide (z = x)) && glB C.sc x) (some (Γ, true))
      | _ => none)
    | _ => none)
  | .bad, _ => some (Γ, true)
  | .tri b hs, st => (match st with
    | .Try x [.ExceptHandler (some (.Name z _)) (some n) (y :: l) _] [] [] _ => (match hs with
      | .hcons [c] (some i) bh .hnil => gd (gB g Γ && C.calm && decide (C.hi = none) && decide (z = c) && C.cls.any (fun w => decide (w = z)) && glB C.sc z && nameB C i n && decide (C.sc.names.lookup n = some .local) && fzB Γ i)
          ((ckB C (some Γ) rs Γ b x).bind fun rb => (ckB { C with calm := false, hi := some i } none rs (Γ.set i .ex) bh (y :: l)).bind fun rh =>
            if rb.2 = true then gd (decide (rh.1[i]? = some .ex)) (some (rh.1.set i .fz, false)) else if rh.2 = true then gd (decide (rb.1.set i .fz = rb.1) && Nat.blt i rb.1.length) (some (rb.1, false)) else gd (decide (rh.1.set i .fz = rb.1) && decide (rh.1[i]? = some .ex)) (some (rb.1, false)))
      | _ => none)
    | _ => none)
  | _, _ => none
def ckB (C : Ck) (g : Option (List Sh)) (rs : Bool) (Γ : List Sh) : IS → List Stmt → Option (List Sh × Bool)
  | .nil, [] => some (Γ, false)
  | .cons (.frz i) r, l => gd (l1B Γ i) (ckB C g rs (Γ.set i .fz) r l)
  | .cons s r, x :: l => (ckS C g rs Γ s x).bind fun rx => (ckB C g rs rx.1 r l).bind fun rr => some (rr.1, rx.2 || rr.2)
  | _, _ => none
end
end BV
set_option Elab.async false
set_option linter.all false
set_option maxRecDepth 100000
set_option maxHeartbeats 8000000
/-! BV28: the checker of statements is right. -/
namespace BV
open PySem PySem.Spec L2
open PyProof.Rows hiding St
structure SC (k : Nat) (C : Ck) (X : Cx) (XD : XP) (W : WX) (cur : D) : Prop extends EC k C X XD W cur where
  po : C.calm = true → PassesOwn (model X.prog X.w) X.A X.env X.xe
  stk : X.stack = X.env :: X.outer
  fr : X.env.frame = some X.env.locals
section
variable {k : Nat}
theorem loc_stq {C : Ck} {X : Cx} {XD : XP} {W : WX} {cur : D} {Γ : List Sh} {i : Nat} {x : Str} {pe pos : Pos} {e : IE} {y : Expr} {fr q : Bool} (h : EC k C X XD W cur) (h1 : nameB C i x = true) (h2 : locB C x = true) (h3 : (plainSw y || (isLC y && swB C x pe y)) = true) (h4 : (ck C Γ false e y).v = some (fr, q)) :
    StQ X XD W Γ (.Assign [.Name x pe] y pos) i fr q (EV k C cur e) := by
  obtain ⟨l1, l2⟩ := h.loc h2
  by_cases hp : plainSw y = true
  · exact stq (by rw [h.N]; exact h.nd) (h.name h1) l1 l2 ((ck_ok e C X XD W cur Γ false y h).1 fr q h4) (sw_no hp)
  · have h3 : (isLC y && swB C x pe y) = true := (Bool.or_eq_true_iff.mp h3).resolve_left hp
    obtain ⟨g1, g2⟩ := bb h3
    obtain ⟨elt, gs, scope, p, rfl⟩ : ∃ elt gs scope p, y = .ListComp elt gs scope p := by
      cases y <;> first | (cases g1; done) | exact ⟨_, _, _, _, rfl⟩
    have g2 : (match C.sc.names.lookup x with
      | some .local => (pe.line == p.line) && !(scope.names.any fun (n, k) => n == x && (k == .local || k == .cell))
      | _ => false) = true := g2
    split at g2
    · rename_i hloc
      obtain ⟨g3, g4⟩ := bb g2
      have hx : X.env.scope.names.lookup x = some .local := by rw [h.sc]; exact hloc
      have hk : X.env.scope.kind = .function := by rw [h.sc]; exact h.kind
      cases e with
      | lc own t it c z =>
        have hq : (plain (Expr.ListComp elt gs scope p) (match (Expr.ListComp elt gs scope p) with
          | .ListComp elt [⟨tg, iter, ifs, 0⟩] scope _ =>
            gd (C.calm && blkC C.N C.sc scope (ownN C own) && own.all (fzB Γ) && t.slots.all (fun i => own.contains i) && notSet iter && tgB (C.inB scope) Γ t tg)
              ((match ckR C Γ it iter with
                | some q => some (false, q)
                | none => (match (ck C Γ false it iter).v with
                  | some r => some (false, r.2)
                  | none => Option.map (fun r => (true, Prod.snd r)) (ck C Γ true it iter).v)).bind fun (ri : Bool × Bool) =>
                (match ifs with
                  | [] => gd (isYes c) (some true)
                  | [y] => (ck (C.inB scope) Γ true c y).t
                  | _ => none).bind fun qc => (ck (C.inB scope) Γ false z elt).v.bind fun re => gd (!ri.1 || (qc && re.2)) (some (true, ri.2 && (qc && re.2))))
          | _ => none)).v = some (fr, q) := h4
        unfold plain at hq
        dsimp only at hq
        split at hq
        · rename_i elt' tg iter ifs scope' p' heq
          cases heq
          obtain ⟨h1', h2'⟩ := gd_some hq
          obtain ⟨g1, g2⟩ := bb h1'
          obtain ⟨g3', g4'⟩ := bb g1
          obtain ⟨g5, g6⟩ := bb g3'
          obtain ⟨g7, g8⟩ := bb g5
          obtain ⟨g9, g10⟩ := bb g7
          obtain ⟨ri, h3, h4'⟩ := Option.bind_eq_some_iff.mp h2'
          obtain ⟨qc, h5, h6⟩ := Option.bind_eq_some_iff.mp h4'
          obtain ⟨re, h7, h8⟩ := Option.bind_eq_some_iff.mp h6
          obtain ⟨h9, h10⟩ := gd_some h8
          cases h10
          have ok := blkOk_by g10
          have vi : VI X XD W Γ tg iter ri.1 ri.2 (evW (run C.P k) (runH C.P k) cur it) := by
            split at h3
            · rename_i q' hR
              cases h3
              exact ckR_ok it C X XD W cur Γ iter tg h _ hR
            · split at h3
              · rename_i r hv
                cases h3
                exact vi_any ((ck_ok it C X XD W cur Γ false _ h).1 r.1 r.2 hv)
              · obtain ⟨r, h11, h12⟩ := Option.map_eq_some_iff.mp h3
                cases h12
                exact vi_any ((ck_ok it C X XD W cur Γ true _ h).1 r.1 r.2 h11)
          have eB : ∀ (s : Shared) (H : Hp) (c : Addr) (cl : List (Str × Addr)) (fp : List Addr), EC k (C.inB scope) (X.blk s H scope (compEnvC scope cl c X.env) fp) XD.blk W0 cur := fun s H c cl fp => h.inB g9 scope ok.kind s H c cl fp
          have hown : (ownN C own).map (·.2) = own := by unfold ownN; rw [List.map_map]; exact List.map_id _
          have vts : ∀ (s : Shared) (H : Hp) (c' : Addr) (cl : List (Str × Addr)) (fp : List Addr), VTs (X.blk s H scope (compEnvC scope cl c' X.env) fp) XD.blk W0 Γ ifs qc (EV k C cur c) := by
            intro s H c' cl fp
            split at h5
            · obtain ⟨y1, y2⟩ := gd_some h5
              cases y2
              have : c = .cst (.bool true) := by
                unfold isYes at y1
                split at y1
                · rfl
                · cases y1
              subst this
              exact vts_nil
            · exact vts_one ((ck_ok c (C.inB scope) _ _ _ cur Γ true _ (eB s H c' cl fp)).2 qc h5)
            · cases h5
          have hsl : ∀ i ∈ t.slots, i ∈ (ownN C own).map (·.2) := fun i hi => by
            rw [hown]
            have := List.all_eq_true.mp g6 i hi
            simpa using this
          have hfz : ∀ i ∈ (ownN C own).map (·.2), Γ[i]? = some .fz := fun i hi => by
            rw [hown] at hi
            exact fz_of (List.all_eq_true.mp g8 i hi)
          have main := stq_lc (X := X) (XD := XD) (W := W) (Γ := Γ) (pos := p) (pe := pe) (spos := pos) (h.calm g9).1 (by rw [h.N]; exact h.nd) (h.name h1) hx hk g3 (by simpa using g4) vi (own := ownN C own) (by rw [h.N, h.sc]; exact ok) (fun s H c' cl fp => (tg_ok (eB s H c' cl fp) t tg g2).1) vts
            (fun s H c' cl fp => (ck_ok z (C.inB scope) _ _ _ cur Γ false _ (eB s H c' cl fp)).1 re.1 re.2 h7) (fs_no g4') hfz hsl (hq2 h9)
          rw [hown] at main
          exact main
        · cases hq
      | _ => exact nomatch h4
    · cases g2
theorem Nat.blt_lt {a b : Nat} (h : Nat.blt a b = true) : a < b := Nat.lt_of_succ_le (Nat.le_of_ble_eq_true h)
theorem sub_plain {x : Str} {px pt : Pos} {z : Expr} {env : PySem.Env} (h : plainIxB z = true) : ∀ v, assign (.Subscript (.Name x px) z pt) env v = (do
      let ov ← holding [v] (eval (.Name x px) env)
      let iv ← holding [v, ov] (eval z env)
      standAt pt
      holding [v, ov, iv] (setItem ov iv v)
      release [v, ov, iv] []) := by
  cases z <;> first | (cases h; done) | (intro _; rfl)
theorem sub_plain2 {x : Str} {px p1 pt pk : Pos} {kk : Nat} {z : Expr} {env : PySem.Env} (h : plainIxB z = true) : ∀ v, assign (.Subscript (.Subscript (.Name x px) (.Constant (.int 1) kk pk) p1) z pt) env v = (do
      let ov ← holding [v] (eval (.Subscript (.Name x px) (.Constant (.int 1) kk pk) p1) env)
      let iv ← holding [v, ov] (eval z env)
      standAt pt
      holding [v, ov, iv] (setItem ov iv v)
      release [v, ov, iv] []) := by
  cases z <;> first | (cases h; done) | (intro _; rfl)
/-- a body that ends, or keeps its shapes -/
theorem keep_shapes {X : Cx} {XD : XP} {W : WX} {G : List Sh → Prop} {rs : Bool} {Γ Γ1 : List Sh} {l : List Stmt} {m : Ev → SOut} {en : Bool} (h : VSs X XD W G rs Γ l Γ1 m) (hn : en = true → ∀ ρ ρ', m ρ ≠ .next ρ') (hk : (en || decide (Γ1 = Γ)) = true) : VSs X XD W G rs Γ l Γ m := by
  by_cases e : en = true
  · exact vss_end h (hn e)
  · have := of_decide_eq_true ((Bool.or_eq_true_iff.mp hk).resolve_left e)
    subst this
    exact h
end
end BV
set_option Elab.async false
set_option linter.all false
set_option maxRecDepth 100000
set_option maxHeartbeats 8000000
/-! BV29: the checker of statements is right: the induction. -/
namespace BV
open PySem PySem.Spec L2
open PyProof.Rows hiding St
section
variable {k : Nat}
abbrev ES (k : Nat) (C : Ck) (cur : D) : IS → Ev → SOut := evS (run C.P k) (runH C.P k) cur
/-- what must hold of the exceptions' rules -/
structure XF (X : Cx) (C : Ck) : Prop where
  made : ∀ c ∈ C.rsd, ∃ Cc B newId initId bmB, X.mg c = some (.ref Cc) ∧ ExcBaseFacts B newId initId bmB ∧ PySem.W.excIn X.K Cc bmB newId = true
theorem toS_next {α : Type} {o : Out α} {f : α → Ev → SOut} {ρ' : Ev} (h : o.toS f = .next ρ') : ∃ a ρ, o = .ok a ρ ∧ f a ρ = .next ρ' := by
  cases o with
  | ok a ρ => exact ⟨a, ρ, rfl, h⟩
  | exc x ρ => cases h
  | stk => cases h
theorem thn_next {o : SOut} {f : Ev → SOut} {ρ' : Ev} (h : o.thn f = .next ρ') : ∃ ρ, o = .next ρ ∧ f ρ = .next ρ' := by
  cases o with
  | next ρ => exact ⟨ρ, rfl, h⟩
  | ret d ρ => cases h
  | exc x ρ => cases h
  | stk => cases h
theorem any_mem {l : List Str} {x : Str} (h : l.any (fun z => decide (z = x)) = true) : x ∈ l := by
  obtain ⟨y, hy, e⟩ := List.any_eq_true.mp h
  exact of_decide_eq_true e ▸ hy
theorem all_fz {Γ : List Sh} {l : List Nat} (h : l.all (fzB Γ) = true) : ∀ i ∈ l, Γ[i]? = some .fz := fun i hi => fz_of (List.all_eq_true.mp h i hi)
abbrev OkS (k : Nat) (C : Ck) (X : Cx) (XD : XP) (W : WX) (cur : D) (g : Option (List Sh)) (rs : Bool) (Γ : List Sh) (is : IS) (st : Stmt) (r : Option (List Sh × Bool)) : Prop :=
  ∀ Γ' en, r = some (Γ', en) → VS X XD W (GG g) rs Γ st Γ' (ES k C cur is) ∧ (en = true → ∀ ρ ρ', ES k C cur is ρ ≠ .next ρ')

def OkSt (k : Nat) (is : IS) : Prop := ∀ (C : Ck) (X : Cx) (XD : XP) (W : WX) (cur : D) (g : Option (List Sh)) (rs : Bool) (Γ : List Sh) (st : Stmt), SC k C X XD W cur → XF X C → OkS k C X XD W cur g rs Γ is st (ckS C g rs Γ is st)
def OkB (k : Nat) (is : IS) : Prop := ∀ (C : Ck) (X : Cx) (XD : XP) (W : WX) (cur : D) (g : Option (List Sh)) (rs : Bool) (Γ : List Sh) (l : List Stmt), SC k C X XD W cur → XF X C → ∀ Γ' en, ckB C g rs Γ is l = some (Γ', en) → VSs X XD W (GG g) rs Γ l Γ' (ES k C cur is) ∧ (en = true → ∀ ρ ρ', ES k C cur is ρ ≠ .next ρ')
theorem SC.tr {C : Ck} {X : Cx} {XD : XP} {W0 W : WX} {cur : D} (h : SC k C X XD W0 cur) (hhi : C.hi = none) {pn : List (Addr × Obj)} {xe : Value → Shared → Prop} (tk : L2N.Takes (X.tr pn xe) W) (po : PassesOwn (model X.prog X.w) X.A X.env xe) : SC k C (X.tr pn xe) XD W cur where
  sc := h.sc
  kind := h.kind
  N := h.N
  nd := h.nd
  own := h.own
  calm := h.calm
  room := h.room
  free := h.free
  blt := h.blt
  glb := h.glb
  fns := fun p hp fn e hh hd => by
    have c := h.fns p hp fn e hh hd
    exact ⟨c.ex, c.len, c.ns, c.dbg⟩
  dks := h.dks
  hots := h.hots
  xt := h.xt
  xd := h.xd
  hi := h.hi
  tk := tk
  hcur := fun q => absurd hhi q
  po := fun _ => po
  stk := h.stk
  fr := h.fr
theorem SC.suite {C : Ck} {X : Cx} {XD : XP} {W : WX} {cur : D} (h : SC k C X XD W cur) {i : Nat} {a : Addr} {oe : Obj} {cls : Value} {d : Option Addr} {pn : List (Addr × Obj)} {w : D} (hz : L2N.Zn cls d oe) (hd : ∃ vs, oe.data = .fields vs) (hy : XC XD cls d w) : SC k { C with calm := false, hi := some i } (X.suite a ((a, oe) :: pn)) (XD.at i) W0 w where
  sc := h.sc
  kind := h.kind
  N := h.N
  nd := h.nd
  own := h.own
  calm := fun q => nomatch q
  room := ⟨h.room.dp, h.room.un⟩
  free := h.free
  blt := h.blt
  glb := h.glb
  fns := fun p hp fn e hh hd => by
    have c := h.fns p hp fn e hh hd
    exact ⟨c.ex, c.len, c.ns, c.dbg⟩
  dks := h.dks
  hots := h.hots
  xt := h.xt
  xd := h.xd
  hi := rfl
  tk := takes_W0
  hcur := fun _ a' ha' => by
    have e : some (Value.ref a) = some (Value.ref a') := ha'
    cases e
    exact ⟨oe, cls, d, List.mem_cons_self .., hz, hd, hy⟩
  po := fun q => nomatch q
  stk := h.stk
  fr := h.fr
theorem case_set (i : Nat) (e : IE) : OkSt k (.set i e) := fun C X XD W cur g rs Γ st h xf => fun Γ' en hq => by
    unfold ckS at hq
    split at hq
    · obtain ⟨h1, h2⟩ := gd_some hq
      obtain ⟨g1, g2⟩ := bb h1
      obtain ⟨g3, g4⟩ := bb g1
      obtain ⟨g5, g6⟩ := bb g3
      obtain ⟨g7, g8⟩ := bb g5
      obtain ⟨g9, g10⟩ := bb g7
      obtain ⟨r, h3, h4⟩ := Option.bind_eq_some_iff.mp h2
      cases h4
      exact ⟨vs_set (loc_stq h.toEC g10 g8 g2 h3) (Nat.blt_lt g4) g6 (gB_ok g9), fun z => nomatch z⟩
    · cases hq

/-- a new deck in a slot -/
theorem SR.decked {K : PySem.W.Frag} {Z : Addr → Prop} {Γ : List Sh} {fx : List FX} {ρ : Ev} {σ : L2.St} {H H' : Hp} {O : Nat → List Addr} {i : Nat} {v : V} {d : D} (s : SR K Z Γ fx ρ σ H O) (hi : i < Γ.length) (hf : ∀ p ∈ fx, p.1 ≠ i) (k : Keep none_ H H') (n : DkNew K (NN Z O) H H' v d) :
    ∃ a b, H a = none ∧ H b = none ∧ SR K Z (Γ.set i .dk) fx (ρ.set i (some d)) (σ.set i (some v)) H' (putO O i [a, b]) := by
  obtain ⟨a, b, x, xs, ys, d0, ds, es, rfl, rfl, hab, ha, hb, ha', hb', r0, rs, re⟩ := n
  have s' := s.keep k
  have nO : ∀ j c, c ∈ O j → c ≠ a ∧ c ≠ b := fun j c m => ⟨fun z => s.trk c (.inr ⟨j, m⟩) (z ▸ ha), fun z => s.trk c (.inr ⟨j, m⟩) (z ▸ hb)⟩
  have iN : ∀ c, NN Z (putO O i [a, b]) c → NN Z O c ∨ c = a ∨ c = b := fun c z => by
    rcases z with z | ⟨j, m⟩
    · exact .inl (.inl z)
    · unfold putO at m
      split at m
      · simp only [List.mem_cons, List.not_mem_nil, or_false] at m
        exact .inr m
      · exact .inl (.inr ⟨j, m⟩)
  refine ⟨a, b, ha, hb, ?_⟩
  exact {
    lenR := by rw [List.length_set, List.length_set]; exact s.lenR
    lenS := by rw [List.length_set, List.length_set]; exact s.lenS
    sm := s.sm
    slot := fun j sh e => by
      rw [getV_set, getS_set]
      rcases get_set e with ⟨rfl, rfl⟩ | ⟨hj, e⟩
      · rw [if_pos rfl, if_pos rfl, if_pos (by rw [s.lenR]; exact hi), if_pos (by rw [s.lenS]; exact hi)]
        exact ⟨a, b, x, xs, ys, d0, ds, es, rfl, if_pos rfl, hab, ha', hb', rfl, r0.imp iN, rs.imp iN, re.imp iN⟩
      · rw [if_neg (fun z => hj z.symm), if_neg (fun z => hj z.symm)]
        have := ((s.slot j sh e).imp (N' := NN Z (putO O i [a, b])) fun c hc z => by
          rcases iN c z with z | z | z
          · exact z
          · exact absurd (z ▸ ha) hc
          · exact absurd (z ▸ hb) hc).keep k
        rw [putO_ne hj]
        exact this
    out := fun j h => by
      rw [List.length_set] at h
      rw [putO_ne (by omega)]
      exact s.out j h
    dis := fun j l c h1 h2 => by
      unfold putO at h1 h2
      by_cases e1 : j = i
      · rw [if_pos e1] at h1
        by_cases e2 : l = i
        · rw [e1, e2]
        · rw [if_neg e2] at h2
          simp only [List.mem_cons, List.not_mem_nil, or_false] at h1
          exact absurd h1 (by obtain ⟨q1, q2⟩ := nO l c h2; exact fun z => z.elim q1 q2)
      · rw [if_neg e1] at h1
        by_cases e2 : l = i
        · rw [if_pos e2] at h2
          simp only [List.mem_cons, List.not_mem_nil, or_false] at h2
          exact absurd h2 (by obtain ⟨q1, q2⟩ := nO j c h1; exact fun z => z.elim q1 q2)
        · rw [if_neg e2] at h2; exact s.dis j l c h1 h2
    trk := fun c z => by
      rcases iN c z with z | z | z
      · exact s'.trk c z
      · rw [z, ha']; exact fun z => nomatch z
      · rw [z, hb']; exact fun z => nomatch z
    zo := fun c j z m => by
      unfold putO at m
      split at m
      · simp only [List.mem_cons, List.not_mem_nil, or_false] at m
        rcases m with m | m
        · exact s.trk c (.inl z) (m ▸ ha)
        · exact s.trk c (.inl z) (m ▸ hb)
      · exact s.zo c j z m
    fix := fun p hp => by
      rw [getS_set, if_neg (fun z => hf p hp z.symm)]
      exact s.fix p hp }
theorem case_deck (i f : Nat) (e : IE) : OkSt k (.deck i f e) := fun C X XD W cur g rs Γ st h xf => fun Γ' en hq => by
    unfold ckS at hq
    split at hq
    · rename_i x pe z pz y pc pos
      obtain ⟨h1, h2⟩ := gd_some hq
      obtain ⟨h1, g16⟩ := bb h1
      obtain ⟨h1, g14⟩ := bb h1
      obtain ⟨h1, g12⟩ := bb h1
      obtain ⟨h1, g10⟩ := bb h1
      obtain ⟨h1, g8⟩ := bb h1
      obtain ⟨h1, g6⟩ := bb h1
      obtain ⟨h1, g4⟩ := bb h1
      obtain ⟨g1, g2⟩ := bb h1
      split at h2
      · rename_i fn hfn
        obtain ⟨k1, k2⟩ := gd_some h2
        obtain ⟨r, h3, h4⟩ := Option.bind_eq_some_iff.mp k2
        cases h4
        obtain ⟨fa, fd, y', F, hm, hk, hb⟩ := h.dks _ (fnB_1 g12) fn hfn k1
        obtain ⟨l1, l2⟩ := h.loc g6
        have ve := (ck_ok e C X XD W cur Γ false y h.toEC).1 r.1 r.2 h3
        refine ⟨⟨fun Z fx B P hx => PSimp (ps_set (by rw [h.N]; exact h.nd) (h.name g4) l1 (pe_callG F (h.calm g2).2 (h.gl g14).1 hm hk hb (fun σ => L2N.passAt h.tk σ) (pa_cons (ve.any Z fx hx) pa_nil (star_cons g16)) (h.gl g14).2 (star_cons g16) (star_any rfl)) rfl l2) fun E σ H hh => ?_⟩, fun z => nomatch z⟩
        obtain ⟨ρ, O, S, hh⟩ := hh
        have hh : ((EV k C cur e ρ).toS fun x ρ => deckD i (run C.P k f [x]) ρ).Post _ _ _ := hh
        rw [toS_Post] at hh
        refine ⟨O, ρ, S.sr, hh.mono (fun d ρ1 h5 v H1 S1 k5 q1 r1 _ => ?_) fun x ρ1 z cls d H1 S1 k1 => z cls d σ H1 O Γ (gB_ok g1) (S.ex S1 k1)⟩
        refine ⟨NN Z O, v, d, rfl, ⟨S1.trk, .inl S1.sm⟩, r1, ?_⟩
        cases er : run C.P k f [d] with
        | stk => rw [er] at h5; exact h5
        | exc x o => rw [er] at h5; exact h5
        | ret d' o =>
          rw [er] at h5
          intro v' H' kk nw
          obtain ⟨a, b, ha, hb', S2⟩ := S1.decked (Nat.blt_lt g10) (fd_ne g8 S.fd) kk nw
          refine (h5 : ∀ σ' H' O', _) _ H' _ ((S.ex S1 k5).step S2 kk.all (fun c z => ?_) (fun c z => (S1.keep kk).there kk.all z) (fd_set g8 S.fd) fun p hp => putO_ne (fd_ne g8 S.fd p hp))
          obtain ⟨j, m⟩ := z
          unfold putO at m
          split at m
          · simp only [List.mem_cons, List.not_mem_nil, or_false] at m
            rcases m with m | m
            · exact .inr (m ▸ ha)
            · exact .inr (m ▸ hb')
          · exact .inl ⟨j, m⟩
      · cases h2
    · cases hq
theorem case_own (i : Nat) (e : IE) : OkSt k (.own i e) := fun C X XD W cur g rs Γ st h xf => fun Γ' en hq => by
    unfold ckS at hq
    split at hq
    · obtain ⟨h1, h2⟩ := gd_some hq
      obtain ⟨g1, g2⟩ := bb h1
      obtain ⟨g3, g4⟩ := bb g1
      obtain ⟨g5, g6⟩ := bb g3
      obtain ⟨g7, g8⟩ := bb g5
      obtain ⟨g9, g10⟩ := bb g7
      obtain ⟨r, h3, h4⟩ := Option.bind_eq_some_iff.mp h2
      obtain ⟨h5, h6⟩ := gd_some h4
      cases h6
      obtain ⟨r1, r2⟩ := r
      cases (show r1 = true from h5)
      exact ⟨vs_own (loc_stq h.toEC g10 g8 g2 h3) (Nat.blt_lt g4) g6 (gB_ok g9), fun z => nomatch z⟩
    · cases hq

theorem case_asg (t : Tg) (e : IE) : OkSt k (.asg t e) := fun C X XD W cur g rs Γ st h xf => fun Γ' en hq => by
    unfold ckS at hq
    split at hq
    · rename_i tg y pos
      obtain ⟨h1, h2⟩ := gd_some hq
      obtain ⟨g1, g2⟩ := bb h1
      obtain ⟨g3, g4⟩ := bb g1
      obtain ⟨g5, g6⟩ := bb g3
      obtain ⟨g7, g8⟩ := bb g5
      obtain ⟨r, h3, h4⟩ := Option.bind_eq_some_iff.mp h2
      cases h4
      obtain ⟨t1, t2⟩ := tg_ok h.toEC t tg g8
      exact ⟨vs_asg ((ck_ok e C X XD W cur Γ false y h.toEC).1 r.1 r.2 h3) t1 g6 t2 (ord_ok g4) (all_fz g2) (gB_ok g7), fun z => nomatch z⟩
    · cases hq

theorem case_app (i : Nat) (e : IE) : OkSt k (.app i e) := fun C X XD W cur g rs Γ st h xf => fun Γ' en hq => by
    unfold ckS at hq
    split at hq
    · rename_i x px n ap y cp pos
      obtain ⟨h1, h2⟩ := gd_some hq
      obtain ⟨g1, g2⟩ := bb h1
      obtain ⟨g3, g4⟩ := bb g1
      obtain ⟨g5, g6⟩ := bb g3
      obtain ⟨g7, g8⟩ := bb g5
      obtain ⟨g9, g10⟩ := bb g7
      obtain ⟨r, h3, h4⟩ := Option.bind_eq_some_iff.mp h2
      cases h4
      have e1 := of_decide_eq_true g6
      subst e1
      obtain ⟨n1, n2, n3⟩ := varB_1 g10
      obtain ⟨d1, d2⟩ := ndb_1 n3
      exact ⟨vs_app (h.name n1) (h.vis n2) d1 d2 (l1_of g8) g4 g2 ((ck_ok e C X XD W cur Γ false y h.toEC).1 r.1 r.2 h3) (gB_ok g9), fun z => nomatch z⟩
    · cases hq

theorem case_seti (i : Nat) (k' e : IE) : OkSt k (.seti i k' e) := fun C X XD W cur g rs Γ st h xf => fun Γ' en hq => by
    unfold ckS at hq
    split at hq
    · rename_i x px z pt y pos
      by_cases hl : l1B Γ i = true
      · rw [if_pos hl] at hq
        obtain ⟨h1, h2⟩ := gd_some hq
        obtain ⟨g1, g2⟩ := bb h1
        obtain ⟨g3, g4⟩ := bb g1
        obtain ⟨g5, g6⟩ := bb g3
        obtain ⟨r, h3, h4⟩ := Option.bind_eq_some_iff.mp h2
        obtain ⟨r2, h5, h6⟩ := Option.bind_eq_some_iff.mp h4
        cases h6
        obtain ⟨n1, n2, n3⟩ := varB_1 g6
        obtain ⟨d1, d2⟩ := ndb_1 n3
        exact ⟨vs_seti (h.name n1) (h.vis n2) d1 d2 (l1_of hl) g4 (sub_plain g2) ((ck_ok e C X XD W cur Γ false y h.toEC).1 r.1 r.2 h3) ((ck_ok k' C X XD W cur Γ false z h.toEC).1 r2.1 r2.2 h5) (gB_ok g5), fun z => nomatch z⟩
      · rw [if_neg hl] at hq
        split at hq
        · rename_i j j' kk pk
          obtain ⟨h1, h2⟩ := gd_some hq
          obtain ⟨g1, g2⟩ := bb h1
          obtain ⟨g3, g4⟩ := bb g1
          obtain ⟨g5, g6⟩ := bb g3
          obtain ⟨g7, g8⟩ := bb g5
          obtain ⟨g9, g10⟩ := bb g7
          obtain ⟨r, h3, h4⟩ := Option.bind_eq_some_iff.mp h2
          cases h4
          have e1 := of_decide_eq_true g4
          subst e1
          obtain ⟨n1, n2, n3⟩ := varB_1 g8
          obtain ⟨d1, d2⟩ := ndb_1 n3
          exact ⟨vs_dks (h.name n1) (h.vis n2) d1 d2 (dk_of g9) (of_decide_eq_true g2) g6 ((ck_ok e C X XD W cur Γ false y h.toEC).1 r.1 r.2 h3) (gB_ok g10), fun z => nomatch z⟩
        · cases hq
    · cases hq

theorem case_dk1 (i : Nat) (k' e : IE) : OkSt k (.dk1 i k' e) := fun C X XD W cur g rs Γ st h xf => fun Γ' en hq => by
    unfold ckS at hq
    split at hq
    · rename_i x px kk pk p1 z pt y pos
      obtain ⟨h1, h2⟩ := gd_some hq
      obtain ⟨g1, g2⟩ := bb h1
      obtain ⟨g3, g4⟩ := bb g1
      obtain ⟨g5, g6⟩ := bb g3
      obtain ⟨g7, g8⟩ := bb g5
      obtain ⟨r, h3, h4⟩ := Option.bind_eq_some_iff.mp h2
      obtain ⟨r2, h5, h6⟩ := Option.bind_eq_some_iff.mp h4
      cases h6
      obtain ⟨n1, n2, n3⟩ := varB_1 g6
      obtain ⟨d1, d2⟩ := ndb_1 n3
      exact ⟨vs_dk1 (h.name n1) (h.vis n2) d1 d2 (dk_of g7) g4 (sub_plain2 g2) ((ck_ok e C X XD W cur Γ false y h.toEC).1 r.1 r.2 h3) ((ck_ok k' C X XD W cur Γ false z h.toEC).1 r2.1 r2.2 h5) (gB_ok g8), fun z => nomatch z⟩
    · cases hq

theorem case_exp (e : IE) : OkSt k (.exp e) := fun C X XD W cur g rs Γ st h xf => fun Γ' en hq => by
    unfold ckS at hq
    split at hq
    · rename_i y pos
      obtain ⟨h1, h2⟩ := gd_some hq
      obtain ⟨g1, g2⟩ := bb h1
      obtain ⟨r, h3, h4⟩ := Option.bind_eq_some_iff.mp h2
      cases h4
      exact ⟨vs_exp ((ck_ok e C X XD W cur Γ false y h.toEC).1 r.1 r.2 h3) g2 (gB_ok g1), fun z => nomatch z⟩
    · cases hq

theorem case_ifs (c : IE) (a b : IS) (ha : OkB k a) (hb : OkB k b) : OkSt k (.ifs c a b) := fun C X XD W cur g rs Γ st h xf => fun Γ' en hq => by
    unfold ckS at hq
    split at hq
    · rename_i z x y pos
      obtain ⟨h1, h2⟩ := gd_some hq
      obtain ⟨qc, h3, h4⟩ := Option.bind_eq_some_iff.mp h2
      obtain ⟨ra, h5, h6⟩ := Option.bind_eq_some_iff.mp h4
      obtain ⟨rb, h7, h8⟩ := Option.bind_eq_some_iff.mp h6
      have vc := (ck_ok c C X XD W cur Γ true z h.toEC).2 qc h3
      obtain ⟨va, ea⟩ := ha C X XD W cur g rs Γ x h xf ra.1 ra.2 h5
      obtain ⟨vb, eb⟩ := hb C X XD W cur g rs Γ y h xf rb.1 rb.2 h7
      by_cases e1 : ra.2 = true
      · rw [if_pos e1] at h8
        cases h8
        refine ⟨vs_if vc (vss_end va (ea e1)) vb (gB_ok h1), fun hb ρ ρ' hn => ?_⟩
        obtain ⟨kk, ρ1, _, h9⟩ := toS_next (show ((EV k C cur c ρ).toS fun k' ρ => if tru k' = true then ES k C cur a ρ else ES k C cur b ρ) = .next ρ' from hn)
        by_cases ck : tru kk = true
        · rw [if_pos ck] at h9; exact ea e1 _ _ h9
        · rw [if_neg ck] at h9; exact eb hb _ _ h9
      · rw [if_neg e1] at h8
        by_cases e2 : rb.2 = true
        · rw [if_pos e2] at h8
          cases h8
          exact ⟨vs_if vc va (vss_end vb (eb e2)) (gB_ok h1), fun z => nomatch z⟩
        · rw [if_neg e2] at h8
          obtain ⟨h9, h10⟩ := gd_some h8
          cases h10
          have e3 := of_decide_eq_true h9
          exact ⟨vs_if vc va (e3 ▸ vb) (gB_ok h1), fun z => nomatch z⟩
    · cases hq

theorem case_fors (t : Tg) (it : IE) (b : IS) (hb : OkB k b) : OkSt k (.fors t it b) := fun C X XD W cur g rs Γ st h xf => fun Γ' en hq => by
    unfold ckS at hq
    split at hq
    · rename_i tg iter x pos
      obtain ⟨h1, h2⟩ := gd_some hq
      obtain ⟨g1, g2⟩ := bb h1
      obtain ⟨g3, g4⟩ := bb g1
      obtain ⟨g5, g6⟩ := bb g3
      obtain ⟨g7, g8⟩ := bb g5
      obtain ⟨qi, h3, h4⟩ := Option.bind_eq_some_iff.mp h2
      obtain ⟨rb, h5, h6⟩ := Option.bind_eq_some_iff.mp h4
      obtain ⟨h7, h8⟩ := gd_some h6
      cases h8
      obtain ⟨vb, eb⟩ := hb C X XD W cur g rs Γ x h xf rb.1 rb.2 h5
      have vi : VI X XD W Γ tg iter false qi (evW (run C.P k) (runH C.P k) cur it) := by
        split at h3
        · rename_i q' hR
          cases h3
          exact ckR_ok it C X XD W cur Γ iter tg h.toEC _ hR
        · obtain ⟨r, h11, h12⟩ := Option.map_eq_some_iff.mp h3
          cases h12
          exact vi_any ((ck_ok it C X XD W cur Γ false _ h.toEC).1 r.1 r.2 h11)
      exact ⟨vs_for (h.po g8) (h.calm g8).1 vi (tg_ok h.toEC t tg g6).1 (keep_shapes vb eb h7) (all_fz g4) (fs_no g2) (gB_ok g7), fun z => nomatch z⟩
    · cases hq

theorem case_whl (c : IE) (b : IS) (hb : OkB k b) : OkSt k (.whl c b) := fun C X XD W cur g rs Γ st h xf => fun Γ' en hq => by
    unfold ckS at hq
    split at hq
    · rename_i z x pos
      obtain ⟨h1, h2⟩ := gd_some hq
      obtain ⟨g1, g2⟩ := bb h1
      obtain ⟨qc, h3, h4⟩ := Option.bind_eq_some_iff.mp h2
      obtain ⟨rb, h5, h6⟩ := Option.bind_eq_some_iff.mp h4
      obtain ⟨h7, h8⟩ := gd_some h6
      cases h8
      obtain ⟨vb, eb⟩ := hb C X XD W cur g rs Γ x h xf rb.1 rb.2 h5
      exact ⟨vs_while (h.po g2) ((ck_ok c C X XD W cur Γ true z h.toEC).2 qc h3) (keep_shapes vb eb h7) (gB_ok g1), fun z => nomatch z⟩
    · cases hq

theorem case_ret (e : IE) : OkSt k (.ret e) := fun C X XD W cur g rs Γ st h xf => fun Γ' en hq => by
    unfold ckS at hq
    split at hq
    · rename_i y pos
      obtain ⟨h1, h2⟩ := gd_some hq
      obtain ⟨r, h3, h4⟩ := Option.bind_eq_some_iff.mp h2
      obtain ⟨h5, h6⟩ := gd_some h4
      cases h6
      refine ⟨vs_ret ((ck_ok e C X XD W cur Γ false y h.toEC).1 r.1 r.2 h3) (hq2 h5) (gB_ok h1), fun _ ρ ρ' hn => ?_⟩
      obtain ⟨d, ρ1, _, h9⟩ := toS_next (show ((EV k C cur e ρ).toS fun d ρ => SOut.ret d ρ) = .next ρ' from hn)
      cases h9
    · cases hq

theorem case_rtn  : OkSt k (.rtn ) := fun C X XD W cur g rs Γ st h xf => fun Γ' en hq => by
    unfold ckS at hq
    split at hq
    · obtain ⟨h1, h2⟩ := gd_some hq
      cases h2
      exact ⟨vs_rtn (by simpa using h1), fun _ ρ ρ' hn => by cases hn⟩
    · cases hq

theorem case_rais (c : Str) (keep : Bool) (e : IE) : OkSt k (.rais c keep e) := fun C X XD W cur g rs Γ st h xf => fun Γ' en hq => by
    unfold ckS at hq
    split at hq
    · rename_i x px m kk pk pc pos
      split at hq
      · rename_i m'
        obtain ⟨h1, h2⟩ := gd_some hq
        cases h2
        obtain ⟨g1, g2⟩ := bb h1
        obtain ⟨g3, g4⟩ := bb g1
        obtain ⟨g5, g6⟩ := bb g3
        obtain ⟨g7, g8⟩ := bb g5
        obtain ⟨g9, g10⟩ := bb g7
        obtain ⟨g11, g12⟩ := bb g9
        have e1 := of_decide_eq_true g8
        have e2 := of_decide_eq_true g6
        subst e1 e2
        have e3 : keep = false := by simpa using g10
        subst e3
        have hx := any_mem g4
        obtain ⟨Cc, B, n1, n2, bm, m1, m2, m3⟩ := xf.made x hx
        refine ⟨vs_raise h.xd (h.calm g12).1 h.tk m2 m3 h.xt hx m1 (h.gl g2).1 (h.gl g2).2 (gB_ok g11), fun _ ρ ρ' hn => by cases hn⟩
      · cases hq
    · cases hq

theorem case_tri (b hs : IS) (hb : OkB k b) (hh : ∀ cs x b r, hs = .hcons cs x b r → OkB k b) : OkSt k (.tri b hs) := fun C X XD W cur g rs Γ st h xf => fun Γ' en hq => by
    unfold ckS at hq
    split at hq
    · rename_i x z pz n y l ph pos
      split at hq
      · rename_i c i bh
        obtain ⟨h1, h2⟩ := gd_some hq
        obtain ⟨g1, g2⟩ := bb h1
        obtain ⟨g3, g4⟩ := bb g1
        obtain ⟨g5, g6⟩ := bb g3
        obtain ⟨g7, g8⟩ := bb g5
        obtain ⟨g9, g10⟩ := bb g7
        obtain ⟨g11, g12⟩ := bb g9
        obtain ⟨g13, g14⟩ := bb g11
        obtain ⟨g15, g16⟩ := bb g13
        obtain ⟨rb, h3, h4⟩ := Option.bind_eq_some_iff.mp h2
        obtain ⟨rh, h5, h6⟩ := Option.bind_eq_some_iff.mp h4
        have ez := of_decide_eq_true g12
        subst ez
        have hhi : C.hi = none := of_decide_eq_true g14
        have hx := any_mem g10
        have hln : X.env.kindOf n = some .local := by
          show X.env.scope.names.lookup n = _
          rw [h.sc]
          exact of_decide_eq_true g4
        have vb : ∀ (W : WX) (pn : List (Addr × Obj)) (xe : Value → Shared → Prop), L2N.Takes (X.tr pn xe) W → PassesOwn (model X.prog X.w) X.A X.env xe → VSs (X.tr pn xe) XD W (fun Γ2 => Γ2 = Γ) rs Γ x rb.1 (ES k C cur b) ∧ (rb.2 = true → ∀ ρ ρ', ES k C cur b ρ ≠ .next ρ') := fun W pn xe tk po => hb C _ XD W cur (some Γ) rs Γ x (h.tr hhi tk po) ⟨xf.made⟩ rb.1 rb.2 h3
        have vh : ∀ (a : Addr) (oe : Obj) (cls : Value) (d : Option Addr) (pn : List (Addr × Obj)) (w : D), L2N.Zn cls d oe → (∃ vs, oe.data = .fields vs) → XC XD cls d w → VSs (X.suite a ((a, oe) :: pn)) (XD.at i) W0 (fun _ => True) rs (Γ.set i .ex) (y :: l) rh.1 (ES k C w bh) ∧ (rh.2 = true → ∀ ρ ρ', ES k C w bh ρ ≠ .next ρ') := fun a oe cls d pn w hz hd hy =>
          hh _ _ _ _ rfl { C with calm := false, hi := some i } _ (XD.at i) W0 w none rs (Γ.set i .ex) (y :: l) (h.suite hz hd hy) ⟨xf.made⟩ rh.1 rh.2 h5
        have fin : ∀ Γ1 Γh, Γh.set i .fz = Γ1 → Γh[i]? = some .ex → (∀ (W : WX) (pn : List (Addr × Obj)) (xe : Value → Shared → Prop), L2N.Takes (X.tr pn xe) W → PassesOwn (model X.prog X.w) X.A X.env xe → VSs (X.tr pn xe) XD W (fun Γ2 => Γ2 = Γ) rs Γ x Γ1 (ES k C cur b)) →
            (∀ (a : Addr) (oe : Obj) (cls : Value) (d : Option Addr) (pn : List (Addr × Obj)) (w : D), L2N.Zn cls d oe → (∃ vs, oe.data = .fields vs) → XC XD cls d w → VSs (X.suite a ((a, oe) :: pn)) (XD.at i) W0 (fun _ => True) rs (Γ.set i .ex) (y :: l) Γh (ES k C w bh)) →
            VS X XD W (GG g) rs Γ (.Try x [.ExceptHandler (some (.Name z pz)) (some n) (y :: l) ph] [] [] pos) Γ1 (ES k C cur (.tri b (.hcons [z] (some i) bh .hnil))) := fun Γ1 Γh e1 e2 vb vh =>
          vs_try (rd := C.rsd) (cs := C.cls) h.xd h.xt h.stk h.fr (by rw [h.N]; exact h.nd) (h.name g6) hln (h.gl g8).1 (h.gl g8).2 hx h.tk (fz_of g2) (gB_ok g15) e1 e2 vb vh (by rw [h.hi]; exact hhi)
        by_cases e1 : rb.2 = true
        · rw [if_pos e1] at h6
          obtain ⟨h7, h8⟩ := gd_some h6
          cases h8
          exact ⟨fin _ rh.1 rfl (of_decide_eq_true h7) (fun W pn xe tk po => vss_end (vb W pn xe tk po).1 ((vb W pn xe tk po).2 e1)) (fun a oe cls d pn w hz hd hy => (vh a oe cls d pn w hz hd hy).1), fun z => nomatch z⟩
        · rw [if_neg e1] at h6
          by_cases e2 : rh.2 = true
          · rw [if_pos e2] at h6
            obtain ⟨h7, h8⟩ := gd_some h6
            cases h8
            obtain ⟨h9, h10⟩ := bb h7
            refine ⟨fin rb.1 (rb.1.set i .ex) ?_ (List.getElem?_set_self (Nat.blt_lt h10)) (fun W pn xe tk po => (vb W pn xe tk po).1) (fun a oe cls d pn w hz hd hy => vss_end (vh a oe cls d pn w hz hd hy).1 ((vh a oe cls d pn w hz hd hy).2 e2)), fun z => nomatch z⟩
            rw [List.set_set]
            exact of_decide_eq_true h9
          · rw [if_neg e2] at h6
            obtain ⟨h7, h8⟩ := gd_some h6
            cases h8
            obtain ⟨h9, h10⟩ := bb h7
            exact ⟨fin rb.1 rh.1 (of_decide_eq_true h9) (of_decide_eq_true h10) (fun W pn xe tk po => (vb W pn xe tk po).1) (fun a oe cls d pn w hz hd hy => (vh a oe cls d pn w hz hd hy).1), fun z => nomatch z⟩
      · cases hq
    · cases hq

end
end BV
set_option Elab.async false
set_option linter.all false
set_option maxRecDepth 100000
set_option maxHeartbeats 4000000
/-! BV30: the checker of statements is right. -/
namespace BV
open PySem PySem.Spec L2
open PyProof.Rows hiding St
section
variable {k : Nat}
theorem okB_nil : OkB k .nil := fun C X XD W cur g rs Γ l h xf Γ' en hq => by
  cases l with
  | nil => cases hq; exact ⟨vss_nil, fun z => nomatch z⟩
  | cons x l => cases hq
theorem okB_frz {i : Nat} {r : IS} (hr : OkB k r) : OkB k (.cons (.frz i) r) := fun C X XD W cur g rs Γ l h xf Γ' en hq => by
  obtain ⟨h1, h2⟩ := gd_some (show gd (l1B Γ i) (ckB C g rs (Γ.set i .fz) r l) = some (Γ', en) from hq)
  obtain ⟨v, e⟩ := hr C X XD W cur g rs (Γ.set i .fz) l h xf Γ' en h2
  exact ⟨vss_frz (l1_of h1) v, fun z ρ ρ' hn => e z ρ ρ' hn⟩
theorem okB_cons {s r : IS} (hs : OkSt k s) (hr : OkB k r) (hf : ∀ i, s ≠ .frz i) : OkB k (.cons s r) := fun C X XD W cur g rs Γ l h xf Γ' en hq => by
  have key : ∀ x l', l = x :: l' → ((ckS C g rs Γ s x).bind fun rx => (ckB C g rs rx.1 r l').bind fun rr => some (rr.1, rx.2 || rr.2)) = some (Γ', en) → VSs X XD W (GG g) rs Γ l Γ' (ES k C cur (.cons s r)) ∧ (en = true → ∀ ρ ρ', ES k C cur (.cons s r) ρ ≠ .next ρ') := by
    intro x l' hl hq2
    subst hl
    obtain ⟨rx, h1, h2⟩ := Option.bind_eq_some_iff.mp hq2
    obtain ⟨rr, h3, h4⟩ := Option.bind_eq_some_iff.mp h2
    cases h4
    obtain ⟨v1, e1⟩ := hs C X XD W cur g rs Γ x h xf rx.1 rx.2 h1
    obtain ⟨v2, e2⟩ := hr C X XD W cur g rs rx.1 l' h xf rr.1 rr.2 h3
    refine ⟨vss_cons v1 v2, fun z ρ ρ' hn => ?_⟩
    obtain ⟨ρ1, h5, h6⟩ := thn_next (show ((ES k C cur s ρ).thn fun ρ => ES k C cur r ρ) = .next ρ' from hn)
    rcases Bool.or_eq_true_iff.mp z with z | z
    · exact e1 z _ _ h5
    · exact e2 z _ _ h6
  cases l with
  | nil => cases s <;> first | (cases hq; done) | exact absurd rfl (hf _)
  | cons x l' =>
    refine key x l' rfl ?_
    cases s <;> first | exact hq | exact absurd rfl (hf _)
theorem okSt_no {is : IS} (h : ∀ C g rs Γ st, ckS C g rs Γ is st = none) : OkSt k is := fun C X XD W cur g rs Γ st _ _ Γ' en hq => by
  rw [h] at hq; cases hq
theorem okB_no {is : IS} (h : ∀ C g rs Γ l, ckB C g rs Γ is l = none) : OkB k is := fun C X XD W cur g rs Γ l _ _ Γ' en hq => by
  rw [h] at hq; cases hq
theorem nb_f {b : Bool} (h : (!b) = true) : b = false := by simpa using h
theorem case_par (i j : Nat) (a b : IE) : OkSt k (.par i j a b) := fun C X XD W cur g rs Γ st h xf => fun Γ' en hq => by
    unfold ckS at hq
    split at hq
    · rename_i x px y py kt pt p q k2 pt2 pos
      obtain ⟨hg, h2⟩ := gd_some hq
      obtain ⟨hg, c16⟩ := bb hg
      obtain ⟨hg, c15⟩ := bb hg
      obtain ⟨hg, c14⟩ := bb hg
      obtain ⟨hg, c13⟩ := bb hg
      obtain ⟨hg, c12⟩ := bb hg
      obtain ⟨hg, c11⟩ := bb hg
      obtain ⟨hg, c10⟩ := bb hg
      obtain ⟨hg, c9⟩ := bb hg
      obtain ⟨hg, c8⟩ := bb hg
      obtain ⟨hg, c7⟩ := bb hg
      obtain ⟨hg, c6⟩ := bb hg
      obtain ⟨hg, c5⟩ := bb hg
      obtain ⟨hg, c4⟩ := bb hg
      obtain ⟨hg, c3⟩ := bb hg
      obtain ⟨c1, c2⟩ := bb hg
      obtain ⟨ra, h3, h4⟩ := Option.bind_eq_some_iff.mp h2
      obtain ⟨rb, h5, h6⟩ := Option.bind_eq_some_iff.mp h4
      cases h6
      have lx : X.env.scope.names.lookup x = some .local := by rw [h.sc]; exact of_decide_eq_true c6
      have ly : X.env.scope.names.lookup y = some .local := by rw [h.sc]; exact of_decide_eq_true c7
      refine ⟨vs_par (h.calm c2).1 (by rw [h.N]; exact h.nd) (h.name c3) (h.name c4) (fun z => by rw [z] at c5; simp at c5) lx ly ((ck_ok a C X XD W cur Γ false p h.toEC).1 ra.1 ra.2 h3) ((ck_ok b C X XD W cur Γ false q h.toEC).1 rb.1 rb.2 h5)
        (star_cons c15) (star_cons c16) (par_sw (by rw [h.sc]; exact h.kind) lx ly c8 (nb_f c9) (nb_f c10) (nb_f c11) (nb_f c12)) (fz_of c13) (fz_of c14) (gB_ok c1), fun z => nomatch z⟩
    · cases hq
theorem case_bad : OkSt k .bad := fun C X XD W cur g rs Γ st _ _ Γ' en hq => by
  cases hq
  refine ⟨⟨fun Z fx B P hx => ⟨fun pins s σ H D I h => ?_⟩⟩, fun _ ρ ρ' h => nomatch h⟩
  obtain ⟨ρ, O, S, h⟩ := h
  exact h.elim
abbrev OkAll (k : Nat) (is : IS) : Prop := OkSt k is ∧ OkB k is ∧ ∀ cs x b r, is = .hcons cs x b r → OkB k b
theorem okAll : ∀ is : IS, OkAll k is := fun is => by
  induction is with
  | nil => exact ⟨okSt_no fun _ _ _ _ _ => rfl, okB_nil, fun _ _ _ _ e => nomatch e⟩
  | cons s r ihs ihr =>
    refine ⟨okSt_no fun _ _ _ _ _ => rfl, ?_, fun _ _ _ _ e => nomatch e⟩
    by_cases h : ∃ i, s = .frz i
    · obtain ⟨i, rfl⟩ := h
      exact okB_frz ihr.2.1
    · exact okB_cons ihs.1 ihr.2.1 fun i e => h ⟨i, e⟩
  | asg t e => exact ⟨case_asg t e, okB_no fun _ _ _ _ l => by cases l <;> rfl, fun _ _ _ _ e => nomatch e⟩
  | set i e => exact ⟨case_set i e, okB_no fun _ _ _ _ l => by cases l <;> rfl, fun _ _ _ _ e => nomatch e⟩
  | par i j a b => exact ⟨case_par i j a b, okB_no fun _ _ _ _ l => by cases l <;> rfl, fun _ _ _ _ e => nomatch e⟩
  | deck i f e => exact ⟨case_deck i f e, okB_no fun _ _ _ _ l => by cases l <;> rfl, fun _ _ _ _ e => nomatch e⟩
  | own i e => exact ⟨case_own i e, okB_no fun _ _ _ _ l => by cases l <;> rfl, fun _ _ _ _ e => nomatch e⟩
  | frz i => exact ⟨okSt_no fun _ _ _ _ _ => rfl, okB_no fun _ _ _ _ l => by cases l <;> rfl, fun _ _ _ _ e => nomatch e⟩
  | app i e => exact ⟨case_app i e, okB_no fun _ _ _ _ l => by cases l <;> rfl, fun _ _ _ _ e => nomatch e⟩
  | seti i k' e => exact ⟨case_seti i k' e, okB_no fun _ _ _ _ l => by cases l <;> rfl, fun _ _ _ _ e => nomatch e⟩
  | dk1 i k' e => exact ⟨case_dk1 i k' e, okB_no fun _ _ _ _ l => by cases l <;> rfl, fun _ _ _ _ e => nomatch e⟩
  | aug i o e => exact ⟨okSt_no fun _ _ _ _ _ => rfl, okB_no fun _ _ _ _ l => by cases l <;> rfl, fun _ _ _ _ e => nomatch e⟩
  | exp e => exact ⟨case_exp e, okB_no fun _ _ _ _ l => by cases l <;> rfl, fun _ _ _ _ e => nomatch e⟩
  | ifs c a b iha ihb => exact ⟨case_ifs c a b iha.2.1 ihb.2.1, okB_no fun _ _ _ _ l => by cases l <;> rfl, fun _ _ _ _ e => nomatch e⟩
  | fors t it b ihb => exact ⟨case_fors t it b ihb.2.1, okB_no fun _ _ _ _ l => by cases l <;> rfl, fun _ _ _ _ e => nomatch e⟩
  | whl c b ihb => exact ⟨case_whl c b ihb.2.1, okB_no fun _ _ _ _ l => by cases l <;> rfl, fun _ _ _ _ e => nomatch e⟩
  | ret e => exact ⟨case_ret e, okB_no fun _ _ _ _ l => by cases l <;> rfl, fun _ _ _ _ e => nomatch e⟩
  | rtn => exact ⟨case_rtn, okB_no fun _ _ _ _ l => by cases l <;> rfl, fun _ _ _ _ e => nomatch e⟩
  | reto i => exact ⟨okSt_no fun _ _ _ _ _ => rfl, okB_no fun _ _ _ _ l => by cases l <;> rfl, fun _ _ _ _ e => nomatch e⟩
  | rais c keep e => exact ⟨case_rais c keep e, okB_no fun _ _ _ _ l => by cases l <;> rfl, fun _ _ _ _ e => nomatch e⟩
  | tri b hs ihb ihh => exact ⟨case_tri b hs ihb.2.1 ihh.2.2, okB_no fun _ _ _ _ l => by cases l <;> rfl, fun _ _ _ _ e => nomatch e⟩
  | bad => exact ⟨case_bad, okB_no fun _ _ _ _ l => by cases l <;> rfl, fun _ _ _ _ e => nomatch e⟩
  | hnil => exact ⟨okSt_no fun _ _ _ _ _ => rfl, okB_no fun _ _ _ _ l => by cases l <;> rfl, fun _ _ _ _ e => nomatch e⟩
  | hcons cs x b r ihb ihr => exact ⟨okSt_no fun _ _ _ _ _ => rfl, okB_no fun _ _ _ _ l => by cases l <;> rfl, fun _ _ _ _ e => by cases e; exact ihb.2.1⟩
/-- the checker's word for a body -/
theorem body_ok (is : IS) : OkB k is := (okAll is).2.1
end
end BV
set_option Elab.async false
set_option linter.all false
set_option maxRecDepth 100000
set_option maxHeartbeats 4000000
/-! BV31: facts of the written part: constants, exceptions' classes; a hook that tells them. -/
namespace BV
open PySem PySem.Spec L2
open PyProof.Rows hiding St

/-! ### constants -/
def krV : Value → D → Bool
  | .none, .none => true
  | .bool b, .bool c => b == c
  | .int i _, .int j => decide (i = j)
  | .str x _, .str y => decide (x = y) && strB x
  | _, _ => false
def strsB : List Value → List D → Bool
  | [], [] => true
  | .str x _ :: us, .str y :: ds => decide (x = y) && strB x && strsB us ds
  | _, _ => false
def krB (K : PySem.W.Frag) : Value → D → Bool
  | .ref a, .tuple ds => (match K.lookup a with
    | some ⟨.type c, _, .seq its _, _⟩ => decide (c = "tuple") && (decide (its.size ≤ sizeLine) && strsB its.toList ds)
    | _ => false)
  | u, d => krV u d
theorem strsB_ok : ∀ {us : List Value} {ds : List D}, strsB us ds = true → ∃ zs : List Str, ds = zs.map .str ∧ Vals (zs.map V.str) us ∧ ∀ z ∈ zs, strG z
  | [], [], _ => ⟨[], rfl, .nil, fun z h => by cases h⟩
  | u :: us, [], h => by cases u <;> cases h
  | [], d :: ds, h => by cases d <;> cases h
  | u :: us, d :: ds, h => by
    cases u <;> cases d <;> first | (cases h; done) | skip
    rename_i x t y
    obtain ⟨h1, h2⟩ := bb (show ((decide (x = y) && strB x) && strsB us ds) = true from h)
    obtain ⟨h3, h4⟩ := bb h1
    have e := of_decide_eq_true h3
    subst e
    obtain ⟨zs, rfl, v, g⟩ := strsB_ok h2
    exact ⟨x :: zs, rfl, .cons ⟨t, rfl⟩ v, fun z hz => (List.mem_cons.mp hz).elim (fun e => e ▸ h4) (g z)⟩
theorem krV_ok {K : PySem.W.Frag} {u : Value} {d : D} (h : krV u d = true) : KRep K u d := by
  cases u <;> cases d <;> first | (cases h; done) | skip
  · exact .non
  · rw [eq_of_beq (show (_ == _) = true from h)]; exact .bl _
  · rw [of_decide_eq_true (show decide _ = true from h)]; exact .int _ _
  · obtain ⟨h1, h2⟩ := bb (show (decide _ && strB _) = true from h)
    have e := of_decide_eq_true h1
    subst e
    exact .str _ _ h2
theorem krB_ok {K : PySem.W.Frag} {u : Value} {d : D} (h : krB K u d = true) : KRep K u d := by
  unfold krB at h
  split at h
  · split at h
    · rename_i a ds c dd its n sl q
      obtain ⟨h1, h2⟩ := bb h
      obtain ⟨h3, h4⟩ := bb h2
      obtain ⟨zs, rfl, v, g⟩ := strsB_ok h4
      exact .txts q (congrArg Value.type (of_decide_eq_true h1)) rfl (of_decide_eq_true h3) v g
    · cases h
  · exact krV_ok h
def glbF (K : PySem.W.Frag) (p : Str × D) : Bool := match PySem.W.nsIn K mainGlobals p.1 with
  | some (some u) => krB K u p.2
  | _ => false
theorem glbF_ok {K : PySem.W.Frag} {h : Heap} {mg : Str → Option Value} (X : K.In h) (G : h.Ns mainGlobals mg) {p : Str × D} (e : glbF K p = true) : ∃ u, mg p.1 = some u ∧ KRep K u p.2 := by
  unfold glbF at e
  split at e
  · rename_i u q
    exact ⟨u, PySem.W.mg_of X G q, krB_ok e⟩
  · cases e

/-! ### classes of exceptions -/
abbrev oB (a b : Option Bool) : Bool := decide (a = b)
def excF (K : PySem.W.Frag) (C : Addr) : Bool :=
  He.eqO (PySem.W.findIn K (.ref C) "__getattribute__") (some (some (.builtin "BaseException.__getattribute__"))) && (He.eqO (PySem.W.findIn K (.ref C) "__getattr__") (some none) && (oB (PySem.W.subIn K (.ref C) (.type "BaseException")) (some true) && (PySem.W.hasDictIn K C &&
    (He.eqO (PySem.W.findIn K (.ref C) "__class__") (some (some (.builtin "object.__class__"))) && (He.eqO (PySem.W.specialIn K (.builtin "object.__class__") "__get__") (some (some (.builtin "getset_descriptor.__get__"))) && (oB (PySem.W.takesIn K (.builtin "object.__class__")) (some true) && oB (PySem.W.mroIn K C (.type "object")) (some true)))))))
theorem excF_ok {K : PySem.W.Frag} {C : Addr} (h : excF K C = true) : ExcC K C := by
  obtain ⟨h1, h⟩ := bb h
  obtain ⟨h2, h⟩ := bb h
  obtain ⟨h3, h⟩ := bb h
  obtain ⟨h4, h⟩ := bb h
  obtain ⟨h5, h⟩ := bb h
  obtain ⟨h6, h⟩ := bb h
  obtain ⟨h7, h8⟩ := bb h
  exact ⟨He.eqO_ok h1, He.eqO_ok h2, of_decide_eq_true h3, h4, He.eqO_ok h5, He.eqO_ok h6, of_decide_eq_true h7, of_decide_eq_true h8⟩
def clsF (K : PySem.W.Frag) (c : Str) : Bool := (He.Fa.glo c).ok K && (PySem.W.keepIn K (.ref (He.ga K c)) && (excF K (He.ga K c) && (decide (PySem.W.typeIn K (.ref (He.ga K c)) = some (.type "type")) && true)))
def pairF (K : PySem.W.Frag) (c h : Str) : Bool := oB (PySem.W.exmOne K (.ref (He.ga K c)) (.ref (He.ga K h))) (some (excSub c h)) && oB (PySem.W.kitOne K (.ref (He.ga K c)) (.ref (He.ga K h))) (some (excSub c h))
def xtF (K : PySem.W.Frag) (rd cs : List Str) : Bool := cs.all (clsF K) && rd.all fun c => cs.any (fun z => decide (z = c)) && (oB (PySem.W.kitOne K (.ref (He.ga K c)) (.type "ValueError")) (some true) && cs.all fun h => pairF K c h)
theorem xtF_ok {K : PySem.W.Frag} {h : Heap} {mg : Str → Option Value} (X : K.In h) (G : h.Ns mainGlobals mg) {rd cs : List Str} (e : xtF K rd cs = true) : XTab K mg rd cs := by
  obtain ⟨e1, e2⟩ := bb e
  have at1 : ∀ c ∈ cs, mg c = some (.ref (He.ga K c)) ∧ PySem.W.keepIn K (.ref (He.ga K c)) = true ∧ ExcC K (He.ga K c) ∧ PySem.W.typeIn K (.ref (He.ga K c)) = some (.type "type") := fun c hc => by
    obtain ⟨h1, h⟩ := bb (List.all_eq_true.mp e1 c hc)
    obtain ⟨h2, h⟩ := bb h
    obtain ⟨h3, h⟩ := bb h
    obtain ⟨h4, h5⟩ := bb h
    exact ⟨He.glo_ok X G h1, h2, excF_ok h3, of_decide_eq_true h4⟩
  have p0 : ∀ c ∈ rd, c ∈ cs ∧ PySem.W.kitOne K (.ref (He.ga K c)) (.type "ValueError") = some true ∧ ∀ h ∈ cs, pairF K c h = true := fun c hc => by
    obtain ⟨h1, h⟩ := bb (List.all_eq_true.mp e2 c hc)
    obtain ⟨h2, h3⟩ := bb h
    exact ⟨any_mem h1, of_decide_eq_true h2, fun h hh => List.all_eq_true.mp h3 h hh⟩
  have sb : ∀ c ∈ rd, c ∈ cs := fun c hc => (p0 c hc).1
  have pr : ∀ c ∈ rd, ∀ h ∈ cs, pairF K c h = true := fun c hc h hh => (p0 c hc).2.2 h hh
  refine ⟨sb, fun c hc => ⟨_, (at1 c hc).1, (at1 c hc).2.1, (at1 c hc).2.2.1, (at1 c hc).2.2.2⟩, fun c hc h hh C C' g1 g2 => ?_, fun c hc h hh C C' g1 g2 => ?_, fun c hc C g1 => ?_⟩
  · rw [(at1 c (sb c hc)).1] at g1
    rw [(at1 h hh).1] at g2
    cases g1
    cases g2
    exact of_decide_eq_true (bb (pr c hc h hh)).1
  · rw [(at1 c (sb c hc)).1] at g1
    rw [(at1 h hh).1] at g2
    cases g1
    cases g2
    exact of_decide_eq_true (bb (pr c hc h hh)).2
  · rw [(at1 c (sb c hc)).1] at g1
    cases g1
    exact (p0 c hc).2.1
/-! ### the hook -/
def hookB (n : Nat) (ck : PySem.W.Frag → Bool) (fa : List He.Fa) (fn : List He.DefD) : PySem.W.Hook where
  α := Bool × He.AlD
  obs := fun s => (ck (He.frG s.heap.get? (He.asD s.heap.get? n)), He.obsDG n fa fn s.heap.get?)
  val := fun _ => (true, He.valD fn)
  says := fun _ h => ∃ K : PySem.W.Frag, K.In h ∧ He.SaysD fa fn K ∧ ck K = true
  of := fun _ _ e => ⟨_, He.frG_in, congrArg Prod.snd e, congrArg Prod.fst e⟩
  keeps := fun _ _ _ ⟨K, hK, c⟩ k => ⟨K, PySem.W.Frag.In.keeps hK k, c⟩
def obsB (n : Nat) (ck : PySem.W.Frag → Bool) (fa : List He.Fa) (fn : List He.DefD) (g : Addr → Option Obj) : Bool × He.AlD := (ck (He.frG g (He.asD g n)), He.obsDG n fa fn g)
theorem obsB_eq {n : Nat} {ck : PySem.W.Frag → Bool} {fa : List He.Fa} {fn : List He.DefD} {g : Addr → Option Obj} {s : Shared} (h : ∀ a, g a = s.heap.get? a) : obsB n ck fa fn g = (hookB n ck fa fn).obs s := by
  have e : g = s.heap.get? := funext h
  rw [e] <;> rfl
end BV
set_option Elab.async false
set_option linter.all false
set_option maxRecDepth 100000
set_option maxHeartbeats 4000000
/-! BV32: the def that makes the deck. -/
namespace BV
open PySem PySem.Spec L2
open PyProof.Rows hiding St
/-- cells = ..; return [cells, [..], 0, 0] -/
def dkBody (j : Nat) (e a0 a1 : IE) : IS := .cons (.set j e) (.cons (.ret (.lst (.econs a0 (.econs a1 (.econs (.cst (.int 0)) (.econs (.cst (.int 0)) .enil)))))) .nil)
def ckD (C : Ck) (Γ : List Sh) (j : Nat) (e a0 a1 : IE) : List Stmt → Bool
  | [s, .Return (some (.List [y0, y1, .Constant (.int z0) _ _, .Constant (.int z1) _ _] _)) _] => decide (z0 = 0) && decide (z1 = 0) && noStar y0 && noStar y1 && (match ckS C none false Γ (.set j e) s with
    | some (Γ1, _) => (match (ck C Γ1 false a0 y0).v, (ck C Γ1 false a1 y1).v with
      | some _, some (true, _) => true
      | _, _ => false)
    | none => false)
  | _ => false
theorem ckD_some {C : Ck} {Γ : List Sh} {j : Nat} {e a0 a1 : IE} {l : List Stmt} (h : ckD C Γ j e a0 a1 l = true) : ∃ s y0 y1 k0 p0 k1 p1 pl pr Γ1 en r0 q1, l = [s, .Return (some (.List [y0, y1, .Constant (.int 0) k0 p0, .Constant (.int 0) k1 p1] pl)) pr] ∧ noStar y0 = true ∧ noStar y1 = true ∧
    ckS C none false Γ (.set j e) s = some (Γ1, en) ∧ (ck C Γ1 false a0 y0).v = some r0 ∧ (ck C Γ1 false a1 y1).v = some (true, q1) := by
  unfold ckD at h
  split at h
  · rename_i s y0 y1 z0 k0 p0 z1 k1 p1 pl pr
    obtain ⟨h, h5⟩ := bb h
    obtain ⟨h, h4⟩ := bb h
    obtain ⟨h, h3⟩ := bb h
    obtain ⟨h1, h2⟩ := bb h
    have e1 := of_decide_eq_true h1
    have e2 := of_decide_eq_true h2
    subst e1 e2
    split at h5
    · rename_i Γ1 en hs
      split at h5
      · rename_i r0 q1 hv0 hv1
        exact ⟨s, y0, y1, k0, p0, k1, p1, pl, pr, Γ1, en, r0, q1, rfl, h3, h4, hs, hv0, hv1⟩
      · cases h5
    · cases h5
  · cases h
section
variable {P : Program} {w : World} {K : PySem.W.Frag} {mg : Str → Option Value} {base : Heap} {XD : XP} {Pr : Nat → Option Fn} {k fi : Nat} {fn : Fn} {f : Addr} {name qual : Str} {params : Arguments} {body : List Stmt} {scope : Scope} {dV kV doc pm cdv ct oc : Value} {an od : Option Addr} {osl : Array (Option Value)} {N : List Str} {y : Str} {C : Ck} {j : Nat} {e a0 a1 : IE}
theorem dk_spec (lk : K.lookup f = some ⟨oc, od, .func (PySem.W.fnOf name qual params body scope dV kV doc pm an cdv ct), osl⟩) (hcd : PySem.W.codeIn K cdv qual = true) (S : FnScope N [y] scope) (hf : Pr fi = some fn) (hN : N.length = fn.ns) (hp : fn.np = 1) (hio : fn.io = false) (hfr : fn.fr = false) (hhot : fn.hot = false) (hns : 0 < fn.ns) (hhi : XD.hi = none) (hb : fn.body = dkBody j e a0 a1) (hC : C.P = Pr)
    (read : ∀ (A : Around) (outer : List PySem.Env) (s : Shared) (H : Hp) (E : XK), RoomG k (A.deeper (envOfC qual scope s.heap.objs.size f cdv)) → SC k C (cxOf (L2N.CX P w) P w K mg base N qual scope f cdv A outer s H E) XD (fun cls d _ H => E cls d H) .none ∧ XF (cxOf (L2N.CX P w) P w K mg base N qual scope f cdv A outer s H E) C)
    (hck : ckD C (shp fn) j e a0 a1 body = true) :
    FnG P w K mg base (L2N.CX P w) (k + 1) f (PySem.W.fnOf name qual params body scope dV kV doc pm an cdv ct) [y] (DSp K (run Pr (k + 1) fi)) := by
  refine fnG_of lk hcd S (fun vs H Q E ⟨_, _, _, h, _⟩ => by rw [h]; rfl) fun A outer s H vs Q E room ⟨Z, v, d, h1, hZ, rv, hrun⟩ => ?_
  subst h1
  obtain ⟨hsc, hxf⟩ := read A outer s H E room
  obtain ⟨st, y0, y1, k0, p0, k1, p1, pl, pr, Γ1, en, r0, q1, rfl, n0, n1, hs, hv0, hv1⟩ := ckD_some hck
  obtain ⟨vs, _⟩ := case_set j e C _ XD _ .none none false (shp fn) st hsc hxf Γ1 en hs
  have v0 := (ck_ok a0 C _ XD _ .none Γ1 false y0 hsc.toEC).1 r0.1 r0.2 hv0
  have v1 := (ck_ok a1 C _ XD _ .none Γ1 false y1 hsc.toEC).1 true q1 hv1
  have hx : HX (cxOf (L2N.CX P w) P w K mg base N qual scope f cdv A outer s H E) XD [] := fun _ z => by rw [hhi] at z; cases z
  have ps := pss_cons (vs.ps Z [] H (fun _ => []) hx) (pss_one (ps_ret (pos := pr) (pe_lst (pos := pl) (pa_cons (v0.any Z [] hx) (pa_cons (v1.any Z [] hx) (pa_cons (pe_int (i := 0) (j := k0) (pos := p0)) (pa_cons (pe_int (i := 0) (j := k1) (pos := p1)) pa_nil (star_cons rfl)) (star_cons rfl)) (star_cons n1)) (star_cons n0)))))
  refine ⟨_, ps, ?_⟩
  have hr1 : RepA K Z H [v] [d] := .cons rv .nil
  have SE := sr_entry (fn := fn) hr1 hZ.1 hZ.2 (by rw [hp]; rfl) (by omega) hio
  have hfx : fxs fn [v] = [] := by unfold fxs; rw [hio]; rfl
  rw [hfx] at SE
  have eσ : L2.start N [v] = sig fn [v] := by unfold L2.start sig; rw [hN]
  rw [run_eq hf (by rw [hp]; rfl) hhot, hb] at hrun
  rw [← hC] at hrun
  have hrun : match fn.endS (((EV k C .none e (rho fn [d])).toS fun d ρ => SOut.next (ρ.set j (some d))).thn fun ρ => (((EVA k C .none (.econs a0 (.econs a1 (.econs (.cst (.int 0)) (.econs (.cst (.int 0)) .enil)))) ρ).bind fun ds ρ => Out.ok (PyData.list ds) ρ).toS fun d ρ => SOut.ret d ρ).thn fun ρ => .next ρ) with
    | .ret d' _ => ∀ v' H', Keep none_ H H' → DkNew K Z H H' v' d' → Q v' H'
    | _ => False := hrun
  refine ⟨rho fn [d], fun _ => [], eσ ▸ ⟨SE, Keep.refl, fun a z => .inl z, fun _ z => z, (fun p hp => nomatch hp), (fun p hp => nomatch hp)⟩, ?_⟩
  show ((EV k C .none e (rho fn [d])).toS fun d ρ => SOut.next (ρ.set j (some d))).Post _ _ _
  have eo : ∀ ρ (g : D → FRes), Fn.endS.outS fn ρ g = g .none := fun ρ g => by unfold Fn.endS.outS; rw [if_neg (by rw [hio]; exact Bool.false_ne_true)]
  cases ee : EV k C .none e (rho fn [d]) with
  | stk => rw [ee] at hrun; exact hrun
  | exc x ρ1 =>
    rw [ee] at hrun
    have hrun : match Fn.endS.outS fn ρ1 (FRes.exc x) with | .ret d' _ => _ | _ => False := hrun
    rw [eo] at hrun
    exact hrun.elim
  | ok dc ρ0 =>
    rw [ee] at hrun
    intro σ1 H1 O1 S1
    have hrun : match fn.endS ((((EVA k C .none (.econs a0 (.econs a1 (.econs (.cst (.int 0)) (.econs (.cst (.int 0)) .enil)))) (ρ0.set j (some dc))).bind fun ds ρ => Out.ok (PyData.list ds) ρ).toS fun d ρ => SOut.ret d ρ).thn fun ρ => .next ρ) with
      | .ret d' _ => ∀ v' H', Keep none_ H H' → DkNew K Z H H' v' d' → Q v' H'
      | _ => False := hrun
    generalize ρ0.set j (some dc) = ρ1 at hrun S1 ⊢
    refine ⟨O1, ρ1, S1.sr, ?_⟩
    have hA : EVA k C .none (.econs a0 (.econs a1 (.econs (.cst (.int 0)) (.econs (.cst (.int 0)) .enil)))) ρ1 = (EV k C .none a0 ρ1).bind fun x ρ => ((EV k C .none a1 ρ).bind fun y ρ => .ok [y, .int 0, .int 0] ρ).bind fun xs ρ => .ok (x :: xs) ρ := rfl
    rw [hA] at hrun
    show (EV k C .none a0 ρ1).Post _ _
    cases e0 : EV k C .none a0 ρ1 with
    | stk => rw [e0] at hrun; exact hrun
    | exc x ρ2 =>
      rw [e0] at hrun
      have hrun : match Fn.endS.outS fn ρ2 (FRes.exc x) with | .ret d' _ => _ | _ => False := hrun
      rw [eo] at hrun
      exact hrun.elim
    | ok d0 ρ2 =>
      rw [e0] at hrun
      intro w0 H2 S2 k2 _ r2 _
      refine ⟨O1, ρ2, S2, ?_⟩
      show (EV k C .none a1 ρ2).Post _ _
      cases e1 : EV k C .none a1 ρ2 with
      | stk =>
        have hrun : match fn.endS ((((((EV k C .none a1 ρ2).bind fun y ρ => Out.ok [y, PyData.int 0, PyData.int 0] ρ).bind fun xs ρ => Out.ok (d0 :: xs) ρ).bind fun ds ρ => Out.ok (PyData.list ds) ρ).toS fun d ρ => SOut.ret d ρ).thn fun ρ => SOut.next ρ) with | .ret d' _ => _ | _ => False := hrun
        rw [e1] at hrun
        exact hrun
      | exc x ρ3 =>
        have hrun : match fn.endS ((((((EV k C .none a1 ρ2).bind fun y ρ => Out.ok [y, PyData.int 0, PyData.int 0] ρ).bind fun xs ρ => Out.ok (d0 :: xs) ρ).bind fun ds ρ => Out.ok (PyData.list ds) ρ).toS fun d ρ => SOut.ret d ρ).thn fun ρ => SOut.next ρ) with | .ret d' _ => _ | _ => False := hrun
        rw [e1] at hrun
        have hrun : match Fn.endS.outS fn ρ3 (FRes.exc x) with | .ret d' _ => _ | _ => False := hrun
        rw [eo] at hrun
        exact hrun.elim
      | ok d1 ρ3 =>
        have hrun : match fn.endS ((((((EV k C .none a1 ρ2).bind fun y ρ => Out.ok [y, PyData.int 0, PyData.int 0] ρ).bind fun xs ρ => Out.ok (d0 :: xs) ρ).bind fun ds ρ => Out.ok (PyData.list ds) ρ).toS fun d ρ => SOut.ret d ρ).thn fun ρ => SOut.next ρ) with | .ret d' _ => ∀ v' H', Keep none_ H H' → DkNew K Z H H' v' d' → Q v' H' | _ => False := hrun
        rw [e1] at hrun
        have hrun : match Fn.endS.outS fn ρ3 (FRes.ret (PyData.list [d0, d1, .int 0, .int 0])) with | .ret d' _ => ∀ v' H', Keep none_ H H' → DkNew K Z H H' v' d' → Q v' H' | _ => False := hrun
        rw [eo] at hrun
        intro w1 H3 S3 k3 _ r3 f3
        obtain ⟨b, ys, es, rfl, rfl, hb2, hb3, rys, _⟩ := f3 rfl
        have S12 : SS K Z Γ1 [] H (fun _ => []) ρ3 σ1 H3 O1 := (S1.ex S2 k2).ex S3 k3
        refine ⟨by show 4 ≤ sizeLine; rw [sizeLine_eq]; decide, fun p hp3 => ?_⟩
        have hnone : ∀ c, H3 c = none → H c = none := fun c hc => by
          cases q : H c with
          | none => rfl
          | some u => exact absurd hc (S12.bt c (by rw [q]; exact fun z => nomatch z))
        have hbH : H b = none := by
          cases q : H b with
          | none => rfl
          | some u => exact absurd hb2 ((S1.ex S2 k2).bt b (by rw [q]; exact fun z => nomatch z))
        have kH : Keep none_ H H3 := S12.kb.mono fun a ⟨_, m⟩ => by cases m
        have kp : Keep none_ H3 (upd H3 p (.lst [w0, .ref b, .int 0, .int 0])) := Keep.new hp3
        have pb : p ≠ b := fun z => by rw [z, hb3] at hp3; cases hp3
        refine (hrun : ∀ v' H', _) _ _ (kH.trans kp) ⟨p, b, w0, [.int 0, .int 0], ys, d0, [.int 0, .int 0], es, rfl, rfl, pb, hnone p hp3, hbH, upd_same, by rw [upd_ne (Ne.symm pb)]; exact hb3, ?_, .cons (.int 0) (.cons (.int 0) .nil), ?_⟩
        · have r2b : Rep K (fun c => NN Z O1 c ∨ c = b) H2 w0 d0 := Rep.impT (fun c hc z => z.elim id fun z => absurd (z ▸ hb2) hc) r2
          have r3b : Rep K (fun c => NN Z O1 c ∨ c = b) H3 w0 d0 := r2b.keep k3 fun c z => .inl (.inr z)
          have r4 : Rep K (fun c => Z c ∨ c = p ∨ c = b) H3 w0 d0 := r3b.impT fun c hc z => by
            rcases z with z | z | z
            · exact .inl (.inl z)
            · exact absurd (z ▸ hp3) hc
            · exact .inr z
          exact r4.keep kp fun _ z => z.elim
        · have r4 : RepA K (fun c => Z c ∨ c = p ∨ c = b) H3 ys es := rys.impT fun c hc z => by
            rcases z with z | z | z
            · exact .inl (.inl z)
            · exact absurd (z ▸ hp3) hc
            · exact .inl (.inr z)
          exact r4.keep kp fun _ z => z.elim
end
end BV
set_option Elab.async false
set_option linter.all false
set_option maxRecDepth 100000
set_option maxHeartbeats 4000000
/-! BV33: all defs of a law keep their promises. -/
namespace BV
open PySem PySem.Spec L2
open PyProof.Rows hiding St
structure DX where
  d : He.DefD
  N : List Str
  ps : List Str
  fn : Fn
structure PX where
  ds : List DX
  glb : List (Str × D)
  rsd : List Str
  cls : List Str
def PX.P (p : PX) (i : Nat) : Option Fn := (p.ds[i]?).map (·.fn)
def PX.fns (p : PX) : List (Str × Nat) := p.ds.zipIdx.map fun q => (q.1.d.name, q.2)
def PX.ck (p : PX) (dx : DX) : Ck := { sc := dx.d.scope, N := dx.N, own := fun _ => true, calm := true, hi := none, glb := p.glb, fns := p.fns, rsd := p.rsd, cls := p.cls, P := p.P }
def fsB (N ps : List Str) (sc : Scope) : Bool := decide (sc.kind = .function) && !sc.isCoroutine && !sc.isGenerator && decide N.Nodup && decide (N.take ps.length = ps) && (ps.all fun x => decide (sc.names.lookup x = some .local) || decide (sc.names.lookup x = some .cell)) && sc.names.all fun y => decide (y.2 ≠ .free)
theorem fsB_ok {N ps : List Str} {sc : Scope} (h : fsB N ps sc = true) : FnScope N ps sc := by
  obtain ⟨h, h7⟩ := bb h
  obtain ⟨h, h6⟩ := bb h
  obtain ⟨h, h5⟩ := bb h
  obtain ⟨h, h4⟩ := bb h
  obtain ⟨h, h3⟩ := bb h
  obtain ⟨h1, h2⟩ := bb h
  refine ⟨of_decide_eq_true h1, by simpa using h2, by simpa using h3, of_decide_eq_true h4, of_decide_eq_true h5, fun x hx => ?_, fun y hy => of_decide_eq_true (List.all_eq_true.mp h7 y hy)⟩
  exact (Bool.or_eq_true_iff.mp (List.all_eq_true.mp h6 x hx)).imp of_decide_eq_true of_decide_eq_true
def isDkB (p : PX) (dx : DX) : IS → Bool
  | .cons (.set j e) (.cons (.ret (.lst (.econs a0 (.econs a1 (.econs (.cst (.int 0)) (.econs (.cst (.int 0)) .enil)))))) .nil) => ckD (p.ck dx) (shp dx.fn) j e a0 a1 dx.d.body
  | _ => false
def DX.ok (p : PX) (dx : DX) : Bool := fsB dx.N dx.ps dx.d.scope && decide (dx.N.length = dx.fn.ns) && decide (dx.ps.length = dx.fn.np) && decide (dx.fn.np ≤ dx.fn.ns) && decide (0 < dx.fn.ns) && (!dx.fn.io || decide (0 < dx.fn.np)) && ndb dx.d.name &&
  (if dx.fn.dk = true then !dx.fn.hot && (!dx.fn.io && (!dx.fn.fr && (decide (dx.fn.np = 1) && isDkB p dx dx.fn.body)))
   else if dx.fn.hot = true then !dx.fn.io && (!dx.fn.fr && (decide (dx.fn.np = 1) && (ckB { p.ck dx with calm := false, hi := some 0 } none false (shpH dx.fn) dx.fn.body dx.d.body).isSome))
   else (ckB (p.ck dx) none dx.fn.fr (shp dx.fn) dx.fn.body dx.d.body).isSome)
structure Facts (K : PySem.W.Frag) (mg : Str → Option Value) (p : PX) : Prop where
  defs : ∀ (i : Nat) (dx : DX), p.ds[i]? = some dx → ∃ f fd, FunD K dx.d.name dx.d.qual dx.d.params dx.d.body dx.d.scope [] [] f fd ∧ mg dx.d.name = some (.ref f) ∧ Binds K fd dx.ps []
  blt : ∀ x ∈ bltNames, mg x = none
  glb : ∀ q ∈ p.glb, ∃ u, mg q.1 = some u ∧ KRep K u q.2
  xt : XTab K mg p.rsd p.cls
  made : ∀ c ∈ p.rsd, ∃ Cc B n1 n2 bm, mg c = some (.ref Cc) ∧ ExcBaseFacts B n1 n2 bm ∧ PySem.W.excIn K Cc bm n1 = true
  ok : ∀ (i : Nat) (dx : DX), p.ds[i]? = some dx → dx.ok p = true
def xp (mg : Str → Option Value) (p : PX) : XP := { xd := XD1 mg p.rsd }
section
variable {P : Program} {w : World} {K : PySem.W.Frag} {mg : Str → Option Value} {base : Heap} {p : PX}
abbrev NX (P : Program) (w : World) : CXT := L2N.CX P w
def OkN (P : Program) (w : World) (K : PySem.W.Frag) (mg : Str → Option Value) (base : Heap) (p : PX) (k i : Nat) (dx : DX) (f : Addr) (fd : FuncData) : Prop :=
  (dx.fn.hot = false → dx.fn.dk = false → FnG P w K mg base (L2N.CX P w) k f fd dx.ps (FSp K (xp mg p) dx.fn (run p.P k i))) ∧ (dx.fn.hot = true → dx.fn.dk = false → ∃ y, dx.ps = [y] ∧ FnX P w K mg base (L2N.CX P w) k f fd [y] (HSp K (xp mg p) (runH p.P k i))) ∧
  (dx.fn.dk = true → ∃ y, dx.ps = [y] ∧ FnG P w K mg base (L2N.CX P w) k f fd [y] (DSp K (run p.P k i)))
def OkL (P : Program) (w : World) (K : PySem.W.Frag) (mg : Str → Option Value) (base : Heap) (p : PX) (k : Nat) : Prop := ∀ (i : Nat) (dx : DX), p.ds[i]? = some dx → ∀ f fd, FunD K dx.d.name dx.d.qual dx.d.params dx.d.body dx.d.scope [] [] f fd → Binds K fd dx.ps [] → OkN P w K mg base p k i dx f fd
theorem fns_mem {x : Str} {i : Nat} (h : (x, i) ∈ p.fns) : ∃ dx, p.ds[i]? = some dx ∧ dx.d.name = x := by
  unfold PX.fns at h
  obtain ⟨q, hq, e⟩ := List.mem_map.mp h
  have := List.mem_zipIdx_iff_getElem?.mp hq
  cases e
  exact ⟨q.1, this, rfl⟩
theorem P_some {i : Nat} {dx : DX} (h : p.ds[i]? = some dx) : p.P i = some dx.fn := by
  unfold PX.P
  rw [h]
  rfl
theorem one_of {l : List Str} (h : l.length = 1) : ∃ y, l = [y] := by
  match l, h with
  | [y], _ => exact ⟨y, rfl⟩
/-- the context of a body, whatever it is -/
theorem ec_of (F : Facts K mg p) {k : Nat} (L : OkL P w K mg base p k) {X : Cx} {W : WX} {cur : D} {C : Ck} {XD : XP} (hp : X.prog = P) (hw : X.w = w) (hK : X.K = K) (hmg : X.mg = mg) (hb : X.base = base) (sc : X.env.scope = C.sc) (kind : C.sc.kind = .function) (N : X.N = C.N) (nd : C.N.Nodup) (own : ∀ x, C.own x = true → X.fn x = true)
    (calm : C.calm = true → X.calm = true ∧ RoomG k X.A) (room : L2H.RoomH k X.A) (free : X.A.guards = some []) (e1 : C.glb = p.glb) (e2 : C.fns = p.fns) (e3 : C.rsd = p.rsd) (e4 : C.cls = p.cls) (e5 : C.P = p.P) (xd : XD.xd = XD1 mg p.rsd) (hi : XD.hi = C.hi) (tk : L2N.Takes X W) (hcur : C.hi ≠ none → HotX X XD cur) : EC k C X XD W cur := by
  obtain ⟨Csc, CN, Cown, Ccalm, Chi, Cglb, Cfns, Crsd, Ccls, CP⟩ := C
  dsimp only at e1 e2 e3 e4 e5
  subst e1 e2 e3 e4 e5
  subst hp hw hK hmg hb
  refine ⟨sc, kind, N, nd, own, calm, room, free, F.blt, F.glb, fun q hq fn e hh hd => ?_, fun q hq fn e hd => ?_, fun q hq fn e hh => ?_, F.xt, xd, hi, tk, hcur⟩
  · obtain ⟨dx, h1, h2⟩ := fns_mem (x := q.1) (i := q.2) hq
    have e' : p.P q.2 = some fn := e
    rw [P_some h1] at e'
    cases e'
    obtain ⟨f, fd, FD, m, bd⟩ := F.defs _ dx h1
    have ok := F.ok _ dx h1
    obtain ⟨o, _⟩ := bb ok
    obtain ⟨o, o7⟩ := bb o
    obtain ⟨o, o6⟩ := bb o
    obtain ⟨o, o5⟩ := bb o
    obtain ⟨o, o4⟩ := bb o
    refine ⟨⟨f, fd, dx.ps, ?_, h2 ▸ m, FD.kp, bd⟩, run_len (P_some h1), of_decide_eq_true o4, h2 ▸ (ndb_1 o7).1⟩
    have := (L _ dx h1 f fd FD bd).1 hh hd
    have e8 : FSp X.K XD dx.fn (run p.P k q.2) = FSp X.K (xp X.mg p) dx.fn (run p.P k q.2) := by
      unfold FSp
      rw [xd]
      rfl
    show FnG X.prog X.w X.K X.mg X.base _ k f fd dx.ps (FSp X.K XD dx.fn (run p.P k q.2))
    rw [e8]
    exact this
  · obtain ⟨dx, h1, h2⟩ := fns_mem (x := q.1) (i := q.2) hq
    have e' : p.P q.2 = some fn := e
    rw [P_some h1] at e'
    cases e'
    obtain ⟨f, fd, FD, m, bd⟩ := F.defs _ dx h1
    obtain ⟨y, hy, G⟩ := (L _ dx h1 f fd FD bd).2.2 hd
    exact ⟨f, fd, y, G, h2 ▸ m, FD.kp, hy ▸ bd⟩
  · obtain ⟨dx, h1, h2⟩ := fns_mem (x := q.1) (i := q.2) hq
    have e' : p.P q.2 = some fn := e
    rw [P_some h1] at e'
    cases e'
    obtain ⟨f, fd, FD, m, bd⟩ := F.defs _ dx h1
    have hdk : dx.fn.dk = false := by
      have ok := F.ok _ dx h1
      obtain ⟨_, o⟩ := bb ok
      cases q : dx.fn.dk with
      | false => rfl
      | true =>
        rw [if_pos q, hh] at o
        cases o
    obtain ⟨y, hy, G⟩ := (L _ dx h1 f fd FD bd).2.1 hh hdk
    refine ⟨f, fd, y, ?_, h2 ▸ m, FD.kp, hy ▸ bd⟩
    have e8 : HSp X.K XD (runH p.P k q.2) = HSp X.K (xp X.mg p) (runH p.P k q.2) := by
      unfold HSp XC
      rw [xd]
      rfl
    show FnX X.prog X.w X.K X.mg X.base _ k f fd [y] (HSp X.K XD (runH p.P k q.2))
    rw [e8]
    exact G
end
end BV
set_option Elab.async false
set_option linter.all false
set_option maxRecDepth 100000
set_option maxHeartbeats 4000000
/-! BV34: all defs, level by level. -/
namespace BV
open PySem PySem.Spec L2
open PyProof.Rows hiding St
section
variable {P : Program} {w : World} {K : PySem.W.Frag} {mg : Str → Option Value} {base : Heap} {p : PX}
theorem okL_zero (F : Facts K mg p) : OkL P w K mg base p 0 := fun i dx h f fd FD bd => by
  have ok := F.ok i dx h
  obtain ⟨o, _⟩ := bb ok
  obtain ⟨o, _⟩ := bb o
  obtain ⟨o, _⟩ := bb o
  obtain ⟨o, _⟩ := bb o
  obtain ⟨o, _⟩ := bb o
  obtain ⟨o, o3⟩ := bb o
  have hps := of_decide_eq_true o3
  refine ⟨fun _ _ => ⟨fun vs H Q E ⟨_, _, _, h, _⟩ => h.trans hps.symm, fun A outer s H args us vs Q E _ _ _ _ ⟨_, _, _, _, _, _, z⟩ => z.elim⟩, fun hh hd => ?_, fun hd => ?_⟩
  · have ok := F.ok i dx h
    obtain ⟨_, o⟩ := bb ok
    rw [if_neg (by rw [hd]; exact Bool.false_ne_true), if_pos hh] at o
    obtain ⟨_, o⟩ := bb o
    obtain ⟨_, o⟩ := bb o
    obtain ⟨o, _⟩ := bb o
    obtain ⟨y, hy⟩ := one_of (hps.trans (of_decide_eq_true o))
    exact ⟨y, hy, ⟨fun p vs H Q E ⟨_, _, _, _, h, _⟩ => by rw [h]; rfl, fun A outer s H args us vs Q E p _ _ _ _ _ _ _ ⟨_, _, _, _, _, _, _, _, _, z⟩ => z.elim⟩⟩
  · have ok := F.ok i dx h
    obtain ⟨_, o⟩ := bb ok
    rw [if_pos hd] at o
    obtain ⟨_, o⟩ := bb o
    obtain ⟨_, o⟩ := bb o
    obtain ⟨_, o⟩ := bb o
    obtain ⟨o, _⟩ := bb o
    obtain ⟨y, hy⟩ := one_of (hps.trans (of_decide_eq_true o))
    exact ⟨y, hy, ⟨fun vs H Q E ⟨_, _, _, h, _⟩ => by rw [h]; rfl, fun A outer s H args us vs Q E _ _ _ _ ⟨_, _, _, _, _, _, z⟩ => z.elim⟩⟩
theorem dkBody_of {dx : DX} (h : isDkB p dx dx.fn.body = true) : ∃ j e a0 a1, dx.fn.body = dkBody j e a0 a1 ∧ ckD (p.ck dx) (shp dx.fn) j e a0 a1 dx.d.body = true := by
  unfold isDkB at h
  split at h
  · rename_i j e a0 a1 hb
    exact ⟨j, e, a0, a1, hb, h⟩
  · cases h
theorem okL_succ (F : Facts K mg p) {k : Nat} (L : OkL P w K mg base p k) : OkL P w K mg base p (k + 1) := fun i dx h f fd FD bd => by
  have ok := F.ok i dx h
  obtain ⟨o, kind⟩ := bb ok
  obtain ⟨o, o7⟩ := bb o
  obtain ⟨o, o6⟩ := bb o
  obtain ⟨o, o5⟩ := bb o
  obtain ⟨o, o4⟩ := bb o
  obtain ⟨o, o3⟩ := bb o
  obtain ⟨o1, o2⟩ := bb o
  have S := fsB_ok o1
  have hps := of_decide_eq_true o3
  have hNs := of_decide_eq_true o2
  have hns := of_decide_eq_true o5
  obtain ⟨oc, od, dV, kV, doc, pm, an, cdv, ct, osl, rfl, lk, hcd, _, _⟩ := FD.ex
  have sc : ∀ (A : Around) (outer : List PySem.Env) (s : Shared) (H : Hp) (E : XK), RoomG k (A.deeper (envOfC dx.d.qual dx.d.scope s.heap.objs.size f cdv)) → SC k (p.ck dx) (cxOf (L2N.CX P w) P w K mg base dx.N dx.d.qual dx.d.scope f cdv A outer s H E) (xp mg p) (fun cls d _ H => E cls d H) .none ∧ XF (cxOf (L2N.CX P w) P w K mg base dx.N dx.d.qual dx.d.scope f cdv A outer s H E) (p.ck dx) := fun A outer s H E room => by
    refine ⟨⟨ec_of F L (C := p.ck dx) (X := cxOf (L2N.CX P w) P w K mg base dx.N dx.d.qual dx.d.scope f cdv A outer s H E) rfl rfl rfl rfl rfl rfl S.kind rfl S.nd (fun _ _ => rfl) (fun _ => ⟨rfl, room⟩) (L2H.roomH_of room.room) room.free rfl rfl rfl rfl rfl rfl rfl (L2N.takes_of rfl rfl rfl rfl) (fun z => absurd rfl z), fun _ => passes_of rfl, rfl, rfl⟩, ⟨F.made⟩⟩
  by_cases hdk : dx.fn.dk = true
  · rw [if_pos hdk] at kind
    obtain ⟨q1, kind⟩ := bb kind
    obtain ⟨q2, kind⟩ := bb kind
    obtain ⟨q3, kind⟩ := bb kind
    obtain ⟨q4, kind⟩ := bb kind
    obtain ⟨y, hy⟩ := one_of (hps.trans (of_decide_eq_true q4))
    obtain ⟨j, e, a0, a1, hb, hck⟩ := dkBody_of kind
    refine ⟨fun _ z => absurd hdk (by rw [z]; exact Bool.false_ne_true), fun _ z => absurd hdk (by rw [z]; exact Bool.false_ne_true), fun _ => ⟨y, hy, ?_⟩⟩
    exact dk_spec (XD := xp mg p) (C := p.ck dx) lk hcd (hy ▸ S) (P_some h) hNs (of_decide_eq_true q4) (by simpa using q2) (by simpa using q3) (by simpa using q1) hns rfl hb rfl sc hck
  · rw [if_neg hdk] at kind
    by_cases hh : dx.fn.hot = true
    · rw [if_pos hh] at kind
      obtain ⟨q2, kind⟩ := bb kind
      obtain ⟨q3, kind⟩ := bb kind
      obtain ⟨q4, kind⟩ := bb kind
      obtain ⟨y, hy⟩ := one_of (hps.trans (of_decide_eq_true q4))
      obtain ⟨⟨Γ', en⟩, hck⟩ := Option.isSome_iff_exists.mp kind
      refine ⟨fun z => absurd hh (by rw [z]; exact Bool.false_ne_true), fun _ _ => ⟨y, hy, ?_⟩, fun z => absurd z hdk⟩
      refine fnX_spec (XD := xp mg p) lk hcd (hy ▸ S) (P_some h) hNs hns hh (by simpa using q2) (by simpa using q3) fun A outer s H E o cur room free hcur => ⟨Γ', ?_⟩
      exact (body_ok dx.fn.body { p.ck dx with calm := false, hi := some 0 } _ ((xp mg p).at 0) W0 cur none false (shpH dx.fn) dx.d.body ⟨ec_of F L (C := { p.ck dx with calm := false, hi := some 0 }) (X := L2H.cxH (L2N.CX P w) P w K mg base dx.N dx.d.qual dx.d.scope f cdv A outer s H E o) rfl rfl rfl rfl rfl rfl S.kind rfl S.nd (fun _ _ => rfl) (fun z => nomatch z) room free rfl rfl rfl rfl rfl rfl rfl takes_W0 (fun _ => hcur), (fun z => nomatch z), rfl, rfl⟩ ⟨F.made⟩ Γ' en hck).1
    · rw [if_neg hh] at kind
      obtain ⟨⟨Γ', en⟩, hck⟩ := Option.isSome_iff_exists.mp kind
      have hh' : dx.fn.hot = false := by simpa using hh
      refine ⟨fun _ _ => ?_, fun z => absurd z hh, fun z => absurd z hdk⟩
      refine fn_spec (XD := xp mg p) lk hcd S (P_some h) hNs hps (hq2 o6 · |> of_decide_eq_true) hns rfl hh' fun A outer s H E room => ⟨Γ', ?_⟩
      exact (body_ok dx.fn.body (p.ck dx) _ (xp mg p) _ .none none dx.fn.fr (shp dx.fn) dx.d.body (sc A outer s H E room).1 (sc A outer s H E room).2 Γ' en hck).1
theorem all_ok (F : Facts K mg p) : ∀ k, OkL P w K mg base p k
  | 0 => okL_zero F
  | k + 1 => okL_succ F (all_ok F k)
end
end BV
set_option Elab.async false
set_option linter.all false
set_option maxRecDepth 100000
set_option maxHeartbeats 4000000
/-! BV35: a law's end. -/
namespace BV
open PySem PySem.Spec L2
open PyProof.Rows hiding St
/-- the heap's reading in which the script alone is told -/
def Hs (a : Addr) (vs : List Value) (ns : List Int) (o1 : Obj) : Hp := fun b => if b = a then some (.frz { cls := .type "list", data := .seq vs.toArray } (.lst (ns.map V.int))) else if b = sysModules then some (.frz o1 (.own sysModules)) else none
section
variable {P : Program} {w : World} {K : PySem.W.Frag} {mg mb : Str → Option Value} {k : Nat} {fa a : Addr} {fd : FuncData} {x : Str} {sp : Sp} {s1 : Shared} {vs : List Value} {ns : List Int} {o1 : Obj}
theorem Hs_at : Hs a vs ns o1 a = some (.frz { cls := .type "list", data := .seq vs.toArray } (.lst (ns.map V.int))) := if_pos rfl
theorem Hs_sm (h : a ≠ sysModules) : Hs a vs ns o1 sysModules = some (.frz o1 (.own sysModules)) := by
  unfold Hs
  rw [if_neg fun z => h z.symm, if_pos rfl]
theorem Hs_ne {b : Addr} (h : b ≠ a) (h1 : b ≠ sysModules) : Hs a vs ns o1 b = none := by
  unfold Hs
  rw [if_neg h, if_neg h1]
theorem law_end (kin : K.In s1.heap) (main : s1.heap.Ns mainGlobals mg) (blt : s1.heap.Ns builtinsNs mb) (boot : ∀ x : Str, x ≠ "__name__" → mb x = bootBuiltins x) (lim : s1.heap.NoLimit) (bare : s1.gens = #[]) (script : s1.heap.get? a = some { cls := .type "list", data := .seq vs.toArray })
    (hints : IntsAre vs ns) (short : ns.length ≤ sizeLine) (room : RoomG k callerA) (away : K.lookup a = none) (away1 : K.lookup sysModules = none) (ha : a ≠ sysModules) (hsm : s1.heap.get? sysModules = some o1) (F : ∀ base : Heap, K.In base → base.Ns mainGlobals mg → FnG P w K mg base (L2N.CX P w) k fa fd [x] sp) (bind : ∀ (s : Shared) (u : Value), BindsTo s fd ⟨[u], []⟩ [(x, u)])
    (wish : sp [.ref a] (Hs a vs ns o1) (fun v _ => v = .bl true) fun _ _ _ => False) :
    codeAny (model P w) callerA (.call (.ref fa) ⟨[.ref a], []⟩) (fun r s' => r = .ok (.ret (.bool true)) ∧ OldK s1.heap s'.heap ∧ s'.os = s1.os ∧ AllBare s'.gens) s1 := by
  have told : HOk P w (Hs a vs ns o1) s1.heap := fun b u z => by
    by_cases e : b = a
    · subst e
      rw [Hs_at] at z
      cases z
      exact ⟨script, by rw [List.length_map]; exact short, vs, _, vals_ints hints, script⟩
    · by_cases e1 : b = sysModules
      · subst e1
        rw [Hs_sm ha] at z
        cases z
        exact ⟨hsm, _, hsm⟩
      · rw [Hs_ne e e1] at z; cases z
  have old : ∀ {b : Addr} {o : Obj}, s1.heap.get? b = some o → b ≠ a → b ≠ sysModules → (hidT s1.heap (Hs a vs ns o1)).get? b = some o := fun e n n1 => hidT_get e (Hs_ne n n1)
  have oldNs : ∀ {b : Addr} {m : Str → Option Value}, b ≠ sysModules → s1.heap.Ns b m → (hidT s1.heap (Hs a vs ns o1)).Ns b m := fun {b m} hb1 ⟨o, es, ep, e, d, r⟩ => by
    refine ⟨o, es, ep, old e (fun z => ?_) hb1, d, r⟩
    rw [z, script] at e
    cases e
    cases d
  have kinB : K.In (hidT s1.heap (Hs a vs ns o1)) := fun b o e => old (kin b o e) (fun z => by rw [z, away] at e; cases e) (fun z => by rw [z, away1] at e; cases e)
  have env : Env0 P w K mg (hidT s1.heap (Hs a vs ns o1)) callerA [] s1 (Hs a vs ns o1) := by
    refine ⟨rfl, ⟨kinB, oldNs (by decide) main, ⟨mb, oldNs (by decide) blt, boot⟩, ?_⟩, fun b o e => of_hidT e, Nat.le_of_eq (hidT_size _ _), trivial, fun b hb => ?_, told, .of_eq bare⟩
    · obtain ⟨mc, h1, h2⟩ := lim
      exact ⟨mc, oldNs (by decide) h1, h2⟩
    · exact nomatch (show b ∈ ([] : List Addr) from hb)
  refine codeAny_mono ((F _ kinB (oldNs (by decide) main)).go callerA [] s1 (Hs a vs ns o1) ⟨[.ref a], []⟩ [.ref a] [.ref a] _ _ room env (bind s1 (.ref a)) (.cons rfl .nil) wish) fun r s' h => ?_
  match r, h with
  | .error e, h =>
    obtain ⟨_, _, _, _, _, _, _, _, _, _, _, _, z⟩ := h
    exact z.elim
  | .ok (.ret u), h =>
    obtain ⟨v, H', os, bare', un, ok', rv, rfl⟩ := h
    obtain rfl : u = Value.bool true := rv
    refine ⟨rfl, OldK.of_keep fun b o e => ?_, os, bare'⟩
    by_cases z : b = a
    · subst z
      have f2 := un.frzs b _ _ Hs_at
      rw [script] at e
      cases e
      exact (ok' b _ f2).1
    by_cases z1 : b = sysModules
    · subst z1
      have f2 := un.frzs _ _ _ (Hs_sm ha)
      rw [hsm] at e
      cases e
      exact (ok' _ _ f2).1
    · exact un.keep b o e (Hs_ne z z1) (fun q => nomatch (show b ∈ ([] : List Addr) from q)) (fun q => nomatch (show b ∈ ([] : List Addr) from q))
end
end BV
set_option Elab.async false
set_option linter.all false
set_option maxRecDepth 100000
set_option maxHeartbeats 4000000
/-! BV36: a law's walk from the plain law. -/
namespace BV
open PySem PySem.Spec L2
open PyProof.Rows hiding St
/-- no list of the module's own -/
def noLst (K : PySem.W.Frag) : Bool := (K.all fun p => !decide (p.2.cls = .type "list")) && (K.lookup sysModules).isNone
theorem mem_lk {a : Addr} {o : Obj} : ∀ {K : List (Addr × Obj)}, K.lookup a = some o → (a, o) ∈ K
  | [], e => nomatch e
  | (b, u) :: r, e => by
    by_cases h : (a == b) = true
    · rw [List.lookup_cons, h] at e
      cases e
      rw [beq_iff_eq.mp h]
      exact List.mem_cons_self ..
    · rw [List.lookup_cons, show (a == b) = false by simpa using h] at e
      exact List.mem_cons_of_mem _ (mem_lk e)
theorem noLst_ok {K : PySem.W.Frag} (h : noLst K = true) {a : Addr} {o : Obj} (e : K.lookup a = some o) : o.cls ≠ .type "list" := by
  have := List.all_eq_true.mp (Bool.and_eq_true_iff.mp h).1 (a, o) (mem_lk e)
  simpa using this
theorem noLst_sm {K : PySem.W.Frag} (h : noLst K = true) : K.lookup sysModules = none := Option.isNone_iff_eq_none.mp (Bool.and_eq_true_iff.mp h).2
theorem rep_ints {K : PySem.W.Frag} {N : Addr → Prop} {H : Hp} : ∀ ns : List Int, RepA K N H (ns.map V.int) (ns.map PyData.int)
  | [] => .nil
  | n :: ns => .cons (.int n) (rep_ints ns)
/-- how small a script is -/
abbrev Small (ns : List Int) : Prop := ∀ k ∈ ns, Builtin.Int.intBits k ≤ 1048576
theorem reads_sm {R : PySem.W.WRecords} {cl : Str → Option Addr} {h : Heap} {a : Addr} {xs : List PySem.W.WData} {as : List Addr} (r : PySem.W.ReadsAllW R cl h [.ref a] [.list xs] as) (n : ∀ b ∈ as, (b == sysModules) = false) : a ≠ sysModules := by
  cases r with
  | cons r1 r2 =>
    cases r1 with
    | list _ _ _ _ =>
      have := n a (by simp)
      simpa using this
/-- the script's own list isn't sysModules -/
theorem attachS {l : PySem.W.OpenLaw} {n : Nat} {q : Program} {loose : List Str} {XP : (Str → Option Value) → Heap → Prop} {YP : World → Heap → Prop} {d : DefRec} (hn : l.most = some n) (hdf : d.params.defaults = [])
    (run : ∀ (w : World) (t₀ t₁ : Shared) (mg mb : Str → Option Value) (fa : Addr) (o : Obj) (pm cd doc : Value) (a : Addr) (vs : List Value) (ns : List Int), PySem.W.Ground q loose [] XP w t₀ mg mb t₁.heap → YP w t₁.heap →
      t₁.heap.get? fa = some o → mg d.name = some (.ref fa) → t₁.heap.get? a = some { cls := .type "list", data := .seq vs.toArray } → IntsAre vs ns → ns.length ≤ n → Small ns → t₁.gens = #[] → a ≠ sysModules →
      codeAny (model l.prog w) callerA (.call (.ref fa) ⟨[.ref a], []⟩) (fun r s' => r = .ok (.ret (.bool true)) ∧ OldK t₁.heap s'.heap ∧ s'.os = t₁.os ∧ AllBare s'.gens) t₁) : PySem.W.WalkO q loose XP YP l.row.toRowW d [] (fun f vs => PySem.call f vs) := by
  intro w t₀ t₁ mg mb G Y fa o pm cd doc dV kV ho hd hcd hD hmg hg args vals as hpre hlay hrd hwl hsys
  obtain ⟨a, vs, ns, rfl, rfl, hobj, hints, hlen⟩ := Att.script_of hn hpre hwl
  cases PySem.W.Dflts.none hD hdf
  cases PySem.W.Dflts.noKw hD
  have z : a ≠ sysModules := reads_sm hrd hsys
  have main := run w t₀ t₁ mg mb fa o pm cd doc a vs ns G Y ho hmg hobj hints hlen (Att.script_bits hlay) hg z
  refine PySem.W.enter_call (codeAny_mono main fun r s' hq => ?_)
  obtain ⟨rfl, q2, q3, q4⟩ := hq
  exact ⟨.inl ⟨.bool true, .bool true, [], rfl, fun _ => rfl, .bool true, Att.post_true l _, fun _ => ⟨List.Pairwise.nil, fun _ hm => (nomatch hm)⟩⟩, q2, q3, q4⟩
theorem law_walk {l : PySem.W.OpenLaw} {n k i : Nat} {q : Program} {loose : List Str} {XP : (Str → Option Value) → Heap → Prop} {YP : World → Heap → Prop} {d : DefRec} {p : PX} {dx : DX} {x : Str} (hn : l.most = some n) (hn2 : n ≤ sizeLine) (hdf : d.params.defaults = []) (room : RoomG k callerA) (hdx : p.ds[i]? = some dx) (hname : d.name = dx.d.name) (hps : dx.ps = [x])
    (himp : importsNone q = true) (hio : dx.fn.io = false) (hhot : dx.fn.hot = false) (hdk : dx.fn.dk = false) (hnp : dx.fn.np = 1) (hns : dx.fn.np ≤ dx.fn.ns)
    (facts : ∀ (w : World) (mg : Str → Option Value) (h : Heap), YP w h → h.Ns mainGlobals mg → ∃ K : PySem.W.Frag, K.In h ∧ noLst K = true ∧ Facts K mg p)
    (bind : ∀ (K : PySem.W.Frag) (f : Addr) (fd : FuncData), FunD K dx.d.name dx.d.qual dx.d.params dx.d.body dx.d.scope [] [] f fd → ∀ (s : Shared) (u : Value), BindsTo s fd ⟨[u], []⟩ [(x, u)])
    (plain : ∀ ns : List Int, ns.length ≤ n → Small ns → ∃ o, run p.P k i [.list (ns.map .int)] = .ret (.bool true) o) : PySem.W.WalkO q loose XP YP l.row.toRowW d [] (fun f vs => PySem.call f vs) := by
  refine attachS hn hdf fun w s₀ s₁ mg mb fa o pm cd doc a vs ns G Y ho hmg hobj hints hlen hbits hg hz => ?_
  obtain ⟨K, KX, hl, F⟩ := facts w mg _ Y G.T.g
  obtain ⟨f, fd, FD, m, bd⟩ := F.defs i dx hdx
  have ef : fa = f := by
    have : some (Value.ref fa) = some (Value.ref f) := hmg.symm.trans (hname ▸ m)
    cases this
    rfl
  subst ef
  have away : K.lookup a = none := by
    cases e : K.lookup a with
    | none => rfl
    | some o =>
      have e2 := KX a o e
      rw [hobj] at e2
      cases e2
      exact absurd rfl (noLst_ok hl e)
  obtain ⟨o1, hsm⟩ : ∃ o1, s₁.heap.get? sysModules = some o1 := by
    obtain ⟨mm, ⟨o, _, _, e, _⟩, _⟩ := (G.T.seer himp).mods
    exact ⟨o, e⟩
  refine law_end KX G.T.g G.T.b G.T.builtins G.T.nolimit hg hobj hints (Nat.le_trans hlen hn2) room away (noLst_sm hl) hz hsm (fun base _ _ => hps ▸ (all_ok F k i dx hdx fa fd FD bd).1 hhot hdk) (bind K fa fd FD) ?_
  obtain ⟨o', hr⟩ := plain ns hlen hbits
  have r : RepA K (fun b => b = sysModules) (Hs a vs ns o1) [.ref a] [.list (ns.map .int)] := .cons (.lst (.inr ⟨_, Hs_at⟩) hz (rep_ints ns)) .nil
  have tr : ∀ b, b = sysModules → Hs a vs ns o1 b ≠ none := fun b e => by rw [e, Hs_sm hz]; exact fun z => nomatch z
  refine ⟨fun b => b = sysModules, fun _ => [], [.list (ns.map .int)], by rw [hnp]; rfl, by rw [hnp]; rfl, sr_entry r tr rfl (by rw [hnp]; rfl) hns hio, ?_⟩
  rw [hr]
  intro v H' _ _ rv _ _
  exact (RepT.rep rv).bool_inv
end BV
set_option Elab.async false
set_option linter.all false
set_option maxRecDepth 100000
set_option maxHeartbeats 4000000
/-! BV37: a law's facts from the head. -/
namespace BV
open PySem PySem.Spec L2
open PyProof.Rows hiding St
/-- what the head is asked -/
def ckP (p : PX) (K : PySem.W.Frag) : Bool := (p.ds.all fun dx => (He.Fa.glo dx.d.name).ok K) && (bltNames.all fun x => (He.Fa.free x).ok K) && p.glb.all (glbF K) && xtF K p.rsd p.cls && (p.rsd.all fun c => PySem.W.excIn K (He.ga K c) He.veBase "ValueError.__new__") && noLst K
/-- what is plain of the defs -/
def defsB (p : PX) : Bool := p.ds.all fun dx => dx.d.dfl.isEmpty && dx.d.kwd.isEmpty && decide (dx.d.at_ = (dx.d.name, none))
def PX.fn (p : PX) : List He.DefD := p.ds.map (·.d)
theorem facts_of {p : PX} {K : PySem.W.Frag} {h : Heap} {mg : Str → Option Value} (X : K.In h) (G : h.Ns mainGlobals mg) (c : He.SaysD [] p.fn K) (ck : ckP p K = true) (hd : defsB p = true) (ok : p.ds.all (fun dx => dx.ok p) = true)
    (bd : ∀ (i : Nat) (dx : DX), p.ds[i]? = some dx → ∀ (kV doc pm : Value) (an : Option Addr) (cdv ct : Value) (us : List Value), us.length = dx.ps.length → bindArgs (PySem.W.fnOf dx.d.name dx.d.qual dx.d.params dx.d.body dx.d.scope .none kV doc pm an cdv ct) ⟨us, []⟩ = pure (dx.ps.zip us)) :
    noLst K = true ∧ Facts K mg p := by
  obtain ⟨ck, c6⟩ := bb ck
  obtain ⟨ck, c5⟩ := bb ck
  obtain ⟨ck, c4⟩ := bb ck
  obtain ⟨ck, c3⟩ := bb ck
  obtain ⟨c1, c2⟩ := bb ck
  have xt := xtF_ok X G c4
  refine ⟨c6, fun i dx hi => ?_, fun x hx => He.free_ok X G (List.all_eq_true.mp c2 x hx), fun q hq => glbF_ok X G (List.all_eq_true.mp c3 q hq), xt, fun c hc => ?_, fun i dx hi => List.all_eq_true.mp ok dx (List.mem_of_getElem? hi)⟩
  · obtain ⟨fd, FD⟩ := c.def_ i (d := dx.d) (by unfold PX.fn; rw [List.getElem?_map, hi]; rfl)
    obtain ⟨q, q3⟩ := bb (List.all_eq_true.mp hd dx (List.mem_of_getElem? hi))
    obtain ⟨q1, q2⟩ := bb q
    have e1 : dx.d.dvs K = [] := by unfold He.DefD.dvs; rw [List.isEmpty_iff.mp q1]; rfl
    have e2 : dx.d.kws K = [] := by unfold He.DefD.kws; rw [List.isEmpty_iff.mp q2]; rfl
    have e3 : He.fAd K dx.d.at_ = He.ga K dx.d.name := by rw [of_decide_eq_true q3]; rfl
    rw [e1, e2, e3] at FD
    exact ⟨_, fd, FD, He.glo_ok X G (List.all_eq_true.mp c1 dx (List.mem_of_getElem? hi)), FD.bindsN (bd i dx hi)⟩
  · obtain ⟨C, g, _⟩ := xt.at_ c (xt.sub c hc)
    have g2 : mg c = some (.ref (He.ga K c)) := He.glo_ok X G (bb (List.all_eq_true.mp (bb c4).1 c (xt.sub c hc))).1
    exact ⟨_, _, _, _, _, g2, PySem.F.excBase_ValueError, List.all_eq_true.mp c5 c hc⟩
end BV
set_option Elab.async false
set_option linter.all false
set_option maxRecDepth 100000
set_option maxHeartbeats 4000000
/-! BVD: plain laws of the law's drawing. -/
namespace BV
open PySem
section
variable {call : Nat → List D → FRes} {hcall : Nat → D → FRes} {cur : D}
theorem opIdx_nat {xs : List D} {i : Nat} {x : D} (h : xs[i]? = some x) : opIdx (.list xs) (.int (i : Int)) = some x := by
  show (atIx xs.length (i : Int)).bind (fun k => xs[k]?) = some x
  have hl : i < xs.length := (List.getElem?_eq_some_iff.mp h).1
  have : atIx xs.length (i : Int) = some i := by
    unfold atIx
    rw [if_pos (Int.natCast_nonneg i), if_pos (by exact_mod_cast hl)]
    rfl
  rw [this]
  exact h
/-- the deck's cells, great cells, place, count -/
def deckOf (cells ys : List Int) (i m : Nat) : D := .list [.list (cells.map .int), .list (ys.map .int), .int i, .int m]
def cellBody : IS := (.cons (.ifs (.cmp .eq (.blt .len (.econs (.var 0) .enil)) (.cst (.int 0))) (.cons (.ret (.bin .add (.bin .mul (.cst (.int 7)) (.var 1)) (.cst (.int 3)))) .nil) .nil) (.cons (.ret (.blt .abs (.econs (.idx (.var 0) (.bin .mod (.var 1) (.blt .len (.econs (.var 0) .enil)))) .enil))) .nil))
def cellFn : Fn := { np := 2, ns := 2, body := cellBody }
theorem eqOk_int (i j : Int) : eqOk (.int i) (.int j) = true := rfl
theorem cmpEq_int (i j : Int) : opCmp .eq (.int i) (.int j) = some (decide (i = j)) := by
  show (if eqOk (.int i) (.int j) = true then some (PyData.eqv (.int i) (.int j)) else none) = _
  rw [eqOk_int, if_pos rfl]
  show some (PyData.eqv (.int i) (.int j)) = _
  have : PyData.eqv (.int i) (.int j) = (i == j) := by simp [PyData.eqv]
  rw [this]
  by_cases e : i = j <;> simp [e]
theorem cell_ev (cells : List Int) (m : Nat) : ∃ c : Int, 0 ≤ c ∧ evS call hcall cur cellBody [some (.list (cells.map .int)), some (.int m)] = .ret (.int c) [some (.list (cells.map .int)), some (.int m)] := by
  by_cases h : cells.length = 0
  · have e : cells = [] := List.length_eq_zero_iff.mp h
    subst e
    refine ⟨7 * m + 3, by omega, ?_⟩
    have hm : opBin .mul (.int 7) (.int (m : Int)) = some (.int (7 * m)) := rfl
    have hadd : opBin .add (.int (7 * (m : Int))) (.int 3) = some (.int (7 * m + 3)) := rfl
    have h1 : opBlt .len [.list []] = some (.int 0) := rfl
    have hg0 : getV [some (.list []), some (.int (m : Int))] 0 = some (.list []) := rfl
    have hg1 : getV [some (.list []), some (.int (m : Int))] 1 = some (.int (m : Int)) := rfl
    have hc : opCmp .eq (.int 0) (.int 0) = some true := by rw [cmpEq_int]; rfl
    have ht : tru (.bool true) = true := rfl
    simp only [cellBody, evS, evE, evA, hg0, hg1, h1, hc, hm, hadd, ht, Option.map_some, Out.bind_ok, Out.lift_some, Out.toS_ok, SOut.thn_ret, List.map_nil, if_true]
  · obtain ⟨j, hj⟩ : ∃ j : Nat, j = m % cells.length := ⟨_, rfl⟩
    have hjl : j < cells.length := hj ▸ Nat.mod_lt _ (by omega)
    refine ⟨if cells[j] < 0 then -cells[j] else cells[j], by split <;> omega, ?_⟩
    have h1 : opBlt .len [.list (cells.map .int)] = some (.int cells.length) := by simp [opBlt]
    have hg0 : getV [some (.list (cells.map .int)), some (.int (m : Int))] 0 = some (.list (cells.map .int)) := rfl
    have hg1 : getV [some (.list (cells.map .int)), some (.int (m : Int))] 1 = some (.int (m : Int)) := rfl
    have hc : opCmp .eq (.int (cells.length : Int)) (.int 0) = some false := by
      rw [cmpEq_int]; simp; exact fun h' => h (by rw [h']; rfl)
    have ht : tru (.bool false) = false := rfl
    have hmod : opBin .mod (.int (m : Int)) (.int (cells.length : Int)) = some (.int (j : Int)) := by
      show (if (0 : Int) < cells.length then some (PyData.int ((m : Int) % cells.length)) else none) = _
      rw [if_pos (by omega), hj]; simp
    have hix : opIdx (.list (cells.map .int)) (.int (j : Int)) = some (.int cells[j]) := opIdx_nat (by simp [hjl])
    have hab : opBlt .abs [.int cells[j]] = some (.int (if cells[j] < 0 then -cells[j] else cells[j])) := rfl
    simp only [cellBody, evS, evE, evA, hg0, hg1, h1, hc, hmod, hix, hab, ht, Option.map_some, Out.bind_ok, Out.lift_some, Out.toS_ok, SOut.thn_ret, SOut.thn_next, Bool.false_eq_true, if_false]
end
theorem run_ret {P : Nat → Option Fn} {k f : Nat} {fn : Fn} {ds : List D} (h : P f = some fn) (hl : ds.length = fn.np) (hh : fn.hot = false) : run P (k + 1) f ds = fn.endS (evS (runB P k).1 (runB P k).2 .none fn.body (ds.map some ++ List.replicate (fn.ns - fn.np) none)) := by
  show (match P f with
      | some fn => if ds.length = fn.np ∧ fn.hot = false then fn.endS (evS (runB P k).1 (runB P k).2 .none fn.body (ds.map some ++ List.replicate (fn.ns - fn.np) none)) else .stk
      | none => .stk) = _
  rw [h]
  exact if_pos ⟨hl, hh⟩
theorem cell_run {P : Nat → Option Fn} {c : Nat} (hc : P c = some cellFn) (k : Nat) (cells : List Int) (m : Nat) : ∃ v : Int, 0 ≤ v ∧ run P (k + 1) c [.list (cells.map .int), .int m] = .ret (.int v) .none := by
  obtain ⟨v, hv, e⟩ := cell_ev (call := (runB P k).1) (hcall := (runB P k).2) (cur := .none) cells m
  refine ⟨v, hv, ?_⟩
  rw [run_ret hc rfl rfl]
  show cellFn.endS (evS _ _ _ cellBody [some (.list (cells.map .int)), some (.int m)]) = _
  rw [e]
  rfl
def wC : IE := (.cmp .lt (.idx (.var 0) (.cst (.int 2))) (.blt .len (.econs (.idx (.var 0) (.cst (.int 1))) .enil)))
def wB : IS := (.cons (.set 3 (.idx (.idx (.var 0) (.cst (.int 1))) (.idx (.var 0) (.cst (.int 2))))) (.cons (.ifs (.cmp .gt (.var 3) (.cst (.int 0))) (.cons (.dk1 0 (.idx (.var 0) (.cst (.int 2))) (.bin .fdiv (.var 3) (.var 1))) (.cons (.ret (.bin .mod (.var 3) (.var 1))) .nil)) .nil) (.cons (.seti 0 (.cst (.int 2)) (.bin .add (.idx (.var 0) (.cst (.int 2))) (.cst (.int 1)))) .nil)))
def takeBody (c : Nat) : IS := (.cons (.whl wC wB) (.cons (.seti 0 (.cst (.int 3)) (.bin .add (.idx (.var 0) (.cst (.int 3))) (.cst (.int 1)))) (.cons (.set 2 (.bin .add (.bin .mul (.bin .add (.bin .mod (.call c (.econs (.idx (.var 0) (.cst (.int 0))) (.econs (.idx (.var 0) (.cst (.int 3))) .enil))) (.cst (.int 1000003))) (.cst (.int 5))) (.bin .add (.idx (.var 0) (.cst (.int 3))) (.cst (.int 2)))) (.bin .mul (.cst (.int 7919)) (.idx (.var 0) (.cst (.int 3)))))) (.cons (.ret (.bin .mod (.bin .fdiv (.bin .mod (.bin .pow (.var 2) (.cst (.int 5))) (.cst (.int 2147483647))) (.cst (.int 13))) (.var 1))) .nil))))
def takeFn (c : Nat) : Fn := { np := 2, ns := 4, io := true, body := takeBody c }
theorem ix0 (a b c d : D) : opIdx (.list [a, b, c, d]) (.int 0) = some a := rfl
theorem ix1 (a b c d : D) : opIdx (.list [a, b, c, d]) (.int 1) = some b := rfl
theorem ix2 (a b c d : D) : opIdx (.list [a, b, c, d]) (.int 2) = some c := rfl
theorem ix3 (a b c d : D) : opIdx (.list [a, b, c, d]) (.int 3) = some d := rfl
theorem gv0 (a b c d : Option D) : getV [a, b, c, d] 0 = a := rfl
theorem gv1 (a b c d : Option D) : getV [a, b, c, d] 1 = b := rfl
theorem gv2 (a b c d : Option D) : getV [a, b, c, d] 2 = c := rfl
theorem gv3 (a b c d : Option D) : getV [a, b, c, d] 3 = d := rfl
theorem st0 (a b c d x : Option D) : List.set [a, b, c, d] 0 x = [x, b, c, d] := rfl
theorem st2 (a b c d x : Option D) : List.set [a, b, c, d] 2 x = [a, b, x, d] := rfl
theorem st3 (a b c d x : Option D) : List.set [a, b, c, d] 3 x = [a, b, c, x] := rfl
theorem hl0 (xs : List D) (b c d : Option D) : hasL [some (.list xs), b, c, d] 0 = true := rfl
theorem len_ints (ys : List Int) : opBlt .len [.list (ys.map .int)] = some (.int ys.length) := by simp [opBlt]
theorem cmpLt_int (i j : Int) : opCmp .lt (.int i) (.int j) = some (decide (i < j)) := rfl
theorem cmpGt_int (i j : Int) : opCmp .gt (.int i) (.int j) = some (decide (j < i)) := rfl
theorem add_int (i j : Int) : opBin .add (.int i) (.int j) = some (.int (i + j)) := rfl
theorem tru_b (b : Bool) : tru (.bool b) = b := rfl
theorem mod_int {i j : Int} (h : 0 < j) : opBin .mod (.int i) (.int j) = some (.int (i % j)) := if_pos h
theorem fdiv_int {i j : Int} (h : 0 < j ∧ j < 1073741824) : opBin .fdiv (.int i) (.int j) = some (.int (i / j)) := if_pos h
theorem mul_int {i j : Int} (h : -(2 ^ 64) < i ∧ i < 2 ^ 64) : opBin .mul (.int i) (.int j) = some (.int (i * j)) := if_pos (by
  unfold mulOk
  rw [decide_eq_true h.1, decide_eq_true h.2]
  rfl)
theorem pow_int {i j : Int} (h : 0 ≤ j ∧ j ≤ 1000000 ∧ i.natAbs < 2 ^ 64) : opBin .pow (.int i) (.int j) = some (.int (i ^ j.toNat)) := if_pos h
theorem put_ints {ys : List Int} {i : Nat} (h : i < ys.length) (v : Int) : putIdx (.list (ys.map .int)) (.int (i : Int)) (.int v) = some (.list ((ys.set i v).map .int)) := by
  show (atIx (ys.map PyData.int).length (i : Int)).map (fun k => PyData.list ((ys.map PyData.int).set k (.int v))) = _
  have : atIx (ys.map PyData.int).length (i : Int) = some i := by
    unfold atIx
    rw [if_pos (Int.natCast_nonneg i), if_pos (by rw [List.length_map]; exact_mod_cast h)]
    rfl
  rw [this, List.map_set]
  rfl
section
variable {call : Nat → List D → FRes} {hcall : Nat → D → FRes} {cur : D}
theorem wh_turn (cells ys : List Int) (m : Nat) (many : Int) (h0 : 0 < many) (h1 : many < 1073741824) : ∀ (j i : Nat) (x : Option D), ys.length - i = j → i ≤ ys.length → ∀ n : Nat, j < n →
    (∃ x', whlLoop (evE call hcall cur wC) (evS call hcall cur wB) n [some (deckOf cells ys i m), some (.int many), none, x] = .next [some (deckOf cells ys ys.length m), some (.int many), none, x']) ∨
    (∃ ys' i' r x', ys'.length = ys.length ∧ i' ≤ ys.length ∧ (0 : Int) ≤ r ∧ r < many ∧ whlLoop (evE call hcall cur wC) (evS call hcall cur wB) n [some (deckOf cells ys i m), some (.int many), none, x] = .ret (.int r) [some (deckOf cells ys' i' m), some (.int many), none, x'])
  | 0, i, x, hj, hi, n + 1, _ => by
    have e : i = ys.length := by omega
    subst e
    refine .inl ⟨x, ?_⟩
    have hd : decide ((ys.length : Int) < (ys.length : Int)) = false := by simp
    simp only [deckOf, whlLoop, wC, evE, evA, gv0, ix2, ix1, len_ints, cmpLt_int, hd, Option.map_some, Out.bind_ok, Out.lift_some, Out.toS_ok, tru_b, Bool.false_eq_true, if_false]
  | j + 1, i, x, hj, hi, n + 1, hn => by
    have hlt : i < ys.length := by omega
    have hd : decide ((i : Int) < (ys.length : Int)) = true := by simp [hlt]
    have hix : opIdx (.list (ys.map .int)) (.int (i : Int)) = some (.int ys[i]) := opIdx_nat (by simp [hlt])
    by_cases hp : 0 < ys[i]
    · refine .inr ⟨ys.set i (ys[i] / many), i, ys[i] % many, some (.int ys[i]), by simp, hi, Int.emod_nonneg _ (by omega), Int.emod_lt_of_pos _ h0, ?_⟩
      have hd2 : decide (0 < ys[i]) = true := by simp [hp]
      simp only [deckOf, whlLoop, wC, wB, evS, evE, evA, gv0, gv1, gv3, st0, st3, hl0, ix2, ix1, len_ints, cmpLt_int, cmpGt_int, hd, hd2, hix, mod_int h0, fdiv_int ⟨h0, h1⟩, dkD, put_ints hlt, Option.map_some, Out.bind_ok, Out.lift_some, Out.toS_ok, SOut.thn_next, SOut.thn_ret, tru_b, if_true]
    · have hd2 : decide (0 < ys[i]) = false := by simp; omega
      have hs : putIdx (.list [.list (cells.map .int), .list (ys.map .int), .int (i : Int), .int (m : Int)]) (.int 2) (.int ((i : Int) + 1)) = some (deckOf cells ys (i + 1) m) := rfl
      have ih := wh_turn cells ys m many h0 h1 j (i + 1) (some (.int ys[i])) (by omega) (by omega) n (by omega)
      have e : whlLoop (evE call hcall cur wC) (evS call hcall cur wB) (n + 1) [some (deckOf cells ys i m), some (.int many), none, x] = whlLoop (evE call hcall cur wC) (evS call hcall cur wB) n [some (deckOf cells ys (i + 1) m), some (.int many), none, some (.int ys[i])] := by
        have hw : ∀ ρ, whlLoop (evE call hcall cur wC) (evS call hcall cur wB) (n + 1) ρ = (evE call hcall cur wC ρ).toS fun k ρ => if tru k = true then (evS call hcall cur wB ρ).thn fun ρ => whlLoop (evE call hcall cur wC) (evS call hcall cur wB) n ρ else .next ρ := fun _ => rfl
        rw [hw]
        have h1 : evE call hcall cur wC [some (deckOf cells ys i m), some (.int many), none, x] = .ok (.bool true) [some (deckOf cells ys i m), some (.int many), none, x] := by
          simp only [deckOf, wC, evE, evA, gv0, ix2, ix1, len_ints, cmpLt_int, hd, Option.map_some, Out.bind_ok, Out.lift_some]
        have h2 : evS call hcall cur wB [some (deckOf cells ys i m), some (.int many), none, x] = .next [some (deckOf cells ys (i + 1) m), some (.int many), none, some (.int ys[i])] := by
          simp only [deckOf, wB, evS, evE, evA, gv0, gv1, gv3, st0, st3, hl0, ix2, ix1, cmpGt_int, hd2, hix, setD, add_int, Option.map_some, Out.bind_ok, Out.lift_some, Out.toS_ok, SOut.thn_next, tru_b, if_true, Bool.false_eq_true, if_false, hs]
        rw [h1, Out.toS_ok, tru_b, if_pos rfl, h2, SOut.thn_next]
      rw [e]
      exact ih
end
theorem take_run {P : Nat → Option Fn} {c t : Nat} (hc : P c = some cellFn) (ht : P t = some (takeFn c)) (k : Nat) (cells ys : List Int) (i m : Nat) (hi : i ≤ ys.length) (hl : ys.length ≤ 63) (hm : m ≤ 1000000) (many : Int) (h0 : 0 < many) (h1 : many < 1073741824) :
    ∃ (r : Int) (ys' : List Int) (i' m' : Nat), run P (k + 2) t [deckOf cells ys i m, .int many] = .ret (.int r) (deckOf cells ys' i' m') ∧ 0 ≤ r ∧ r < many ∧ ys'.length = ys.length ∧ i' ≤ ys'.length ∧ m' ≤ m + 1 := by
  rw [run_ret ht rfl rfl]
  show ∃ (r : Int) (ys' : List Int) (i' m' : Nat), (takeFn c).endS (evS (runB P (k + 1)).1 (runB P (k + 1)).2 .none (takeBody c) [some (deckOf cells ys i m), some (.int many), none, none]) = _ ∧ _
  unfold takeBody
  rw [evS, evS]
  rcases wh_turn (call := (runB P (k + 1)).1) (hcall := (runB P (k + 1)).2) (cur := .none) cells ys m many h0 h1 (ys.length - i) i none rfl hi whileFuel (by unfold whileFuel; omega) with ⟨x', e⟩ | ⟨ys', i', r, x', hy, hi', hr, hr', e⟩
  · rw [e, SOut.thn_next]
    obtain ⟨v, hv, ec⟩ := cell_run hc k cells (m + 1)
    have hs : putIdx (.list [.list (cells.map .int), .list (ys.map .int), .int (ys.length : Int), .int (m : Int)]) (.int 3) (.int ((m : Int) + 1)) = some (.list [.list (cells.map .int), .list (ys.map .int), .int (ys.length : Int), .int ((m : Int) + 1)]) := rfl
    have hvm := Int.emod_nonneg v (b := 1000003) (by omega)
    have hvl := Int.emod_lt_of_pos v (b := 1000003) (by omega)
    have ec' : (runB P (k + 1)).1 c [.list (cells.map .int), .int ((m : Int) + 1)] = .ret (.int v) .none := ec
    generalize hq : v % 1000003 = q at hvm hvl
    have hmulb : 0 ≤ (q + 5) * ((m : Int) + 1 + 2) ∧ (q + 5) * ((m : Int) + 1 + 2) ≤ 1000007 * 1000003 := ⟨Int.mul_nonneg (by omega) (by omega), Int.mul_le_mul (by omega) (by omega) (by omega) (by omega)⟩
    have hpow : (0 : Int) ≤ 5 ∧ (5 : Int) ≤ 1000000 ∧ ((q + 5) * ((m : Int) + 1 + 2) + 7919 * ((m : Int) + 1)).natAbs < 2 ^ 64 := ⟨by omega, by omega, by omega⟩
    refine ⟨((((q + 5) * ((m : Int) + 1 + 2) + 7919 * ((m : Int) + 1)) ^ (5 : Int).toNat % 2147483647) / 13) % many, ys, ys.length, m + 1, ?_, Int.emod_nonneg _ (by omega), Int.emod_lt_of_pos _ h0, rfl, Nat.le_refl _, Nat.le_refl _⟩
    simp only [deckOf, evS, evE, evA, gv0, gv1, gv2, st0, st2, hl0, ix0, ix3, setD, add_int, hs, ec', backC, hq, mod_int h0, mod_int (show (0 : Int) < 1000003 by omega), mod_int (show (0 : Int) < 2147483647 by omega), mul_int (show -(2 ^ 64) < q + 5 ∧ q + 5 < 2 ^ 64 by omega), mul_int (show (-(2 ^ 64) : Int) < 7919 ∧ (7919 : Int) < 2 ^ 64 by omega), pow_int hpow, fdiv_int (show (0 : Int) < 13 ∧ (13 : Int) < 1073741824 by omega), Option.map_some, Out.bind_ok, Out.lift_some, Out.toS_ok, SOut.thn_next, SOut.thn_ret, if_true]
    rfl
  · rw [e, SOut.thn_ret]
    exact ⟨r, ys', i', m, rfl, hr, hr', hy, hy ▸ hi', by omega⟩
end BV
set_option Elab.async false
set_option linter.all false
set_option maxRecDepth 100000
set_option maxHeartbeats 4000000
/-! BVE: plain laws of the law's deck and pick. -/
namespace BV
open PySem
/-- whether the deck's cells are some at least -/
def dkNe : Bool := true
/-- a deck, its count at most N -/
def DkN (N : Nat) (d : D) : Prop := ∃ (cells ys : List Int) (i m : Nat), d = deckOf cells ys i m ∧ i ≤ ys.length ∧ ys.length ≤ 63 ∧ m ≤ N ∧ (dkNe = true → cells ≠ [])
theorem DkN.mono {N M : Nat} {d : D} (h : DkN N d) (hn : N ≤ M) : DkN M d := by
  obtain ⟨c, y, i, m, e, h1, h2, h3, h4⟩ := h
  exact ⟨c, y, i, m, e, h1, h2, by omega, h4⟩
theorem DkN.isL {N : Nat} {d : D} (h : DkN N d) : ∃ xs, d = .list xs := by
  obtain ⟨c, y, i, m, e, _⟩ := h
  exact ⟨_, e⟩
theorem take_dk {P : Nat → Option Fn} {c t : Nat} (hc : P c = some cellFn) (ht : P t = some (takeFn c)) (k : Nat) {N : Nat} {d : D} (h : DkN N d) (hN : N ≤ 1000000) (many : Int) (h0 : 0 < many) (h1 : many < 1073741824) :
    ∃ (r : Nat) (d' : D), run P (k + 2) t [d, .int many] = .ret (.int r) d' ∧ (r : Int) < many ∧ DkN (N + 1) d' := by
  obtain ⟨cells, ys, i, m, e, hi, hl, hm, hne⟩ := h
  subst e
  obtain ⟨r, ys', i', m', e, hr, hr', hy, hi', hm'⟩ := take_run hc ht k cells ys i m hi hl (by omega) many h0 h1
  refine ⟨r.toNat, _, ?_, ?_, cells, ys', i', m', rfl, hi', by omega, by omega, hne⟩
  · rw [e, Int.toNat_of_nonneg hr]
  · rw [Int.toNat_of_nonneg hr]; exact hr'
def pickBody (t : Nat) : IS := (.cons (.ret (.idx (.var 1) (.calld t 0 (.econs (.blt .len (.econs (.var 1) .enil)) .enil)))) .nil)
def pickFn (t : Nat) : Fn := { np := 2, ns := 2, io := true, body := pickBody t }
theorem hl2 {d : D} (h : ∃ xs, d = .list xs) (b : Option D) : hasL [some d, b] 0 = true := by
  obtain ⟨xs, e⟩ := h
  subst e
  rfl
theorem pick_gen {P : Nat → Option Fn} {c t p : Nat} (hc : P c = some cellFn) (ht : P t = some (takeFn c)) (hp : P p = some (pickFn t)) (k : Nat) {N : Nat} {d : D} (h : DkN N d) (hN : N ≤ 1000000) (x : D) (n : Nat) (hlen : opBlt .len [x] = some (.int n)) (h0 : 0 < n) (h1 : n < 1073741824) (I : Nat → D) (hi : ∀ r < n, opIdx x (.int r) = some (I r)) :
    ∃ (r : Nat) (d' : D), r < n ∧ run P (k + 3) p [d, x] = .ret (I r) d' ∧ DkN (N + 1) d' := by
  obtain ⟨r, d', e, hr, hd⟩ := take_dk hc ht k h hN n (by omega) (by omega)
  refine ⟨r, d', by omega, ?_, hd⟩
  rw [run_ret hp rfl rfl]
  show (pickFn t).endS (evS (runB P (k + 2)).1 (runB P (k + 2)).2 .none (pickBody t) [some d, some x]) = _
  have g0 : ∀ a b : Option D, getV [a, b] 0 = a := fun _ _ => rfl
  have g1 : ∀ a b : Option D, getV [a, b] 1 = b := fun _ _ => rfl
  have e' : (runB P (k + 2)).1 t [d, .int n] = .ret (.int r) d' := e
  have s0 : ∀ a b x : Option D, List.set [a, b] 0 x = [x, b] := fun _ _ _ => rfl
  simp only [pickBody, evS, evE, evA, g0, g1, hl2 h.isL, hlen, e', backD, s0, hi r (by omega), Out.bind_ok, Out.lift_some, Out.toS_ok, SOut.thn_ret, if_true]
  rfl
theorem pick_list {P : Nat → Option Fn} {c t p : Nat} (hc : P c = some cellFn) (ht : P t = some (takeFn c)) (hp : P p = some (pickFn t)) (k : Nat) {N : Nat} {d : D} (h : DkN N d) (hN : N ≤ 1000000) (xs : List D) (h0 : 0 < xs.length) (h1 : xs.length < 1073741824) :
    ∃ (x : D) (d' : D), x ∈ xs ∧ run P (k + 3) p [d, .list xs] = .ret x d' ∧ DkN (N + 1) d' := by
  obtain ⟨r, d', hr, e, hd⟩ := pick_gen hc ht hp k h hN (.list xs) xs.length rfl h0 h1 (fun r => xs.getD r .none) (fun r hr => opIdx_nat (by simp [hr]))
  exact ⟨_, d', by simp [List.getD, hr], e, hd⟩
theorem pick_tup {P : Nat → Option Fn} {c t p : Nat} (hc : P c = some cellFn) (ht : P t = some (takeFn c)) (hp : P p = some (pickFn t)) (k : Nat) {N : Nat} {d : D} (h : DkN N d) (hN : N ≤ 1000000) (xs : List D) (h0 : 0 < xs.length) (h1 : xs.length < 1073741824) :
    ∃ (x : D) (d' : D), x ∈ xs ∧ run P (k + 3) p [d, .tuple xs] = .ret x d' ∧ DkN (N + 1) d' := by
  obtain ⟨r, d', hr, e, hd⟩ := pick_gen hc ht hp k h hN (.tuple xs) xs.length rfl h0 h1 (fun r => xs.getD r .none) (fun r hr => opIdx_nat (xs := xs) (by simp [hr]))
  exact ⟨_, d', by simp [List.getD, hr], e, hd⟩
theorem pick_str {P : Nat → Option Fn} {c t p : Nat} (hc : P c = some cellFn) (ht : P t = some (takeFn c)) (hp : P p = some (pickFn t)) (k : Nat) {N : Nat} {d : D} (h : DkN N d) (hN : N ≤ 1000000) (s : Str) (h0 : 0 < s.length) (h1 : s.length < 1073741824) :
    ∃ (x : Str) (d' : D), x.length = 1 ∧ run P (k + 3) p [d, .str s] = .ret (.str x) d' ∧ DkN (N + 1) d' := by
  have hs : s.length = s.cps.size := rfl
  obtain ⟨r, d', hr, e, hd⟩ := pick_gen hc ht hp k h hN (.str s) s.length rfl h0 h1 (fun r => .str ⟨#[(s.cps[r]?).getD default]⟩) (fun r hr => by
    show (atIx s.length (r : Int)).bind (fun k => s.cps[k]?.map fun c => PyData.str ⟨#[c]⟩) = _
    have : atIx s.length (r : Int) = some r := by
      unfold atIx
      rw [if_pos (Int.natCast_nonneg r), if_pos (by exact_mod_cast hr)]
      rfl
    have hq : s.cps[r]? = some s.cps[r] := Array.getElem?_eq_getElem (by omega)
    rw [this]
    simp [hq])
  exact ⟨_, d', rfl, e, hd⟩
def greatC : IE := (.lc [2] (.s 2) (.var 1) (.cmp .ge (.blt .abs (.econs (.var 2) .enil)) (.bin .pow (.cst (.int 10)) (.cst (.int 18)))) (.blt .abs (.econs (.var 2) .enil)))
def deckBody : IS := (.cons (.set 1 (.blt .list (.econs (.slc (.var 0) .nop (.cst (.int 63))) .enil))) (.cons (.ret (.lst (.econs (.var 1) (.econs greatC (.econs (.cst (.int 0)) (.econs (.cst (.int 0)) .enil)))))) .nil))
def deckFn : Fn := { np := 1, ns := 3, dk := true, body := deckBody }
def absI (x : Int) : Int := if x < 0 then -x else x
def isGreat (x : Int) : Bool := !decide (absI x < 10 ^ 18)
def great (xs : List Int) : List Int := (xs.filter isGreat).map absI
section
variable {call : Nat → List D → FRes} {hcall : Nat → D → FRes} {cur : D}
theorem great_loop (a b : Option D) : ∀ xs : List Int, lcLoop (turnE (.s 2) [2] (evE call hcall cur (.cmp .ge (.blt .abs (.econs (.var 2) .enil)) (.bin .pow (.cst (.int 10)) (.cst (.int 18))))) (evE call hcall cur (.blt .abs (.econs (.var 2) .enil)))) (xs.map .int) [a, b, none] = .ok ((great xs).map .int) [a, b, none]
  | [] => rfl
  | x :: xs => by
    have g2 : ∀ a b c : Option D, getV [a, b, c] 2 = c := fun _ _ _ => rfl
    have w2 : ∀ c : Option D, wipeE [a, b, c] [2] = [a, b, none] := fun _ => rfl
    have hb : bindT (.s 2) (.int x) [a, b, none] = some [a, b, some (.int x)] := rfl
    have hab : opBlt .abs [.int x] = some (.int (absI x)) := rfl
    have hpw : opBin .pow (.int 10) (.int 18) = some (.int (10 ^ 18)) := rfl
    have hge : opCmp .ge (.int (absI x)) (.int (10 ^ 18)) = some (isGreat x) := rfl
    have ht : turnE (.s 2) [2] (evE call hcall cur (.cmp .ge (.blt .abs (.econs (.var 2) .enil)) (.bin .pow (.cst (.int 10)) (.cst (.int 18))))) (evE call hcall cur (.blt .abs (.econs (.var 2) .enil))) (.int x) [a, b, none] = .ok (if isGreat x = true then some (.int (absI x)) else none) [a, b, none] := by
      simp only [turnE, hb, evE, evA, g2, hab, hpw, hge, Out.bind_ok, Out.lift_some, Option.map_some, tru_b, w2]
      by_cases hx : isGreat x = true
      · rw [if_pos hx, if_pos hx]
      · rw [if_neg hx, if_neg hx]
    show (turnE _ _ _ _ (.int x) [a, b, none]).bind _ = _
    rw [ht, Out.bind_ok, great_loop a b xs, Out.bind_ok]
    unfold great
    by_cases hx : isGreat x = true
    · rw [List.filter_cons_of_pos hx, if_pos hx]
      rfl
    · rw [List.filter_cons_of_neg hx, if_neg hx]
      rfl
theorem great_ev (a : Option D) (cs : List Int) : evE call hcall cur greatC [a, some (.list (cs.map .int)), none] = .ok (.list ((great cs).map .int)) [a, some (.list (cs.map .int)), none] := by
  have g1 : ∀ a b c : Option D, getV [a, b, c] 1 = b := fun _ _ _ => rfl
  have hit : ∀ xs, items (.list xs) = some xs := fun _ => rfl
  unfold greatC
  rw [evE, evE, g1, Out.lift_some, Out.bind_ok, hit, Out.lift_some, Out.bind_ok]
  show ((lcLoop _ _ [a, some (.list (cs.map .int)), none]).noExc).bind _ = _
  rw [great_loop]
  rfl
end
theorem deck_run (hk : dkNe = false) {P : Nat → Option Fn} {f : Nat} (hf : P f = some deckFn) (k : Nat) (ns : List Int) : ∃ d, run P (k + 1) f [.list (ns.map .int)] = .ret d .none ∧ DkN 0 d := by
  obtain ⟨cs, hcs⟩ : ∃ cs : List Int, cs = cutL ns none (some 63) := ⟨_, rfl⟩
  have hcut : cutL (ns.map PyData.int) none (some 63) = cs.map .int := by
    rw [hcs]
    simp [cutL, List.map_take, List.map_drop]
  have hlen : cs.length ≤ 63 := by
    rw [hcs]
    simp [cutL, clip]
    omega
  refine ⟨deckOf cs (great cs) 0 0, ?_, cs, great cs, 0, 0, rfl, Nat.zero_le _, Nat.le_trans (by simp [great]; exact List.length_filter_le _ _) hlen, Nat.le_refl _, (fun z => by rw [hk] at z; cases z)⟩
  rw [run_ret hf rfl rfl]
  show deckFn.endS (evS (runB P k).1 (runB P k).2 .none deckBody [some (.list (ns.map .int)), none, none]) = _
  have g0 : ∀ a b c : Option D, getV [a, b, c] 0 = a := fun _ _ _ => rfl
  have g1 : ∀ a b c : Option D, getV [a, b, c] 1 = b := fun _ _ _ => rfl
  have s1 : ∀ a b c x : Option D, List.set [a, b, c] 1 x = [a, x, c] := fun _ _ _ _ => rfl
  have hsl : opSlc (.list (ns.map .int)) none (some 63) = some (.list (cs.map .int)) := by rw [← hcut]; rfl
  have hli : ∀ xs, opBlt .list [.list xs] = some (.list xs) := fun _ => rfl
  have w2 : ∀ a b c : Option D, wipeE [a, b, c] [2] = [a, b, none] := fun _ _ _ => rfl
  have hp : partOf (.int 63) = some (some 63) := rfl
  have hnop : isNop .nop = true := rfl
  have hnop2 : isNop (.cst (.int 63)) = false := rfl
  simp only [deckBody, evS, evE, evA, g0, g1, s1, hsl, hli, hp, hnop, hnop2, great_ev, Out.bind_ok, Out.lift_some, Out.toS_ok, SOut.thn_next, SOut.thn_ret, if_true, Bool.false_eq_true, if_false]
  rfl
end BV
set_option Elab.async false
set_option linter.all false
set_option maxRecDepth 100000
set_option maxHeartbeats 4000000
/-! BVF: loops with an invariant. -/
namespace BV
open PySem
/-- a for that always goes on -/
theorem forLoop_inv {f : D → Ev → SOut} (I : Nat → Ev → Prop) : ∀ (xs : List D) (j : Nat) (ρ : Ev), I j ρ → (∀ (i : Nat) (x : D) (ρ : Ev), xs[i]? = some x → I (j + i) ρ → ∃ ρ', f x ρ = .next ρ' ∧ I (j + i + 1) ρ') → ∃ ρ', forLoop f xs ρ = .next ρ' ∧ I (j + xs.length) ρ'
  | [], j, ρ, h, _ => ⟨ρ, rfl, h⟩
  | x :: xs, j, ρ, h, hf => by
    obtain ⟨ρ1, e, h1⟩ := hf 0 x ρ rfl h
    obtain ⟨ρ2, e2, h2⟩ := forLoop_inv I xs (j + 1) ρ1 h1 (fun i y ρ hi hρ => by
      have := hf (i + 1) y ρ hi (by rw [show j + (i + 1) = j + 1 + i by omega]; exact hρ)
      rw [show j + (i + 1) + 1 = j + 1 + i + 1 by omega] at this
      exact this)
    refine ⟨ρ2, ?_, by rw [List.length_cons, show j + (xs.length + 1) = j + 1 + xs.length by omega]; exact h2⟩
    show (f x ρ).thn (fun ρ => forLoop f xs ρ) = _
    rw [e, SOut.thn_next, e2]
/-- a comprehension without a condition: every turn gives an item, as wished -/
theorem lcLoop_inv {f : D → Ev → Out (Option D)} (I : Nat → Ev → Prop) (Q : Nat → D → Prop) : ∀ (xs : List D) (j : Nat) (ρ : Ev), I j ρ → (∀ (i : Nat) (x : D) (ρ : Ev), xs[i]? = some x → I (j + i) ρ → ∃ y ρ', f x ρ = .ok (some y) ρ' ∧ Q (j + i) y ∧ I (j + i + 1) ρ') → ∃ ys ρ', lcLoop f xs ρ = .ok ys ρ' ∧ ys.length = xs.length ∧ (∀ i y, ys[i]? = some y → Q (j + i) y) ∧ I (j + xs.length) ρ'
  | [], j, ρ, h, _ => ⟨[], ρ, rfl, rfl, (fun i y hi => by simp at hi), h⟩
  | x :: xs, j, ρ, h, hf => by
    obtain ⟨y, ρ1, e, hq, h1⟩ := hf 0 x ρ rfl h
    obtain ⟨ys, ρ2, e2, hl, hq2, h2⟩ := lcLoop_inv I Q xs (j + 1) ρ1 h1 (fun i y ρ hi hρ => by
      have := hf (i + 1) y ρ hi (by rw [show j + (i + 1) = j + 1 + i by omega]; exact hρ)
      rw [show j + (i + 1) = j + 1 + i by omega] at this
      exact this)
    refine ⟨y :: ys, ρ2, ?_, by rw [List.length_cons, List.length_cons, hl], ?_, by rw [List.length_cons, show j + (xs.length + 1) = j + 1 + xs.length by omega]; exact h2⟩
    · show (f x ρ).bind (fun o ρ1 => (lcLoop f xs ρ1).bind fun r ρ2 => .ok (o.toList ++ r) ρ2) = _
      rw [e, Out.bind_ok, e2]
      rfl
    · intro i z hi
      cases i with
      | zero => cases hi; exact hq
      | succ i =>
        have := hq2 i z hi
        rw [show j + 1 + i = j + (i + 1) by omega] at this
        exact this
/-- a comprehension that leaves the environment -/
theorem lcLoop_same {f : D → Ev → Out (Option D)} {ρ : Ev} (g : D → Option D) : ∀ (xs : List D), (∀ x ∈ xs, f x ρ = .ok (g x) ρ) → lcLoop f xs ρ = .ok (xs.filterMap g) ρ
  | [], _ => rfl
  | x :: xs, h => by
    show (f x ρ).bind _ = _
    rw [h x (List.mem_cons_self), Out.bind_ok, lcLoop_same g xs (fun y hy => h y (List.mem_cons_of_mem _ hy)), Out.bind_ok, List.filterMap_cons]
    cases g x <;> rfl
end BV
set_option Elab.async false
set_option linter.all false
set_option maxRecDepth 100000
set_option maxHeartbeats 4000000
/-! BT1: types of data, for an evaluation over types. -/
namespace BV
open PySem
inductive T where
  | bot | non | int (lo hi : Int) | bl | cb (b : Bool) | str (lo hi : Nat) | cs (s : Str)
  | tup (ts : T) | lst (ts : T) | seq (l : Bool) (lo hi : Nat) (t : T)
  | nil | cons (a r : T) | or (a b : T) | dk | dc | dg
def sq (l : Bool) (xs : List D) : D := if l = true then .list xs else .tuple xs
mutual
/-- d is of that type, N draws of the deck behind -/
def In (N : Nat) : T → D → Prop
  | .bot, _ => False
  | .non, d => d = .none
  | .int lo hi, d => ∃ i, d = .int i ∧ lo ≤ i ∧ i ≤ hi
  | .bl, d => ∃ b, d = .bool b
  | .cb b, d => d = .bool b
  | .str lo hi, d => ∃ s : Str, d = .str s ∧ lo ≤ s.length ∧ s.length ≤ hi
  | .cs s, d => d = .str s
  | .tup ts, d => ∃ xs, d = .tuple xs ∧ InL N ts xs
  | .lst ts, d => ∃ xs, d = .list xs ∧ InL N ts xs
  | .seq l lo hi t, d => ∃ xs, d = sq l xs ∧ lo ≤ xs.length ∧ xs.length ≤ hi ∧ ∀ x ∈ xs, In N t x
  | .nil, _ => False
  | .cons _ _, _ => False
  | .or a b, d => In N a d ∨ In N b d
  | .dk, d => DkN N d
  | .dc, d => d = .dict []
  | .dg, d => ∃ i : Int, d = .str (toString i) ∧ i.natAbs < 10 ^ 12 ∧ Str.length (toString i) ≤ 13
def InL (N : Nat) : T → List D → Prop
  | .nil, xs => xs = []
  | .cons a r, xs => ∃ x ys, xs = x :: ys ∧ In N a x ∧ InL N r ys
  | _, _ => False
end
theorem In.mono_ {N M : Nat} (h : N ≤ M) : ∀ t : T, (∀ d, In N t d → In M t d) ∧ (∀ xs, InL N t xs → InL M t xs) := by
  intro t
  induction t with
  | bot => exact ⟨fun _ z => z.elim, fun _ z => z.elim⟩
  | non => exact ⟨fun _ z => z, fun _ z => z.elim⟩
  | int _ _ => exact ⟨fun _ z => z, fun _ z => z.elim⟩
  | bl => exact ⟨fun _ z => z, fun _ z => z.elim⟩
  | cb _ => exact ⟨fun _ z => z, fun _ z => z.elim⟩
  | str _ _ => exact ⟨fun _ z => z, fun _ z => z.elim⟩
  | cs _ => exact ⟨fun _ z => z, fun _ z => z.elim⟩
  | tup ts ih => exact ⟨fun _ ⟨xs, e, z⟩ => ⟨xs, e, ih.2 xs z⟩, fun _ z => z.elim⟩
  | lst ts ih => exact ⟨fun _ ⟨xs, e, z⟩ => ⟨xs, e, ih.2 xs z⟩, fun _ z => z.elim⟩
  | seq l lo hi t ih => exact ⟨fun _ ⟨xs, e, z1, z2, z⟩ => ⟨xs, e, z1, z2, fun x hx => ih.1 x (z x hx)⟩, fun _ z => z.elim⟩
  | nil => exact ⟨fun _ z => z.elim, fun _ z => z⟩
  | cons a r iha ihr => exact ⟨fun _ z => z.elim, fun _ ⟨x, ys, e, z1, z2⟩ => ⟨x, ys, e, iha.1 x z1, ihr.2 ys z2⟩⟩
  | or a b iha ihb => exact ⟨fun d z => z.elim (fun z => .inl (iha.1 d z)) (fun z => .inr (ihb.1 d z)), fun _ z => z.elim⟩
  | dk => exact ⟨fun _ z => z.mono h, fun _ z => z.elim⟩
  | dc => exact ⟨fun _ z => z, fun _ z => z.elim⟩
  | dg => exact ⟨fun _ z => z, fun _ z => z.elim⟩
theorem In.mono {N M : Nat} {t : T} {d : D} (z : In N t d) (h : N ≤ M) : In M t d := (In.mono_ h t).1 d z
theorem InL.mono {N M : Nat} {t : T} {xs : List D} (z : InL N t xs) (h : N ≤ M) : InL M t xs := (In.mono_ h t).2 xs z

/-! ### less -/
def tlen : T → Nat
  | .cons _ r => tlen r + 1
  | _ => 0
def isOr : T → Bool
  | .or _ _ => true
  | _ => false
def leL (r : T → T → Bool) : T → T → Bool
  | .nil, b => (match b with
    | .nil => true
    | _ => false)
  | .cons x xs, b => (match b with
    | .cons y ys => r x y && leL r xs ys
    | _ => false)
  | _, _ => false
def lel (r : T → T → Bool) (t : T) : T → Bool
  | .nil => true
  | .cons x xs => r x t && lel r t xs
  | _ => false
def le1 (r : T → T → Bool) : T → T → Bool
  | .non, .non => true
  | .int l h, .int l' h' => decide (l' ≤ l) && decide (h ≤ h')
  | .bl, .bl => true
  | .cb _, .bl => true
  | .cb b, .cb c => b == c
  | .str l h, .str l' h' => Nat.ble l' l && Nat.ble h h'
  | .cs s, .str l h => Nat.ble l s.length && Nat.ble s.length h
  | .cs s, .cs t => decide (s = t)
  | .tup x, .tup y => leL r x y
  | .lst x, .lst y => leL r x y
  | .tup x, .seq false l h t => Nat.ble l (tlen x) && Nat.ble (tlen x) h && lel r t x
  | .lst x, .seq true l h t => Nat.ble l (tlen x) && Nat.ble (tlen x) h && lel r t x
  | .seq p l h t, .seq q l' h' t' => (p == q) && Nat.ble l' l && Nat.ble h h' && r t t'
  | .dk, .dk => true
  | .dc, .dc => true
  | .dg, .dg => true
  | _, _ => false
def leR (r : T → T → Bool) (a b : T) : Bool := match b with
  | .or x y => r a x || r a y
  | b => le1 r a b
def T.le : Nat → T → T → Bool
  | 0, _, _ => false
  | n + 1, a, b => match a with
    | .bot => true
    | .or x y => T.le n x b && T.le n y b
    | a => leR (T.le n) a b
theorem a2 {a b : Bool} (h : (a && b) = true) : a = true ∧ b = true := Bool.and_eq_true_iff.mp h
theorem bleI {a b : Nat} (h : Nat.ble a b = true) : a ≤ b := Nat.le_of_ble_eq_true h
section
variable {N : Nat}
theorem InL.len : ∀ {t : T} {xs : List D}, InL N t xs → xs.length = tlen t := by
  intro t
  induction t with
  | nil => intro xs h; rw [show xs = [] from h]; rfl
  | cons a r _ ih =>
    intro xs h
    obtain ⟨x, ys, rfl, _, h2⟩ := h
    show ys.length + 1 = tlen r + 1
    rw [ih h2]
  | _ => intro xs h; exact h.elim
abbrev Sub (N : Nat) (r : T → T → Bool) : Prop := ∀ a b, r a b = true → ∀ d, In N a d → In N b d
theorem leL_ok {r : T → T → Bool} (hr : Sub N r) : ∀ a b, leL r a b = true → ∀ xs, InL N a xs → InL N b xs := by
  intro a
  induction a with
  | nil => intro b h xs i; cases b <;> first | (cases h; done) | exact i
  | cons x xs _ ih =>
    intro b h ys i
    cases b <;> first | (cases h; done) | skip
    obtain ⟨h1, h2⟩ := a2 (show (r _ _ && leL r _ _) = true from h)
    obtain ⟨z, zs, rfl, i1, i2⟩ := i
    exact ⟨z, zs, rfl, hr _ _ h1 _ i1, ih _ h2 _ i2⟩
  | _ => intro b h xs i; exact i.elim
theorem lel_ok {r : T → T → Bool} (hr : Sub N r) (t : T) : ∀ a, lel r t a = true → ∀ xs, InL N a xs → ∀ x ∈ xs, In N t x := by
  intro a
  induction a with
  | nil => intro h xs i x hx; rw [show xs = [] from i] at hx; cases hx
  | cons y ys _ ih =>
    intro h xs i x hx
    obtain ⟨h1, h2⟩ := a2 (show (r _ _ && lel r _ _) = true from h)
    obtain ⟨z, zs, rfl, i1, i2⟩ := i
    rcases List.mem_cons.mp hx with rfl | hx
    · exact hr _ _ h1 _ i1
    · exact ih h2 _ i2 x hx
  | _ => intro h xs i; exact i.elim
theorem le1_ok {r : T → T → Bool} (hr : Sub N r) : Sub N (le1 r) := by
  intro a b h d i
  cases a <;> cases b <;> first | (cases h; done) | (exact i; done) | skip
  · obtain ⟨h1, h2⟩ := a2 (show (decide _ && decide _) = true from h)
    obtain ⟨k, e, i1, i2⟩ := i
    exact ⟨k, e, Int.le_trans (of_decide_eq_true h1) i1, Int.le_trans i2 (of_decide_eq_true h2)⟩
  · exact ⟨_, i⟩
  · rename_i b c
    rw [← eq_of_beq (show (b == c) = true from h)]
    exact i
  · obtain ⟨h1, h2⟩ := a2 (show (Nat.ble _ _ && Nat.ble _ _) = true from h)
    obtain ⟨k, e, i1, i2⟩ := i
    exact ⟨k, e, Nat.le_trans (bleI h1) i1, Nat.le_trans i2 (bleI h2)⟩
  · obtain ⟨h1, h2⟩ := a2 (show (Nat.ble _ _ && Nat.ble _ _) = true from h)
    exact ⟨_, i, bleI h1, bleI h2⟩
  · rename_i b c
    rw [← of_decide_eq_true (show decide (b = c) = true from h)]
    exact i
  · obtain ⟨xs, e, i1⟩ := i
    exact ⟨xs, e, leL_ok hr _ _ h _ i1⟩
  · rename_i ts l lo hi t
    cases l <;> first | (cases h; done) | skip
    obtain ⟨h1, h2⟩ := a2 (show ((Nat.ble _ _ && Nat.ble _ _) && lel _ _ _) = true from h)
    obtain ⟨h3, h4⟩ := a2 h1
    obtain ⟨xs, e, i1⟩ := i
    have := InL.len i1
    exact ⟨xs, e, by rw [this]; exact bleI h3, by rw [this]; exact bleI h4, lel_ok hr _ _ h2 _ i1⟩
  · obtain ⟨xs, e, i1⟩ := i
    exact ⟨xs, e, leL_ok hr _ _ h _ i1⟩
  · rename_i ts l lo hi t
    cases l <;> first | (cases h; done) | skip
    obtain ⟨h1, h2⟩ := a2 (show ((Nat.ble _ _ && Nat.ble _ _) && lel _ _ _) = true from h)
    obtain ⟨h3, h4⟩ := a2 h1
    obtain ⟨xs, e, i1⟩ := i
    have := InL.len i1
    exact ⟨xs, e, by rw [this]; exact bleI h3, by rw [this]; exact bleI h4, lel_ok hr _ _ h2 _ i1⟩
  · rename_i p l hh t q l' h' t'
    obtain ⟨h1, h2⟩ := a2 (show (((p == q) && Nat.ble _ _) && Nat.ble _ _ && r _ _) = true from h)
    obtain ⟨h3, h4⟩ := a2 h1
    obtain ⟨h5, h6⟩ := a2 h3
    obtain ⟨xs, e, i1, i2, i3⟩ := i
    rw [eq_of_beq h5] at e
    exact ⟨xs, e, Nat.le_trans (bleI h6) i1, Nat.le_trans i2 (bleI h4), fun x hx => hr _ _ h2 _ (i3 x hx)⟩
theorem le_ok : ∀ n : Nat, Sub N (T.le n)
  | 0 => fun a b h => by cases h
  | n + 1 => fun a b h d i => by
    have ih := le_ok n
    have main : ∀ a, isOr a = false → T.le (n + 1) a b = leR (T.le n) a b ∨ a = .bot := by
      intro a ha
      cases a <;> first | (cases ha; done) | exact .inr rfl | exact .inl rfl
    by_cases ha : isOr a = true
    · cases a <;> first | (cases ha; done) | skip
      obtain ⟨h1, h2⟩ := a2 (show (T.le n _ b && T.le n _ b) = true from h)
      exact i.elim (ih _ _ h1 d) (ih _ _ h2 d)
    · rcases main a (by simpa using ha) with e | e
      · rw [e] at h
        unfold leR at h
        split at h
        · rcases Bool.or_eq_true_iff.mp h with h | h
          · exact .inl (ih _ _ h d i)
          · exact .inr (ih _ _ h d i)
        · exact le1_ok ih _ _ h d i
      · rw [e] at i; exact i.elim
end
def FL : Nat := 40
/-! ### joins -/
def hull : T → T → Option T
  | .int l h, .int l' h' => some (.int (if l ≤ l' then l else l') (if h ≤ h' then h' else h))
  | .cb _, .cb _ => some .bl
  | .str l h, .str l' h' => some (.str (min l l') (max h h'))
  | .str l h, .cs s => some (.str (min l s.length) (max h s.length))
  | .cs s, .str l h => some (.str (min l s.length) (max h s.length))
  | _, _ => none
/-- put one into alternatives -/
def into : T → T → Option T
  | .or a b, c => (match into a c with
    | some a' => some (.or a' b)
    | none => (into b c).map fun b' => .or a b')
  | a, c => if T.le FL c a = true then some a else if T.le FL a c = true then some c else hull a c
def joinL (j : T → T → T) : T → T
  | .cons x r => j x (joinL j r)
  | _ => .bot
/-- a sequence's view -/
def vS (j : T → T → T) : T → Option (Bool × Nat × Nat × T)
  | .tup x => some (false, tlen x, tlen x, joinL j x)
  | .lst x => some (true, tlen x, tlen x, joinL j x)
  | .seq l lo hi t => some (l, lo, hi, t)
  | _ => none
def listsJ (j : T → T → T) (a b : T) : T := match vS j a, vS j b with
  | some (l, lo, hi, t), some (l', lo', hi', t') => if l == l' then .seq l (min lo lo') (max hi hi') (j t t') else .or a b
  | _, _ => .or a b
def join : Nat → T → T → T
  | 0, a, b => .or a b
  | n + 1, a, b => match a with
    | .bot => b
    | a => (match b with
      | .bot => a
      | .or x y => join n (join n a x) y
      | b => (match into a b with
        | some r => r
        | none => (match a, b with
          | .lst _, _ => listsJ (join n) a b
          | .seq true _ _ _, _ => listsJ (join n) a b
          | .seq false _ _ _, .seq false _ _ _ => listsJ (join n) a b
          | _, _ => .or a b)))
section
variable {N : Nat}
theorem hull_ok : ∀ a b r, hull a b = some r → ∀ d, In N a d ∨ In N b d → In N r d := by
  intro a b r h d i
  cases a <;> cases b <;> first | (cases h; done) | skip
  · cases h
    rcases i with ⟨k, e, i1, i2⟩ | ⟨k, e, i1, i2⟩ <;> refine ⟨k, e, ?_, ?_⟩ <;> split <;> omega
  · cases h; rcases i with i | i <;> exact ⟨_, i⟩
  · cases h; rcases i with ⟨k, e, i1, i2⟩ | ⟨k, e, i1, i2⟩ <;> exact ⟨k, e, by omega, by omega⟩
  · cases h; rcases i with ⟨k, e, i1, i2⟩ | i
    · exact ⟨k, e, by omega, by omega⟩
    · exact ⟨_, i, by omega, by omega⟩
  · cases h; rcases i with i | ⟨k, e, i1, i2⟩
    · exact ⟨_, i, by omega, by omega⟩
    · exact ⟨k, e, by omega, by omega⟩
theorem into1 {a c r : T} (h : (if T.le FL c a = true then some a else if T.le FL a c = true then some c else hull a c) = some r) : ∀ d, In N a d ∨ In N c d → In N r d := by
  intro d i
  split at h
  · rename_i q
    cases h
    exact i.elim id (le_ok _ _ _ q d)
  · split at h
    · rename_i q
      cases h
      exact i.elim (le_ok _ _ _ q d) id
    · exact hull_ok _ _ _ h d i
theorem into_ok : ∀ a c r, into a c = some r → ∀ d, In N a d ∨ In N c d → In N r d := by
  intro a
  induction a with
  | or a b iha ihb =>
    intro c r h d i
    have h : (match into a c with
      | some a' => some (T.or a' b)
      | none => (into b c).map fun b' => .or a b') = some r := h
    split at h
    · rename_i a' e
      cases h
      rcases i with (i | i) | i
      · exact .inl (iha _ _ e d (.inl i))
      · exact .inr i
      · exact .inl (iha _ _ e d (.inr i))
    · obtain ⟨b', e, rfl⟩ := Option.map_eq_some_iff.mp h
      rcases i with (i | i) | i
      · exact .inl i
      · exact .inr (ihb _ _ e d (.inl i))
      · exact .inr (ihb _ _ e d (.inr i))
  | _ => intro c r h; exact into1 h
abbrev Jn (N : Nat) (j : T → T → T) : Prop := ∀ a b d, In N a d ∨ In N b d → In N (j a b) d
theorem joinL_ok {j : T → T → T} (hj : Jn N j) : ∀ t xs, InL N t xs → ∀ x ∈ xs, In N (joinL j t) x := by
  intro t
  induction t with
  | nil => intro xs i x hx; rw [show xs = [] from i] at hx; cases hx
  | cons a r _ ih =>
    intro xs i x hx
    obtain ⟨z, zs, rfl, i1, i2⟩ := i
    rcases List.mem_cons.mp hx with rfl | hx
    · exact hj _ _ _ (.inl i1)
    · exact hj _ _ _ (.inr (ih _ i2 x hx))
  | _ => intro xs i; exact i.elim
theorem vS_ok {j : T → T → T} (hj : Jn N j) {a : T} {l : Bool} {lo hi : Nat} {t : T} (h : vS j a = some (l, lo, hi, t)) {d : D} (i : In N a d) : In N (.seq l lo hi t) d := by
  cases a <;> first | (cases h; done) | skip
  · cases h
    obtain ⟨xs, e, i⟩ := i
    exact ⟨xs, e, by rw [InL.len i]; exact Nat.le_refl _, by rw [InL.len i]; exact Nat.le_refl _, joinL_ok hj _ _ i⟩
  · cases h
    obtain ⟨xs, e, i⟩ := i
    exact ⟨xs, e, by rw [InL.len i]; exact Nat.le_refl _, by rw [InL.len i]; exact Nat.le_refl _, joinL_ok hj _ _ i⟩
  · cases h; exact i
theorem lists_ok {n : Nat} (hj : Jn N (join n)) (a b : T) (d : D) (i : In N a d ∨ In N b d) : In N (listsJ (join n) a b) d := by
  unfold listsJ
  split
  · rename_i l lo hi t l' lo' hi' t' e1 e2
    split
    · rename_i q
      have q := eq_of_beq q
      subst q
      rcases i with i | i
      · obtain ⟨xs, e, i1, i2, i3⟩ := vS_ok hj e1 i
        exact ⟨xs, e, by omega, by omega, fun x hx => hj _ _ _ (.inl (i3 x hx))⟩
      · obtain ⟨xs, e, i1, i2, i3⟩ := vS_ok hj e2 i
        exact ⟨xs, e, by omega, by omega, fun x hx => hj _ _ _ (.inr (i3 x hx))⟩
    · exact i
  · exact i
theorem join_ok : ∀ n, Jn N (join n)
  | 0 => fun a b d i => by unfold join; exact i
  | n + 1 => fun a b d i => by
    have ih := join_ok n
    unfold join
    split
    · exact i.elim (fun z => z.elim) id
    · split
      · exact i.elim id (fun z => z.elim)
      · refine ih _ _ _ ?_
        rcases i with i | i | i
        · exact .inl (ih _ _ _ (.inl i))
        · exact .inl (ih _ _ _ (.inr i))
        · exact .inr i
      · split
        · rename_i e
          exact into_ok _ _ _ e d i
        · split
          · exact lists_ok ih _ _ _ i
          · exact lists_ok ih _ _ _ i
          · exact lists_ok ih _ _ _ i
          · exact i
end
abbrev jn : T → T → T := join 40
theorem jn_ok {N : Nat} : Jn N jn := join_ok 40
end BV
set_option Elab.async false
set_option linter.all false
set_option maxRecDepth 100000
set_option maxHeartbeats 4000000
/-! BT2: operations on types. -/
namespace BV
open PySem
def isBot : T → Bool
  | .bot => true
  | .or a b => isBot a && isBot b
  | _ => false
theorem isBot_ok {N : Nat} : ∀ {t : T} {d : D}, isBot t = true → ¬ In N t d := by
  intro t
  induction t with
  | bot => intro d _ h; exact h
  | or a b iha ihb =>
    intro d h i
    obtain ⟨h1, h2⟩ := a2 (show (isBot a && isBot b) = true from h)
    exact i.elim (iha h1) (ihb h2)
  | _ => intro d h; cases h
def nodk : T → Bool
  | .dk => false
  | .dc => false
  | .tup t => nodk t
  | .lst t => nodk t
  | .seq _ _ _ t => nodk t
  | .cons a r => nodk a && nodk r
  | .or a b => nodk a && nodk b
  | _ => true
def depT : T → Nat
  | .tup t => depT t + 1
  | .lst t => depT t + 1
  | .seq _ _ _ t => depT t + 1
  | .cons a r => max (depT a) (depT r)
  | .or a b => max (depT a) (depT b)
  | _ => 0
def map1 (f : T → Option T) : T → Option T
  | .or a b => (map1 f a).bind fun x => (map1 f b).map fun y => jn x y
  | .bot => some .bot
  | t => f t
def map2 (f : T → T → Option T) (a b : T) : Option T := map1 (fun x => map1 (f x) b) a
section
variable {N : Nat}
theorem all_noDict {xs : List D} : (∀ x ∈ xs, noDict x = true) → noDicts xs = true := by
  induction xs with
  | nil => intro _; unfold noDicts; rfl
  | cons x xs ih =>
    intro h
    unfold noDicts
    rw [h x (List.mem_cons_self), ih fun y hy => h y (List.mem_cons_of_mem _ hy)]
    rfl
theorem all_dep {xs : List D} {n : Nat} : (∀ x ∈ xs, x.depth ≤ n) → PyData.depthAll xs ≤ n := by
  induction xs with
  | nil => intro _; simp [PyData.depthAll]
  | cons x xs ih =>
    intro h
    have h1 := h x (List.mem_cons_self)
    have h2 := ih fun y hy => h y (List.mem_cons_of_mem _ hy)
    simp only [PyData.depthAll]
    omega
theorem nd_ok : ∀ t : T, nodk t = true → (∀ d, In N t d → noDict d = true ∧ d.depth ≤ depT t) ∧ (∀ xs, InL N t xs → ∀ x ∈ xs, noDict x = true ∧ x.depth ≤ depT t) := by
  intro t
  induction t with
  | bot => intro _; exact ⟨fun _ z => z.elim, fun _ z => z.elim⟩
  | non => intro _; exact ⟨fun d z => by cases (show d = _ from z); exact ⟨rfl, by simp [PyData.depth]⟩, fun _ z => z.elim⟩
  | int _ _ => intro _; exact ⟨fun d ⟨i, e, _⟩ => by subst e; exact ⟨rfl, by simp [PyData.depth]⟩, fun _ z => z.elim⟩
  | bl => intro _; exact ⟨fun d ⟨i, e⟩ => by subst e; exact ⟨rfl, by simp [PyData.depth]⟩, fun _ z => z.elim⟩
  | cb _ => intro _; exact ⟨fun d z => by cases (show d = _ from z); exact ⟨rfl, by simp [PyData.depth]⟩, fun _ z => z.elim⟩
  | str _ _ => intro _; exact ⟨fun d ⟨i, e, _⟩ => by subst e; exact ⟨rfl, by simp [PyData.depth]⟩, fun _ z => z.elim⟩
  | cs _ => intro _; exact ⟨fun d z => by cases (show d = _ from z); exact ⟨rfl, by simp [PyData.depth]⟩, fun _ z => z.elim⟩
  | tup ts ih =>
    intro h
    refine ⟨fun d ⟨xs, e, i⟩ => ?_, fun _ z => z.elim⟩
    subst e
    have := (ih h).2 xs i
    refine ⟨?_, ?_⟩
    · simp only [noDict]; exact all_noDict fun x hx => (this x hx).1
    · have := all_dep fun x hx => (this x hx).2
      simp only [PyData.depth, depT]; omega
  | lst ts ih =>
    intro h
    refine ⟨fun d ⟨xs, e, i⟩ => ?_, fun _ z => z.elim⟩
    subst e
    have := (ih h).2 xs i
    refine ⟨?_, ?_⟩
    · simp only [noDict]; exact all_noDict fun x hx => (this x hx).1
    · have := all_dep fun x hx => (this x hx).2
      simp only [PyData.depth, depT]; omega
  | seq l lo hi t ih =>
    intro h
    refine ⟨fun d ⟨xs, e, _, _, i⟩ => ?_, fun _ z => z.elim⟩
    have h3 := all_noDict fun x hx => ((ih h).1 x (i x hx)).1
    have h4 := all_dep fun x hx => ((ih h).1 x (i x hx)).2
    unfold sq at e
    split at e <;> subst e <;> simp only [PyData.depth, depT, noDict] <;> exact ⟨h3, by omega⟩
  | nil => intro _; exact ⟨fun _ z => z.elim, fun xs z x hx => by rw [show xs = [] from z] at hx; cases hx⟩
  | cons a r iha ihr =>
    intro h
    obtain ⟨h1, h2⟩ := a2 (show (nodk a && nodk r) = true from h)
    refine ⟨fun _ z => z.elim, fun xs ⟨z, zs, e, i1, i2⟩ x hx => ?_⟩
    subst e
    show _ ∧ _ ≤ max (depT a) (depT r)
    rcases List.mem_cons.mp hx with rfl | hx
    · have := (iha h1).1 _ i1; exact ⟨this.1, by omega⟩
    · have := (ihr h2).2 _ i2 x hx; exact ⟨this.1, by omega⟩
  | or a b iha ihb =>
    intro h
    obtain ⟨h1, h2⟩ := a2 (show (nodk a && nodk b) = true from h)
    refine ⟨fun d z => ?_, fun _ z => z.elim⟩
    show _ ∧ _ ≤ max (depT a) (depT b)
    rcases z with z | z
    · have := (iha h1).1 _ z; exact ⟨this.1, by omega⟩
    · have := (ihb h2).1 _ z; exact ⟨this.1, by omega⟩
  | dk => intro h; cases h
  | dc => intro h; cases h
  | dg => intro _; exact ⟨fun d ⟨i, e, _⟩ => by subst e; exact ⟨rfl, by simp [PyData.depth]⟩, fun _ z => z.elim⟩
abbrev Op1 (N : Nat) (f : T → Option T) (g : D → Option D) : Prop := ∀ a r, f a = some r → ∀ d, In N a d → ∃ e, g d = some e ∧ In N r e
abbrev Op2 (N : Nat) (f : T → T → Option T) (g : D → D → Option D) : Prop := ∀ a b r, f a b = some r → ∀ x y, In N a x → In N b y → ∃ e, g x y = some e ∧ In N r e
theorem map1_ok {f : T → Option T} {g : D → Option D} (h : Op1 N f g) : Op1 N (map1 f) g := by
  intro a
  induction a with
  | or a b iha ihb =>
    intro r e d i
    obtain ⟨x, e1, e2⟩ := Option.bind_eq_some_iff.mp (show ((map1 f a).bind fun x => (map1 f b).map fun y => jn x y) = some r from e)
    obtain ⟨y, e3, rfl⟩ := Option.map_eq_some_iff.mp e2
    rcases i with i | i
    · obtain ⟨z, q1, q2⟩ := iha x e1 d i
      exact ⟨z, q1, jn_ok _ _ _ (.inl q2)⟩
    · obtain ⟨z, q1, q2⟩ := ihb y e3 d i
      exact ⟨z, q1, jn_ok _ _ _ (.inr q2)⟩
  | bot => intro r e d i; exact i.elim
  | _ => intro r e d i; exact h _ r e d i
theorem map2_ok {f : T → T → Option T} {g : D → D → Option D} (h : Op2 N f g) : Op2 N (map2 f) g := fun a b r e x y ix iy =>
  map1_ok (g := fun x => g x y) (fun a r e d i => map1_ok (g := g d) (fun b r e' y' i' => h a b r e' d y' i i') b r e y iy) a r e x ix
/-! views -/
def vI : T → Option (Int × Int)
  | .int l h => some (l, h)
  | _ => none
def vR : T → Option (Nat × Nat)
  | .str l h => some (l, h)
  | .cs s => some (s.length, s.length)
  | .dg => some (0, 13)
  | _ => none
theorem vI_ok {t : T} {l h : Int} (e : vI t = some (l, h)) {d : D} (i : In N t d) : ∃ k, d = .int k ∧ l ≤ k ∧ k ≤ h := by
  cases t <;> first | (cases e; done) | skip
  cases e; exact i
theorem vR_ok {t : T} {l h : Nat} (e : vR t = some (l, h)) {d : D} (i : In N t d) : ∃ k : Str, d = .str k ∧ l ≤ k.length ∧ k.length ≤ h := by
  cases t <;> first | (cases e; done) | skip
  · cases e; exact i
  · cases e; exact ⟨_, i, Nat.le_refl _, Nat.le_refl _⟩
  · cases e; obtain ⟨k, e, _, h⟩ := i; exact ⟨_, e, Nat.zero_le _, h⟩
def vQ : T → Option (Bool × Nat × Nat × T) := vS jn
theorem vQ_ok {t u : T} {l : Bool} {lo hi : Nat} (e : vQ t = some (l, lo, hi, u)) {d : D} (i : In N t d) : ∃ xs, d = sq l xs ∧ lo ≤ xs.length ∧ xs.length ≤ hi ∧ ∀ x ∈ xs, In N u x := vS_ok jn_ok e i
/-- .. of alternatives, too -/
def vA : T → Option (Bool × Nat × Nat × T)
  | .or a b => (match vA a, vA b with
    | some (l, lo, hi, t), some (l', lo', hi', t') => if l == l' then some (l, min lo lo', max hi hi', jn t t') else none
    | _, _ => none)
  | t => vQ t
theorem vA_ok : ∀ {t u : T} {l : Bool} {lo hi : Nat}, vA t = some (l, lo, hi, u) → ∀ {d : D}, In N t d → ∃ xs, d = sq l xs ∧ lo ≤ xs.length ∧ xs.length ≤ hi ∧ ∀ x ∈ xs, In N u x := by
  intro t
  induction t with
  | or a b iha ihb =>
    intro u l lo hi e d i
    have e : (match vA a, vA b with
      | some (l, lo, hi, t), some (l', lo', hi', t') => if l == l' then some (l, min lo lo', max hi hi', jn t t') else none
      | _, _ => none) = some (l, lo, hi, u) := e
    split at e
    · rename_i l1 lo1 hi1 t1 l2 lo2 hi2 t2 e1 e2
      split at e
      · rename_i q
        have q := eq_of_beq q
        subst q
        cases e
        rcases i with i | i
        · obtain ⟨xs, h1, h2, h3, h4⟩ := iha e1 i
          exact ⟨xs, h1, by omega, by omega, fun x hx => jn_ok _ _ _ (.inl (h4 x hx))⟩
        · obtain ⟨xs, h1, h2, h3, h4⟩ := ihb e2 i
          exact ⟨xs, h1, by omega, by omega, fun x hx => jn_ok _ _ _ (.inr (h4 x hx))⟩
      · cases e
    · cases e
  | _ => intro u l lo hi e d i; exact vQ_ok e i
/-! constants -/
def ofD : D → Option T
  | .none => some .non
  | .bool b => some (.cb b)
  | .int i => some (.int i i)
  | .str s => some (.cs s)
  | .list xs => (ofL xs).map .lst
  | .tuple xs => (ofL xs).map .tup
  | .dict _ => none
where ofL : List D → Option T
  | [] => some .nil
  | x :: xs => (ofD x).bind fun a => (ofL xs).map fun r => .cons a r
mutual
theorem ofD_ok : ∀ (d : D) {t : T}, ofD d = some t → In N t d
  | .none, t, e => by simp only [ofD] at e; cases e; rfl
  | .bool b, t, e => by simp only [ofD] at e; cases e; rfl
  | .int i, t, e => by simp only [ofD] at e; cases e; exact ⟨i, rfl, Int.le_refl _, Int.le_refl _⟩
  | .str s, t, e => by simp only [ofD] at e; cases e; rfl
  | .list xs, t, e => by
    simp only [ofD] at e
    obtain ⟨r, e1, rfl⟩ := Option.map_eq_some_iff.mp e
    exact ⟨xs, rfl, ofL_ok xs e1⟩
  | .tuple xs, t, e => by
    simp only [ofD] at e
    obtain ⟨r, e1, rfl⟩ := Option.map_eq_some_iff.mp e
    exact ⟨xs, rfl, ofL_ok xs e1⟩
  | .dict kvs, t, e => by simp [ofD] at e
theorem ofL_ok : ∀ (xs : List D) {t : T}, ofD.ofL xs = some t → InL N t xs
  | [], t, e => by simp only [ofD.ofL] at e; cases e; rfl
  | x :: xs, t, e => by
    simp only [ofD.ofL] at e
    obtain ⟨a, e1, e2⟩ := Option.bind_eq_some_iff.mp e
    obtain ⟨r, e3, rfl⟩ := Option.map_eq_some_iff.mp e2
    exact ⟨x, xs, rfl, ofD_ok x e1, ofL_ok xs e3⟩
end
/-! operators -/
def appT : T → T → T
  | .cons a r, s => .cons a (appT r s)
  | _, s => s
theorem appT_ok : ∀ {a b : T} {xs ys : List D}, InL N a xs → InL N b ys → InL N (appT a b) (xs ++ ys) := by
  intro a
  induction a with
  | nil => intro b xs ys i j; rw [show xs = [] from i]; exact j
  | cons a r _ ih =>
    intro b xs ys i j
    obtain ⟨x, zs, rfl, i1, i2⟩ := i
    exact ⟨x, zs ++ ys, rfl, i1, ih i2 j⟩
  | _ => intro b xs ys i; exact i.elim
def addS (a b : T) : Option T := match vQ a, vQ b with
  | some (l, lo, hi, t), some (l', lo', hi', t') => if (l == l' && Nat.ble (hi + hi') LIM) = true then some (.seq l (lo + lo') (hi + hi') (jn t t')) else none
  | _, _ => none
def addR (a b : T) : Option T := match vR a, vR b with
  | some (l, h), some (l', h') => if Nat.ble (h + h') LIM = true then some (.str (l + l') (h + h')) else none
  | _, _ => none
def aAdd (a b : T) : Option T := match a, b with
  | .int l h, .int l' h' => some (.int (l + l') (h + h'))
  | .tup x, .tup y => if Nat.ble (tlen x + tlen y) 8 = true then some (.tup (appT x y)) else addS a b
  | .lst x, .lst y => if Nat.ble (tlen x + tlen y) 64 = true then some (.lst (appT x y)) else addS a b
  | a, b => match addR a b with
    | some r => some r
    | none => addS a b
theorem add_tup (xs ys : List D) (h : xs.length + ys.length ≤ LIM) : opBin .add (.tuple xs) (.tuple ys) = some (.tuple (xs ++ ys)) := if_pos h
theorem add_lst (xs ys : List D) (h : xs.length + ys.length ≤ LIM) : opBin .add (.list xs) (.list ys) = some (.list (xs ++ ys)) := if_pos h
theorem add_str (xs ys : Str) (h : xs.length + ys.length ≤ LIM) : opBin .add (.str xs) (.str ys) = some (.str (xs ++ ys)) := if_pos h
theorem addS_ok : Op2 N addS (opBin .add) := by
  intro a b r e x y ix iy
  unfold addS at e
  split at e
  · rename_i l lo hi t l' lo' hi' t' e1 e2
    split at e
    · rename_i q
      obtain ⟨q1, q2⟩ := a2 q
      have q1 := eq_of_beq q1
      subst q1
      cases e
      obtain ⟨xs, rfl, h1, h2, h3⟩ := vQ_ok e1 ix
      obtain ⟨ys, rfl, h4, h5, h6⟩ := vQ_ok e2 iy
      have q2 := bleI q2
      refine ⟨sq l (xs ++ ys), ?_, xs ++ ys, rfl, by rw [List.length_append]; omega, by rw [List.length_append]; omega, fun z hz => ?_⟩
      · cases l
        · exact add_tup _ _ (by omega)
        · exact add_lst _ _ (by omega)
      · rcases List.mem_append.mp hz with hz | hz
        · exact jn_ok _ _ _ (.inl (h3 z hz))
        · exact jn_ok _ _ _ (.inr (h6 z hz))
    · cases e
  · cases e
theorem len_add (x y : Str) : (x ++ y).length = x.length + y.length := by
  show (x.cps ++ y.cps).size = _
  rw [Array.size_append]
  rfl
theorem addR_ok : Op2 N addR (opBin .add) := by
  intro a b r e x y ix iy
  unfold addR at e
  split at e
  · rename_i l h l' h' e1 e2
    split at e
    · rename_i q
      cases e
      obtain ⟨x, rfl, h1, h2⟩ := vR_ok e1 ix
      obtain ⟨y, rfl, h4, h5⟩ := vR_ok e2 iy
      have q := bleI q
      exact ⟨_, add_str _ _ (by omega), _, rfl, by rw [len_add]; omega, by rw [len_add]; omega⟩
    · cases e
  · cases e
theorem aAdd_ok : Op2 N aAdd (opBin .add) := by
  intro a b r e x y ix iy
  unfold aAdd at e
  split at e
  · cases e
    obtain ⟨i, rfl, h1, h2⟩ := ix
    obtain ⟨j, rfl, h3, h4⟩ := iy
    exact ⟨_, rfl, _, rfl, by omega, by omega⟩
  · split at e
    · rename_i q
      cases e
      obtain ⟨xs, rfl, h1⟩ := ix
      obtain ⟨ys, rfl, h3⟩ := iy
      have q := bleI q
      have := InL.len h1
      have := InL.len h3
      exact ⟨_, add_tup _ _ (by unfold LIM; omega), _, rfl, appT_ok h1 h3⟩
    · exact addS_ok _ _ _ e _ _ ix iy
  · split at e
    · rename_i q
      cases e
      obtain ⟨xs, rfl, h1⟩ := ix
      obtain ⟨ys, rfl, h3⟩ := iy
      have q := bleI q
      have := InL.len h1
      have := InL.len h3
      exact ⟨_, add_lst _ _ (by unfold LIM; omega), _, rfl, appT_ok h1 h3⟩
    · exact addS_ok _ _ _ e _ _ ix iy
  · split at e
    · rename_i q
      cases e
      exact addR_ok _ _ _ q _ _ ix iy
    · exact addS_ok _ _ _ e _ _ ix iy
def aBin (o : BOp) (a b : T) : Option T := match o with
  | .add => aAdd a b
  | .sub => (match a, b with
    | .int l h, .int l' h' => some (.int (l - h') (h - l'))
    | _, _ => none)
  | .mul => (match a, b with
    | .int l h, .int l' h' => if (decide (0 ≤ l) && decide (0 ≤ l') && decide (h < 2 ^ 64)) = true then some (.int (l * l') (h * h')) else none
    | _, _ => none)
  | .fdiv => (match a, b with
    | .int l h, .int l' h' => if (decide (l' = h') && decide (0 < l') && decide (l' < 1073741824)) = true then some (.int (l / l') (h / l')) else none
    | _, _ => none)
  | .mod => (match a, b with
    | .int _ _, .int l' h' => if decide (0 < l') = true then some (.int 0 (h' - 1)) else none
    | _, _ => none)
  | .pow => (match a, b with
    | .int l h, .int l' h' => if (decide (l = h) && decide (l' = h') && decide (0 ≤ l') && decide (l' ≤ 1000) && decide (l.natAbs < 2 ^ 64)) = true then some (.int (l ^ l'.toNat) (l ^ l'.toNat)) else none
    | _, _ => none)
theorem aBin_ok (o : BOp) : Op2 N (aBin o) (opBin o) := by
  intro a b r e x y ix iy
  cases o
  · exact aAdd_ok a b r e x y ix iy
  · unfold aBin at e
    dsimp only at e
    split at e
    · cases e
      obtain ⟨i, rfl, h1, h2⟩ := ix
      obtain ⟨j, rfl, h3, h4⟩ := iy
      exact ⟨_, rfl, _, rfl, by omega, by omega⟩
    · cases e
  · unfold aBin at e
    dsimp only at e
    split at e
    · split at e
      · rename_i q
        cases e
        obtain ⟨q1, q2⟩ := a2 q
        obtain ⟨q3, q4⟩ := a2 q1
        have q2 := of_decide_eq_true q2
        have q3 := of_decide_eq_true q3
        have q4 := of_decide_eq_true q4
        obtain ⟨i, rfl, h1, h2⟩ := ix
        obtain ⟨j, rfl, h3, h4⟩ := iy
        exact ⟨_, mul_int ⟨by omega, by omega⟩, _, rfl, Int.mul_le_mul h1 h3 q4 (by omega), Int.mul_le_mul h2 h4 (by omega) (by omega)⟩
      · cases e
    · cases e
  · unfold aBin at e
    dsimp only at e
    split at e
    · split at e
      · rename_i q
        cases e
        obtain ⟨q1, q2⟩ := a2 q
        obtain ⟨q3, q4⟩ := a2 q1
        have q2 := of_decide_eq_true q2
        have q3 := of_decide_eq_true q3
        have q4 := of_decide_eq_true q4
        obtain ⟨i, rfl, h1, h2⟩ := ix
        obtain ⟨j, rfl, h3, h4⟩ := iy
        have : j = _ := Int.le_antisymm h4 (q3 ▸ h3)
        subst this
        subst q3
        exact ⟨_, fdiv_int ⟨q4, q2⟩, _, rfl, Int.ediv_le_ediv q4 h1, Int.ediv_le_ediv q4 h2⟩
      · cases e
    · cases e
  · unfold aBin at e
    dsimp only at e
    split at e
    · split at e
      · rename_i q
        cases e
        have q := of_decide_eq_true q
        obtain ⟨i, rfl, h1, h2⟩ := ix
        obtain ⟨j, rfl, h3, h4⟩ := iy
        have hj : 0 < j := by omega
        have := Int.emod_nonneg i (show j ≠ 0 by omega)
        have := Int.emod_lt_of_pos i hj
        exact ⟨_, mod_int hj, _, rfl, by omega, by omega⟩
      · cases e
    · cases e
  · unfold aBin at e
    dsimp only at e
    split at e
    · split at e
      · rename_i q
        cases e
        obtain ⟨q, q5⟩ := a2 q
        obtain ⟨q, q4⟩ := a2 q
        obtain ⟨q, q3⟩ := a2 q
        obtain ⟨q1, q2⟩ := a2 q
        have q1 := of_decide_eq_true q1
        have q2 := of_decide_eq_true q2
        have q3 := of_decide_eq_true q3
        have q4 := of_decide_eq_true q4
        have q5 := of_decide_eq_true q5
        obtain ⟨i, rfl, h1, h2⟩ := ix
        obtain ⟨j, rfl, h3, h4⟩ := iy
        subst q1
        subst q2
        have e1 : i = _ := Int.le_antisymm h2 h1
        have e2 : j = _ := Int.le_antisymm h4 h3
        subst e1
        subst e2
        exact ⟨_, pow_int ⟨q3, by omega, q5⟩, _, rfl, Int.le_refl _, Int.le_refl _⟩
      · cases e
    · cases e
end
end BV
set_option Elab.async false
set_option linter.all false
set_option maxRecDepth 100000
set_option maxHeartbeats 4000000
/-! BVG: plain laws of the other deck. -/
namespace BV
open PySem
theorem tv0 (a b c : Option D) : getV [a, b, c] 0 = a := rfl
theorem tv1 (a b c : Option D) : getV [a, b, c] 1 = b := rfl
theorem tv2 (a b c : Option D) : getV [a, b, c] 2 = c := rfl
theorem tt0 (a b c x : Option D) : List.set [a, b, c] 0 x = [x, b, c] := rfl
theorem tt1 (a b c x : Option D) : List.set [a, b, c] 1 x = [a, x, c] := rfl
theorem tt2 (a b c x : Option D) : List.set [a, b, c] 2 x = [a, b, x] := rfl
theorem tl0 (xs : List D) (b c : Option D) : hasL [some (.list xs), b, c] 0 = true := rfl
def wC2 : IE := (.cmp .lt (.idx (.var 0) (.cst (.int 2))) (.blt .len (.econs (.idx (.var 0) (.cst (.int 1))) .enil)))
def wB2 : IS := (.cons (.set 2 (.idx (.idx (.var 0) (.cst (.int 1))) (.idx (.var 0) (.cst (.int 2))))) (.cons (.ifs (.cmp .gt (.var 2) (.cst (.int 0))) (.cons (.dk1 0 (.idx (.var 0) (.cst (.int 2))) (.bin .fdiv (.var 2) (.var 1))) (.cons (.ret (.bin .mod (.var 2) (.var 1))) .nil)) .nil) (.cons (.seti 0 (.cst (.int 2)) (.bin .add (.idx (.var 0) (.cst (.int 2))) (.cst (.int 1)))) .nil)))
def cellE : IE := (.bin .add (.bin .mod (.idx (.idx (.var 0) (.cst (.int 0))) (.bin .mod (.idx (.var 0) (.cst (.int 3))) (.blt .len (.econs (.idx (.var 0) (.cst (.int 0))) .enil)))) (.cst (.int 1000003))) (.cst (.int 5)))
def take2Body : IS := (.cons (.whl wC2 wB2) (.cons (.seti 0 (.cst (.int 3)) (.bin .add (.idx (.var 0) (.cst (.int 3))) (.cst (.int 1)))) (.cons (.set 2 cellE) (.cons (.ret (.bin .mod (.bin .fdiv (.bin .mod (.bin .pow (.bin .add (.bin .mul (.var 2) (.bin .add (.idx (.var 0) (.cst (.int 3))) (.cst (.int 2)))) (.bin .mul (.cst (.int 7919)) (.idx (.var 0) (.cst (.int 3))))) (.cst (.int 5))) (.cst (.int 2147483647))) (.cst (.int 13))) (.var 1))) .nil))))
def take2Fn : Fn := { np := 2, ns := 3, io := true, body := take2Body }
section
variable {call : Nat → List D → FRes} {hcall : Nat → D → FRes} {cur : D}
theorem wh_turn2 (cells ys : List Int) (m : Nat) (many : Int) (h0 : 0 < many) (h1 : many < 1073741824) : ∀ (j i : Nat) (x : Option D), ys.length - i = j → i ≤ ys.length → ∀ n : Nat, j < n →
    (∃ x', whlLoop (evE call hcall cur wC2) (evS call hcall cur wB2) n [some (deckOf cells ys i m), some (.int many), x] = .next [some (deckOf cells ys ys.length m), some (.int many), x']) ∨
    (∃ ys' i' r x', ys'.length = ys.length ∧ i' ≤ ys.length ∧ (0 : Int) ≤ r ∧ r < many ∧ whlLoop (evE call hcall cur wC2) (evS call hcall cur wB2) n [some (deckOf cells ys i m), some (.int many), x] = .ret (.int r) [some (deckOf cells ys' i' m), some (.int many), x'])
  | 0, i, x, hj, hi, n + 1, _ => by
    have e : i = ys.length := by omega
    subst e
    refine .inl ⟨x, ?_⟩
    have hd : decide ((ys.length : Int) < (ys.length : Int)) = false := by simp
    simp only [deckOf, whlLoop, wC2, evE, evA, tv0, ix2, ix1, len_ints, cmpLt_int, hd, Option.map_some, Out.bind_ok, Out.lift_some, Out.toS_ok, tru_b, Bool.false_eq_true, if_false]
  | j + 1, i, x, hj, hi, n + 1, hn => by
    have hlt : i < ys.length := by omega
    have hd : decide ((i : Int) < (ys.length : Int)) = true := by simp [hlt]
    have hix : opIdx (.list (ys.map .int)) (.int (i : Int)) = some (.int ys[i]) := opIdx_nat (by simp [hlt])
    by_cases hp : 0 < ys[i]
    · refine .inr ⟨ys.set i (ys[i] / many), i, ys[i] % many, some (.int ys[i]), by simp, hi, Int.emod_nonneg _ (by omega), Int.emod_lt_of_pos _ h0, ?_⟩
      have hd2 : decide (0 < ys[i]) = true := by simp [hp]
      simp only [deckOf, whlLoop, wC2, wB2, evS, evE, evA, tv0, tv1, tv2, tt0, tt2, tl0, ix2, ix1, len_ints, cmpLt_int, cmpGt_int, hd, hd2, hix, mod_int h0, fdiv_int ⟨h0, h1⟩, dkD, put_ints hlt, Option.map_some, Out.bind_ok, Out.lift_some, Out.toS_ok, SOut.thn_next, SOut.thn_ret, tru_b, if_true]
    · have hd2 : decide (0 < ys[i]) = false := by simp; omega
      have hs : putIdx (.list [.list (cells.map .int), .list (ys.map .int), .int (i : Int), .int (m : Int)]) (.int 2) (.int ((i : Int) + 1)) = some (deckOf cells ys (i + 1) m) := rfl
      have ih := wh_turn2 cells ys m many h0 h1 j (i + 1) (some (.int ys[i])) (by omega) (by omega) n (by omega)
      have e : whlLoop (evE call hcall cur wC2) (evS call hcall cur wB2) (n + 1) [some (deckOf cells ys i m), some (.int many), x] = whlLoop (evE call hcall cur wC2) (evS call hcall cur wB2) n [some (deckOf cells ys (i + 1) m), some (.int many), some (.int ys[i])] := by
        have hw : ∀ ρ, whlLoop (evE call hcall cur wC2) (evS call hcall cur wB2) (n + 1) ρ = (evE call hcall cur wC2 ρ).toS fun k ρ => if tru k = true then (evS call hcall cur wB2 ρ).thn fun ρ => whlLoop (evE call hcall cur wC2) (evS call hcall cur wB2) n ρ else .next ρ := fun _ => rfl
        rw [hw]
        have h1 : evE call hcall cur wC2 [some (deckOf cells ys i m), some (.int many), x] = .ok (.bool true) [some (deckOf cells ys i m), some (.int many), x] := by
          simp only [deckOf, wC2, evE, evA, tv0, ix2, ix1, len_ints, cmpLt_int, hd, Option.map_some, Out.bind_ok, Out.lift_some]
        have h2 : evS call hcall cur wB2 [some (deckOf cells ys i m), some (.int many), x] = .next [some (deckOf cells ys (i + 1) m), some (.int many), some (.int ys[i])] := by
          simp only [deckOf, wB2, evS, evE, evA, tv0, tv1, tv2, tt0, tt2, tl0, ix2, ix1, cmpGt_int, hd2, hix, setD, add_int, Option.map_some, Out.bind_ok, Out.lift_some, Out.toS_ok, SOut.thn_next, tru_b, if_true, Bool.false_eq_true, if_false, hs]
        rw [h1, Out.toS_ok, tru_b, if_pos rfl, h2, SOut.thn_next]
      rw [e]
      exact ih
theorem cell_ev2 (cells ys : List Int) (i m : Nat) (hne : cells ≠ []) (b c : Option D) : ∃ q : Int, 0 ≤ q ∧ q < 1000003 ∧ evE call hcall cur cellE [some (deckOf cells ys i m), b, c] = .ok (.int (q + 5)) [some (deckOf cells ys i m), b, c] := by
  have hl : 0 < (cells.length : Int) := by
    have := List.length_pos_iff.mpr hne
    omega
  have h1 := Int.emod_nonneg (m : Int) (b := (cells.length : Int)) (by omega)
  have h2 := Int.emod_lt_of_pos (m : Int) hl
  obtain ⟨k, hk⟩ : ∃ k : Nat, (m : Int) % (cells.length : Int) = k := ⟨((m : Int) % (cells.length : Int)).toNat, by omega⟩
  have hkl : k < cells.length := by omega
  have hix : opIdx (.list (cells.map .int)) (.int ((m : Int) % (cells.length : Int))) = some (.int cells[k]) := by
    rw [hk]
    exact opIdx_nat (by simp [hkl])
  refine ⟨cells[k] % 1000003, Int.emod_nonneg _ (by omega), Int.emod_lt_of_pos _ (by omega), ?_⟩
  simp only [deckOf, cellE, evE, evA, tv0, ix0, ix3, len_ints, mod_int hl, hix, mod_int (show (0 : Int) < 1000003 by omega), add_int, Out.bind_ok, Out.lift_some]
end
theorem take2_run {P : Nat → Option Fn} {t : Nat} (ht : P t = some take2Fn) (k : Nat) (cells ys : List Int) (i m : Nat) (hne : cells ≠ []) (hi : i ≤ ys.length) (hl : ys.length ≤ 63) (hm : m ≤ 1000000) (many : Int) (h0 : 0 < many) (h1 : many < 1073741824) :
    ∃ (r : Int) (ys' : List Int) (i' m' : Nat), run P (k + 1) t [deckOf cells ys i m, .int many] = .ret (.int r) (deckOf cells ys' i' m') ∧ 0 ≤ r ∧ r < many ∧ ys'.length = ys.length ∧ i' ≤ ys'.length ∧ m' ≤ m + 1 := by
  rw [run_ret ht rfl rfl]
  show ∃ (r : Int) (ys' : List Int) (i' m' : Nat), (take2Fn).endS (evS (runB P k).1 (runB P k).2 .none take2Body [some (deckOf cells ys i m), some (.int many), none]) = _ ∧ _
  unfold take2Body
  rw [evS, evS]
  rcases wh_turn2 (call := (runB P k).1) (hcall := (runB P k).2) (cur := .none) cells ys m many h0 h1 (ys.length - i) i none rfl hi whileFuel (by unfold whileFuel; omega) with ⟨x', e⟩ | ⟨ys', i', r, x', hy, hi', hr, hr', e⟩
  · rw [e, SOut.thn_next]
    obtain ⟨q, hvm, hvl, ec⟩ := cell_ev2 (call := (runB P k).1) (hcall := (runB P k).2) (cur := .none) cells ys ys.length (m + 1) hne (some (.int many)) x'
    have hs : putIdx (.list [.list (cells.map .int), .list (ys.map .int), .int (ys.length : Int), .int (m : Int)]) (.int 3) (.int ((m : Int) + 1)) = some (.list [.list (cells.map .int), .list (ys.map .int), .int (ys.length : Int), .int ((m : Int) + 1)]) := rfl
    have hmulb : 0 ≤ (q + 5) * ((m : Int) + 1 + 2) ∧ (q + 5) * ((m : Int) + 1 + 2) ≤ 1000007 * 1000003 := ⟨Int.mul_nonneg (by omega) (by omega), Int.mul_le_mul (by omega) (by omega) (by omega) (by omega)⟩
    have hpow : (0 : Int) ≤ 5 ∧ (5 : Int) ≤ 1000000 ∧ ((q + 5) * ((m : Int) + 1 + 2) + 7919 * ((m : Int) + 1)).natAbs < 2 ^ 64 := ⟨by omega, by omega, by omega⟩
    refine ⟨((((q + 5) * ((m : Int) + 1 + 2) + 7919 * ((m : Int) + 1)) ^ (5 : Int).toNat % 2147483647) / 13) % many, ys, ys.length, m + 1, ?_, Int.emod_nonneg _ (by omega), Int.emod_lt_of_pos _ h0, rfl, Nat.le_refl _, Nat.le_refl _⟩
    have hdk : PyData.list [.list (cells.map .int), .list (ys.map .int), .int (ys.length : Int), .int ((m : Int) + 1)] = deckOf cells ys ys.length (m + 1) := rfl
    have s1 : evS (runB P k).1 (runB P k).2 .none (.seti 0 (.cst (.int 3)) (.bin .add (.idx (.var 0) (.cst (.int 3))) (.cst (.int 1)))) [some (deckOf cells ys ys.length m), some (.int many), x'] = .next [some (deckOf cells ys ys.length (m + 1)), some (.int many), x'] := by
      simp only [deckOf, evS, evE, tv0, tl0, ix3, setD, add_int, hs, tt0, Out.bind_ok, Out.lift_some, Out.toS_ok, if_true]
      rfl
    rw [evS, s1, SOut.thn_next, evS, evS, ec, Out.toS_ok, tt2, SOut.thn_next]
    have hcast : ((m + 1 : Nat) : Int) = (m : Int) + 1 := by omega
    simp only [deckOf, evS, evE, tv0, tv1, tv2, ix3, hcast, add_int, mod_int h0, mod_int (show (0 : Int) < 2147483647 by omega), mul_int (show -(2 ^ 64) < q + 5 ∧ q + 5 < 2 ^ 64 by omega), mul_int (show (-(2 ^ 64) : Int) < 7919 ∧ (7919 : Int) < 2 ^ 64 by omega), pow_int hpow, fdiv_int (show (0 : Int) < 13 ∧ (13 : Int) < 1073741824 by omega), Out.bind_ok, Out.lift_some, Out.toS_ok, SOut.thn_ret]
    rfl
  · rw [e, SOut.thn_ret]
    exact ⟨r, ys', i', m, rfl, hr, hr', hy, hy ▸ hi', by omega⟩
theorem take2_dk (hk : dkNe = true) {P : Nat → Option Fn} {t : Nat} (ht : P t = some take2Fn) (k : Nat) {N : Nat} {d : D} (h : DkN N d) (hN : N ≤ 1000000) (many : Int) (h0 : 0 < many) (h1 : many < 1073741824) :
    ∃ (r : Nat) (d' : D), run P (k + 1) t [d, .int many] = .ret (.int r) d' ∧ (r : Int) < many ∧ DkN (N + 1) d' := by
  obtain ⟨cells, ys, i, m, e, hi, hl, hm, hne⟩ := h
  subst e
  obtain ⟨r, ys', i', m', e, hr, hr', hy, hi', hm'⟩ := take2_run ht k cells ys i m (hne hk) hi hl (by omega) many h0 h1
  refine ⟨r.toNat, _, ?_, ?_, cells, ys', i', m', rfl, hi', by omega, by omega, hne⟩
  · rw [e, Int.toNat_of_nonneg hr]
  · rw [Int.toNat_of_nonneg hr]; exact hr'
/-! the deck -/
def absC : IE := (.lc [2] (.s 2) (.var 0) (.cst (.bool true)) (.blt .abs (.econs (.var 2) .enil)))
def greatC2 : IE := (.lc [2] (.s 2) (.var 1) (.cmp .ge (.var 2) (.bin .pow (.cst (.int 10)) (.cst (.int 18)))) (.var 2))
def deck2Body : IS := (.cons (.set 1 (.bin .add absC (.bin .mul (.lst (.econs (.cst (.int 3)) .enil)) (.blt .int (.econs (.cmp .eq (.blt .len (.econs (.var 0) .enil)) (.cst (.int 0))) .enil))))) (.cons (.ret (.lst (.econs (.var 1) (.econs greatC2 (.econs (.cst (.int 0)) (.econs (.cst (.int 0)) .enil)))))) .nil))
def deck2Fn : Fn := { np := 1, ns := 3, dk := true, body := deck2Body }
def great2 (xs : List Int) : List Int := xs.filter fun x => !decide (x < 10 ^ 18)
section
variable {call : Nat → List D → FRes} {hcall : Nat → D → FRes} {cur : D}
theorem abs_ev (ns : List Int) (b : Option D) : evE call hcall cur absC [some (.list (ns.map .int)), b, none] = .ok (.list ((ns.map absI).map .int)) [some (.list (ns.map .int)), b, none] := by
  have hit : ∀ xs, items (.list xs) = some xs := fun _ => rfl
  unfold absC
  rw [evE, evE, tv0, Out.lift_some, Out.bind_ok, hit, Out.lift_some, Out.bind_ok]
  show ((lcLoop _ _ [some (.list (ns.map .int)), b, none]).noExc).bind _ = _
  rw [lcLoop_same (ρ := [some (.list (ns.map .int)), b, none]) (fun x => match x with
    | .int c => some (.int (absI c))
    | _ => none)]
  · have e : ∀ cs : List Int, List.filterMap (fun x : D => match x with
      | .int c => some (PyData.int (absI c))
      | _ => none) (cs.map .int) = (cs.map absI).map .int := by
      intro cs
      induction cs with
      | nil => rfl
      | cons c cs ih =>
        rw [List.map_cons, List.filterMap_cons, ih]
        rfl
    rw [e]
    rfl
  · intro x hx
    obtain ⟨c, _, rfl⟩ := List.mem_map.mp hx
    have hb : bindT (.s 2) (.int c) [some (.list (ns.map .int)), b, none] = some [some (.list (ns.map .int)), b, some (.int c)] := rfl
    have hw : wipeE [some (.list (ns.map .int)), b, some (.int c)] [2] = [some (.list (ns.map .int)), b, none] := rfl
    have hab : opBlt .abs [.int c] = some (.int (absI c)) := rfl
    simp -implicitDefEqProofs only [turnE, hb, evE, evA, tv2, hab, hw, tru_b, Out.bind_ok, Out.lift_some, if_true]
theorem great2_ev (a : Option D) (cs : List Int) : evE call hcall cur greatC2 [a, some (.list (cs.map .int)), none] = .ok (.list ((great2 cs).map .int)) [a, some (.list (cs.map .int)), none] := by
  have hit : ∀ xs, items (.list xs) = some xs := fun _ => rfl
  unfold greatC2
  rw [evE, evE, tv1, Out.lift_some, Out.bind_ok, hit, Out.lift_some, Out.bind_ok]
  show ((lcLoop _ _ [a, some (.list (cs.map .int)), none]).noExc).bind _ = _
  rw [lcLoop_same (ρ := [a, some (.list (cs.map .int)), none]) (fun x => match x with
    | .int c => if (!decide (c < 10 ^ 18)) = true then some (.int c) else none
    | _ => none)]
  · have e : ∀ cs : List Int, List.filterMap (fun x : D => match x with
      | .int c => if (!decide (c < 10 ^ 18)) = true then some (PyData.int c) else none
      | _ => none) (cs.map .int) = (great2 cs).map .int := by
      intro cs
      induction cs with
      | nil => rfl
      | cons c cs ih =>
        rw [List.map_cons, List.filterMap_cons, ih]
        unfold great2
        by_cases h : (!decide (c < 10 ^ 18)) = true
        · rw [List.filter_cons_of_pos (p := fun x : Int => !decide (x < 10 ^ 18)) h]
          dsimp only
          rw [if_pos h]
          rfl
        · rw [List.filter_cons_of_neg (p := fun x : Int => !decide (x < 10 ^ 18)) h]
          dsimp only
          rw [if_neg h]
    rw [e]
    rfl
  · intro x hx
    obtain ⟨c, _, rfl⟩ := List.mem_map.mp hx
    have hb : bindT (.s 2) (.int c) [a, some (.list (cs.map .int)), none] = some [a, some (.list (cs.map .int)), some (.int c)] := rfl
    have hw : wipeE [a, some (.list (cs.map .int)), some (.int c)] [2] = [a, some (.list (cs.map .int)), none] := rfl
    have hpw : opBin .pow (.int 10) (.int 18) = some (.int (10 ^ 18)) := rfl
    have hge : opCmp .ge (.int c) (.int (10 ^ 18)) = some (!decide (c < 10 ^ 18)) := rfl
    simp -implicitDefEqProofs only [turnE, hb, evE, evA, tv2, hpw, hge, hw, tru_b, Option.map_some, Out.bind_ok, Out.lift_some]
    by_cases h : (!decide (c < 10 ^ 18)) = true
    · rw [if_pos h, if_pos h]
    · rw [if_neg h, if_neg h]
end
theorem deck2_run {P : Nat → Option Fn} {f : Nat} (hf : P f = some deck2Fn) (k : Nat) (ns : List Int) (hl : ns.length ≤ 63) : ∃ d, run P (k + 1) f [.list (ns.map .int)] = .ret d .none ∧ DkN 0 d := by
  obtain ⟨cs, hcs⟩ : ∃ cs : List Int, cs = ns.map absI ++ (if ns.length = 0 then [3] else []) := ⟨_, rfl⟩
  have hcl : cs.length ≤ 63 := by
    rw [hcs, List.length_append, List.length_map]
    split
    · rename_i h; simp [h]
    · simpa using hl
  have hne : cs ≠ [] := by
    rw [hcs]
    split
    · simp
    · rename_i h
      intro z
      have := congrArg List.length z
      rw [List.length_append, List.length_map] at this
      simp at this
      exact h (by simpa using this)
  refine ⟨deckOf cs (great2 cs) 0 0, ?_, cs, great2 cs, 0, 0, rfl, Nat.zero_le _, Nat.le_trans (List.length_filter_le _ _) hcl, Nat.le_refl _, fun _ => hne⟩
  rw [run_ret hf rfl rfl]
  show deck2Fn.endS (evS (runB P k).1 (runB P k).2 .none deck2Body [some (.list (ns.map .int)), none, none]) = _
  have hln : opBlt .len [.list (ns.map .int)] = some (.int (ns.length : Int)) := len_ints ns
  have hz : decide ((ns.length : Int) = 0) = decide (ns.length = 0) := decide_eq_decide.mpr (by omega)
  have hadd : ∃ m, opBlt .int [.bool (decide (ns.length = 0))] = some (.int m) ∧ opBin .mul (.list [.int 3]) (.int m) = some (.list ((if ns.length = 0 then [3] else [] : List Int).map .int)) := by
    by_cases h : ns.length = 0
    · rw [decide_eq_true h, if_pos h]
      exact ⟨1, rfl, rfl⟩
    · rw [decide_eq_false h, if_neg h]
      exact ⟨0, rfl, rfl⟩
  obtain ⟨m, hm1, hm2⟩ := hadd
  have hcat : opBin .add (.list ((ns.map absI).map .int)) (.list ((if ns.length = 0 then [3] else [] : List Int).map .int)) = some (.list (cs.map .int)) := by
    have : ((ns.map absI).map PyData.int).length + ((if ns.length = 0 then [3] else [] : List Int).map PyData.int).length ≤ LIM := by
      have := hcl
      rw [hcs, List.length_append] at this
      simp only [List.length_map] at this ⊢
      unfold LIM
      omega
    refine (add_lst _ _ this).trans ?_
    rw [hcs, List.map_append]
  simp -implicitDefEqProofs only [deck2Body, evS, evE, evA, abs_ev, tv0, tv1, tt1, hln, cmpEq_int, hz, hm1, hm2, hcat, great2_ev, Option.map_some, Out.bind_ok, Out.lift_some, Out.toS_ok, SOut.thn_next, SOut.thn_ret]
  rfl
end BV
set_option Elab.async false
set_option linter.all false
set_option maxRecDepth 100000
set_option maxHeartbeats 4000000
/-! BT3: more operations on types. -/
namespace BV
open PySem
section
variable {N : Nat}
/-! comparisons -/
def flatB (a b : T) : Bool := nodk a && nodk b && (Nat.ble (depT a) 64 && Nat.ble (depT b) 64)
def aEq (a b : T) : Option T := match a, b with
  | .int l h, .int l' h' => some (if (decide (h < l') || decide (h' < l)) = true then .cb false else if (decide (l = h) && decide (l' = h') && decide (l = l')) = true then .cb true else .bl)
  | .cs s, .cs t => some (.cb (decide (s = t)))
  | a, b => if flatB a b = true then some .bl else none
def negT : T → T
  | .cb b => .cb (!b)
  | _ => .bl
def ltI (l h l' h' : Int) : T := if decide (h < l') = true then .cb true else if decide (h' ≤ l) = true then .cb false else .bl
def aLt (a b : T) : Option T := match a, b with
  | .int l h, .int l' h' => some (ltI l h l' h')
  | a, b => (match vR a, vR b with
    | some _, some _ => some .bl
    | _, _ => none)
def aIs (a b : T) : Option T := match b with
  | .non => some (match a with
    | .non => .cb true
    | .int _ _ => .cb false
    | .bl => .cb false
    | .cb _ => .cb false
    | .str _ _ => .cb false
    | .cs _ => .cb false
    | .tup _ => .cb false
    | .lst _ => .cb false
    | .seq _ _ _ _ => .cb false
    | .dc => .cb false
    | .dg => .cb false
    | _ => .bl)
  | .cb _ => some .bl
  | _ => none
def aMem (a b : T) : Option T := match vQ b with
  | some _ => if flatB a b = true then some .bl else none
  | none => (match vR a, vR b with
    | some _, some _ => some .bl
    | _, _ => none)
def aCmp (o : COp) (a b : T) : Option T := match o with
  | .eq => aEq a b
  | .ne => (aEq a b).map negT
  | .lt => aLt a b
  | .gt => aLt b a
  | .le => (aLt b a).map negT
  | .ge => (aLt a b).map negT
  | .is => aIs a b
  | .isnot => (aIs a b).map negT
  | .mem => aMem a b
  | .notin => (aMem a b).map negT
/-- a test's type -/
abbrev TB (N : Nat) (t : T) (b : Bool) : Prop := In N t (.bool b)
theorem tb_bl {b : Bool} : TB N .bl b := ⟨b, rfl⟩
theorem negT_ok {t : T} {b : Bool} (h : TB N t b) : TB N (negT t) (!b) := by
  cases t <;> first | exact tb_bl | skip
  cases (show PyData.bool b = .bool _ from h)
  rfl
theorem flat_ok {a b : T} (h : flatB a b = true) {x y : D} (ix : In N a x) (iy : In N b y) : noDict x = true ∧ noDict y = true ∧ x.depth ≤ 64 ∧ y.depth ≤ 64 := by
  obtain ⟨h1, h2⟩ := a2 h
  obtain ⟨h3, h4⟩ := a2 h1
  obtain ⟨h5, h6⟩ := a2 h2
  have a := (nd_ok a h3).1 x ix
  have b := (nd_ok b h4).1 y iy
  have := bleI h5
  have := bleI h6
  exact ⟨a.1, b.1, by omega, by omega⟩
abbrev OpC (N : Nat) (f : T → T → Option T) (g : D → D → Option Bool) : Prop := ∀ a b r, f a b = some r → ∀ x y, In N a x → In N b y → ∃ e, g x y = some e ∧ TB N r e
theorem cmpEq_str (s t : Str) : opCmp .eq (.str s) (.str t) = some (decide (s = t)) := by
  have : PyData.eqv (.str s) (.str t) = decide (s = t) := by
    by_cases h : s = t
    · subst h; simp [PyData.eqv]
    · simp [PyData.eqv, h]
  show (if eqOk (.str s) (.str t) = true then some (PyData.eqv (.str s) (.str t)) else none) = _
  rw [if_pos (by rfl), this]
theorem aEq_ok : OpC N aEq (opCmp .eq) := by
  intro a b r e x y ix iy
  unfold aEq at e
  split at e
  · cases e
    obtain ⟨i, rfl, h1, h2⟩ := ix
    obtain ⟨j, rfl, h3, h4⟩ := iy
    refine ⟨_, cmpEq_int _ _, ?_⟩
    split
    · rename_i q
      rcases Bool.or_eq_true_iff.mp q with q | q <;> have q := of_decide_eq_true q <;> exact congrArg PyData.bool (decide_eq_false (by omega))
    · split
      · rename_i q
        obtain ⟨q1, q2⟩ := a2 q
        obtain ⟨q3, q4⟩ := a2 q1
        have q2 := of_decide_eq_true q2
        have q3 := of_decide_eq_true q3
        have q4 := of_decide_eq_true q4
        exact congrArg PyData.bool (decide_eq_true (by omega))
      · exact tb_bl
  · cases e
    cases (show x = _ from ix)
    cases (show y = _ from iy)
    exact ⟨_, cmpEq_str _ _, rfl⟩
  · split at e
    · rename_i q
      cases e
      obtain ⟨h1, h2, h3, h4⟩ := flat_ok q ix iy
      refine ⟨PyData.eqv x y, if_pos ?_, tb_bl⟩
      unfold eqOk
      rw [h1, h2, show decide (min x.depth y.depth ≤ 64) = true from decide_eq_true (by omega)]
      rfl
    · cases e
theorem ltI_ok {l h l' h' i j : Int} (h1 : l ≤ i) (h2 : i ≤ h) (h3 : l' ≤ j) (h4 : j ≤ h') : TB N (ltI l h l' h') (decide (i < j)) := by
  unfold ltI
  split
  · rename_i q; have q := of_decide_eq_true q; exact congrArg PyData.bool (decide_eq_true (by omega))
  · split
    · rename_i q; have q := of_decide_eq_true q; exact congrArg PyData.bool (decide_eq_false (by omega))
    · exact tb_bl
theorem aLt_ok : OpC N aLt (opCmp .lt) := by
  intro a b r e x y ix iy
  unfold aLt at e
  split at e
  · cases e
    obtain ⟨i, rfl, h1, h2⟩ := ix
    obtain ⟨j, rfl, h3, h4⟩ := iy
    exact ⟨_, cmpLt_int _ _, ltI_ok h1 h2 h3 h4⟩
  · split at e
    · rename_i e1 e2
      cases e
      obtain ⟨s, rfl, _⟩ := vR_ok e1 ix
      obtain ⟨t, rfl, _⟩ := vR_ok e2 iy
      exact ⟨_, rfl, tb_bl⟩
    · cases e
theorem aIs_ok : OpC N aIs (opCmp .is) := by
  intro a b r e x y ix iy
  unfold aIs at e
  split at e
  · cases e
    cases (show y = _ from iy)
    refine ⟨isNone x, rfl, ?_⟩
    cases a <;> first | exact ix.elim | exact tb_bl | skip
    · cases (show x = _ from ix); rfl
    · obtain ⟨_, rfl, _⟩ := ix; rfl
    · obtain ⟨_, rfl⟩ := ix; rfl
    · cases (show x = _ from ix); rfl
    · obtain ⟨_, rfl, _⟩ := ix; rfl
    · cases (show x = _ from ix); rfl
    · obtain ⟨_, rfl, _⟩ := ix; rfl
    · obtain ⟨_, rfl, _⟩ := ix; rfl
    · rename_i l _ _ _
      obtain ⟨_, rfl, _⟩ := ix; cases l <;> rfl
    · cases (show x = _ from ix); rfl
    · obtain ⟨_, rfl, _⟩ := ix; rfl
  · cases e
    cases (show y = _ from iy)
    exact ⟨_, rfl, tb_bl⟩
  · cases e
theorem mem_sq {l : Bool} {ys : List D} {x : D} (h1 : noDict x = true) (h2 : noDict (sq l ys) = true) (h3 : x.depth ≤ 64) : opMem x (sq l ys) = some (ys.any fun z => PyData.eqv z x) := by
  have h2 : noDicts ys = true := by cases l <;> simpa [sq, noDict] using h2
  have : (noDict x && noDicts ys && decide (min (PyData.depthAll ys) x.depth ≤ 64)) = true := by
    rw [h1, h2, decide_eq_true (by omega)]; rfl
  cases l <;> exact if_pos this
theorem aMem_ok : OpC N aMem (opCmp .mem) := by
  intro a b r e x y ix iy
  unfold aMem at e
  split at e
  · rename_i q
    split at e
    · rename_i e1
      cases e
      obtain ⟨h1, h2, h3, h4⟩ := flat_ok e1 ix iy
      obtain ⟨ys, rfl, _⟩ := vQ_ok q iy
      exact ⟨_, mem_sq h1 h2 h3, tb_bl⟩
    · cases e
  · split at e
    · rename_i e1 e2
      cases e
      obtain ⟨s, rfl, _⟩ := vR_ok e1 ix
      obtain ⟨t, rfl, _⟩ := vR_ok e2 iy
      exact ⟨_, rfl, tb_bl⟩
    · cases e
theorem neg_op {f : T → T → Option T} {g g' : D → D → Option Bool} (h : OpC N f g) (e : ∀ x y, g' x y = (g x y).map (!·)) : OpC N (fun a b => (f a b).map negT) g' := by
  intro a b r q x y ix iy
  obtain ⟨r', q1, rfl⟩ := Option.map_eq_some_iff.mp q
  obtain ⟨v, e1, e2⟩ := h _ _ _ q1 x y ix iy
  exact ⟨!v, by rw [e, e1]; rfl, negT_ok e2⟩
theorem aCmp_ok (o : COp) : OpC N (aCmp o) (opCmp o) := by
  cases o
  · exact aEq_ok
  · refine neg_op aEq_ok fun x y => ?_
    show (if eqOk x y = true then some (!PyData.eqv x y) else none) = (if eqOk x y = true then some (PyData.eqv x y) else none).map (!·)
    split <;> rfl
  · exact aLt_ok
  · exact neg_op (fun a b r e x y ix iy => aLt_ok b a r e y x iy ix) fun x y => rfl
  · exact fun a b r e x y ix iy => aLt_ok b a r e y x iy ix
  · exact neg_op aLt_ok fun x y => rfl
  · exact aIs_ok
  · intro a b r q x y ix iy
    obtain ⟨r', q1, rfl⟩ := Option.map_eq_some_iff.mp q
    obtain ⟨v, e1, e2⟩ := aIs_ok _ _ _ q1 x y ix iy
    refine ⟨!v, ?_, negT_ok e2⟩
    unfold aIs at q1
    split at q1
    · cases (show y = _ from iy)
      cases (show some (isNone x) = some v from e1)
      rfl
    · cases (show y = _ from iy)
      rename_i b'
      cases (show some (isBl b' x) = some v from e1)
      rfl
    · cases q1
  · exact aMem_ok
  · exact neg_op aMem_ok fun x y => rfl
/-- as an operation with a truth -/
theorem opC2 {f : T → T → Option T} {g : D → D → Option Bool} (h : OpC N f g) : Op2 N f (fun x y => (g x y).map PyData.bool) := by
  intro a b r e x y ix iy
  obtain ⟨v, e1, e2⟩ := h a b r e x y ix iy
  exact ⟨.bool v, by show (g x y).map PyData.bool = _; rw [e1]; rfl, e2⟩
/-! index -/
def nthT : T → Nat → Option T
  | .cons a _, 0 => some a
  | .cons _ r, n + 1 => nthT r n
  | _, _ => none
theorem nthT_ok : ∀ {a : T} {xs : List D} {n : Nat} {t : T}, InL N a xs → nthT a n = some t → ∃ x, xs[n]? = some x ∧ In N t x := by
  intro a
  induction a with
  | cons a r _ ih =>
    intro xs n t i e
    obtain ⟨x, ys, rfl, i1, i2⟩ := i
    cases n with
    | zero => cases e; exact ⟨x, rfl, i1⟩
    | succ n =>
      obtain ⟨v, h1, h2⟩ := ih (xs := ys) i2 (show nthT r n = some t from e)
      exact ⟨v, h1, h2⟩
  | nil => intro xs n t i e; cases e
  | _ => intro xs n t i; exact i.elim
def aIdxQ (a : T) (l h : Int) : Option T := match vQ a with
  | some (_, lo, _, t) => if ((decide (0 ≤ l) && decide (h < lo)) || (decide (h < 0) && decide (-(lo : Int) ≤ l))) = true then some t else none
  | none => (match vR a with
    | some (lo, _) => if ((decide (0 ≤ l) && decide (h < lo)) || (decide (h < 0) && decide (-(lo : Int) ≤ l))) = true then some (.str 1 1) else none
    | none => none)
def aIdxX (a : T) (l h : Int) : Option T := match a with
  | .tup x => if (decide (l = h) && decide (0 ≤ l)) = true then nthT x l.toNat else none
  | .lst x => if (decide (l = h) && decide (0 ≤ l)) = true then nthT x l.toNat else none
  | _ => none
def aIdx (a b : T) : Option T := match b with
  | .int l h => (match aIdxX a l h with
    | some t => some t
    | none => aIdxQ a l h)
  | _ => none
theorem atIx_ok {n : Nat} {i : Int} (h : (0 ≤ i ∧ i < n) ∨ (i < 0 ∧ -(n : Int) ≤ i)) : ∃ k, atIx n i = some k ∧ k < n ∧ (0 ≤ i → k = i.toNat) := by
  unfold atIx
  rcases h with ⟨h1, h2⟩ | ⟨h1, h2⟩
  · rw [if_pos h1, if_pos h2]
    exact ⟨_, rfl, by omega, fun _ => rfl⟩
  · rw [if_neg (by omega), if_pos h2]
    exact ⟨_, rfl, by omega, fun z => by omega⟩
theorem idx_sq {l : Bool} {xs : List D} {i : Int} {k : Nat} {x : D} (h : atIx xs.length i = some k) (e : xs[k]? = some x) : opIdx (sq l xs) (.int i) = some x := by
  cases l
  · show (atIx xs.length i).bind _ = _
    rw [h]; exact e
  · show (atIx xs.length i).bind _ = _
    rw [h]; exact e
theorem rng_cases {l h i : Int} {lo n : Nat} (q : ((decide (0 ≤ l) && decide (h < lo)) || (decide (h < 0) && decide (-(lo : Int) ≤ l))) = true) (h1 : l ≤ i) (h2 : i ≤ h) (hn : lo ≤ n) : (0 ≤ i ∧ i < n) ∨ (i < 0 ∧ -(n : Int) ≤ i) := by
  rcases Bool.or_eq_true_iff.mp q with q | q <;> obtain ⟨q1, q2⟩ := a2 q <;> have q1 := of_decide_eq_true q1 <;> have q2 := of_decide_eq_true q2
  · exact .inl ⟨by omega, by omega⟩
  · exact .inr ⟨by omega, by omega⟩
theorem idx_str {s : Str} {i : Int} {k : Nat} (h : atIx s.length i = some k) (hk : k < s.length) : ∃ t : Str, opIdx (.str s) (.int i) = some (.str t) ∧ t.length = 1 := by
  have : s.cps[k]? = some (s.cps[k]'hk) := Array.getElem?_eq_getElem hk
  refine ⟨⟨#[s.cps[k]'hk]⟩, ?_, rfl⟩
  show (atIx s.length i).bind _ = _
  rw [h]
  show (s.cps[k]?).map _ = _
  rw [this]
  rfl
theorem aIdxQ_ok {a : T} {l h : Int} {r : T} (e : aIdxQ a l h = some r) {x : D} {i : Int} (ix : In N a x) (h1 : l ≤ i) (h2 : i ≤ h) : ∃ v, opIdx x (.int i) = some v ∧ In N r v := by
  unfold aIdxQ at e
  split at e
  · rename_i e1
    split at e
    · rename_i q
      cases e
      obtain ⟨xs, rfl, h3, h4, h5⟩ := vQ_ok e1 ix
      obtain ⟨k, h6, h7, _⟩ := atIx_ok (rng_cases q h1 h2 h3)
      exact ⟨xs[k], idx_sq h6 (List.getElem?_eq_getElem h7), h5 _ (List.getElem_mem h7)⟩
    · cases e
  · split at e
    · rename_i e1
      split at e
      · rename_i q
        cases e
        obtain ⟨s, rfl, h3, h4⟩ := vR_ok e1 ix
        obtain ⟨k, h6, h7, _⟩ := atIx_ok (rng_cases q h1 h2 h3)
        obtain ⟨t, h8, h9⟩ := idx_str h6 h7
        exact ⟨_, h8, t, rfl, by omega, by omega⟩
      · cases e
    · cases e
theorem aIdxX_ok {a : T} {l h : Int} {r : T} (e : aIdxX a l h = some r) {x : D} {i : Int} (ix : In N a x) (h1 : l ≤ i) (h2 : i ≤ h) : ∃ v, opIdx x (.int i) = some v ∧ In N r v := by
  have main : ∀ {p : Bool} {xs : List D} {t : T}, InL N t xs → (decide (l = h) && decide (0 ≤ l)) = true → nthT t l.toNat = some r → ∃ v, opIdx (sq p xs) (.int i) = some v ∧ In N r v := by
    intro p xs t it q e
    obtain ⟨q1, q2⟩ := a2 q
    have q1 := of_decide_eq_true q1
    have q2 := of_decide_eq_true q2
    have : i = l := by omega
    subst this
    obtain ⟨v, e1, e2⟩ := nthT_ok it e
    have hk := (List.getElem?_eq_some_iff.mp e1).1
    obtain ⟨k, h6, h7, h8⟩ := atIx_ok (n := xs.length) (i := i) (.inl ⟨q2, by omega⟩)
    rw [h8 q2] at h6
    exact ⟨v, idx_sq h6 e1, e2⟩
  unfold aIdxX at e
  split at e
  · split at e
    · rename_i q
      obtain ⟨xs, rfl, it⟩ := ix
      exact main (p := false) it q e
    · cases e
  · split at e
    · rename_i q
      obtain ⟨xs, rfl, it⟩ := ix
      exact main (p := true) it q e
    · cases e
  · cases e
theorem aIdx_ok : Op2 N aIdx opIdx := by
  intro a b r e x y ix iy
  unfold aIdx at e
  split at e
  · obtain ⟨i, rfl, h1, h2⟩ := iy
    split at e
    · rename_i q
      cases e
      exact aIdxX_ok q ix h1 h2
    · exact aIdxQ_ok e ix h1 h2
  · cases e
/-! slices -/
/-- the bounds of a slice: none, or ints -/
def bnd : Option T → Option (Option (Int × Int))
  | none => some none
  | some (.int l h) => some (some (l, h))
  | some _ => none
def clipLo (d : Nat) (n : Nat) : Option (Int × Int) → Nat
  | none => d
  | some (l, _) => if 0 ≤ l then min l.toNat n else 0
def clipHi (d : Nat) (n : Nat) : Option (Int × Int) → Nat
  | none => d
  | some (l, h) => if 0 ≤ l then min h.toNat n else n
def aSlc (a : T) (lo hi : Option T) : Option T := match bnd lo, bnd hi with
  | some bl, some bh => (match vQ a with
    | some (l, n, m, t) => some (.seq l (clipLo n n bh - clipHi 0 n bl) (clipHi m m bh - clipLo 0 m bl) t)
    | none => (match vR a with
      | some (_, m) => some (.str 0 m)
      | none => none))
  | _, _ => none
def InO (N : Nat) (t : Option T) (o : Option Int) : Prop := match t, o with
  | none, none => True
  | some t, some i => In N t (.int i)
  | _, _ => False
/-- a value between its bounds -/
def InB (b : Option (Int × Int)) (o : Option Int) : Prop := match b, o with
  | none, none => True
  | some (l, h), some i => l ≤ i ∧ i ≤ h
  | _, _ => False
theorem bnd_ok {t : Option T} {b : Option (Int × Int)} {o : Option Int} (e : bnd t = some b) (i : InO N t o) : InB b o := by
  unfold bnd at e
  split at e
  · cases e
    cases o with
    | none => trivial
    | some _ => exact i.elim
  · cases e
    cases o with
    | none => exact i.elim
    | some k =>
      obtain ⟨j, e, h1, h2⟩ := (show In N (.int _ _) (.int k) from i)
      cases e
      exact ⟨h1, h2⟩
  · cases e
/-- a slice's length lies between -/
theorem clip_le {b : Option (Int × Int)} {o : Option Int} {n d : Nat} (i : InB b o) (hd : d ≤ n) : clip n d o ≤ n := by
  cases o with
  | none => exact hd
  | some v =>
    show (if v < 0 then (v + (n : Int)).toNat else min v.toNat n) ≤ n
    split <;> omega
theorem cut_len (xs : List D) (lo hi : Option Int) : (cutL xs lo hi).length = clip xs.length xs.length hi - clip xs.length 0 lo := by
  unfold cutL
  rw [List.length_take, List.length_drop]
  have : clip xs.length xs.length hi ≤ xs.length := by
    cases hi with
    | none => exact Nat.le_refl _
    | some v =>
      show (if v < 0 then (v + (xs.length : Int)).toNat else min v.toNat xs.length) ≤ xs.length
      split <;> omega
  omega
theorem cut_mem {xs : List D} {lo hi : Option Int} {x : D} (h : x ∈ cutL xs lo hi) : x ∈ xs := List.mem_of_mem_drop (List.mem_of_mem_take h)
theorem slc_low {bl bh : Option (Int × Int)} {lo hi : Option Int} {n k : Nat} (il : InB bl lo) (ih : InB bh hi) (hn : n ≤ k) : clipLo n n bh - clipHi 0 n bl ≤ clip k k hi - clip k 0 lo := by
  have e1 : ∀ v : Int, clip k k (some v) = if v < 0 then (v + (k : Int)).toNat else min v.toNat k := fun _ => rfl
  have e2 : ∀ v : Int, clip k 0 (some v) = if v < 0 then (v + (k : Int)).toNat else min v.toNat k := fun _ => rfl
  cases bl with
  | none =>
    cases lo with
    | some _ => exact il.elim
    | none =>
      cases bh with
      | none =>
        cases hi with
        | some _ => exact ih.elim
        | none => show n - 0 ≤ k - 0; omega
      | some p =>
        obtain ⟨l, h⟩ := p
        cases hi with
        | none => exact ih.elim
        | some v =>
          obtain ⟨h1, h2⟩ := (show l ≤ v ∧ v ≤ h from ih)
          rw [e1]
          show (if 0 ≤ l then min l.toNat n else 0) - 0 ≤ _ - 0
          split <;> split <;> omega
  | some p =>
    obtain ⟨l', h'⟩ := p
    cases lo with
    | none => exact il.elim
    | some w =>
      obtain ⟨h3, h4⟩ := (show l' ≤ w ∧ w ≤ h' from il)
      rw [e2]
      cases bh with
      | none =>
        cases hi with
        | some _ => exact ih.elim
        | none =>
          show n - (if 0 ≤ l' then min h'.toNat n else n) ≤ k - _
          split <;> split <;> omega
      | some p =>
        obtain ⟨l, h⟩ := p
        cases hi with
        | none => exact ih.elim
        | some v =>
          obtain ⟨h1, h2⟩ := (show l ≤ v ∧ v ≤ h from ih)
          rw [e1]
          show (if 0 ≤ l then min l.toNat n else 0) - (if 0 ≤ l' then min h'.toNat n else n) ≤ _ - _
          split <;> split <;> split <;> split <;> omega
theorem slc_high {bl bh : Option (Int × Int)} {lo hi : Option Int} {m k : Nat} (il : InB bl lo) (ih : InB bh hi) (hn : k ≤ m) : clip k k hi - clip k 0 lo ≤ clipHi m m bh - clipLo 0 m bl := by
  have e1 : ∀ v : Int, clip k k (some v) = if v < 0 then (v + (k : Int)).toNat else min v.toNat k := fun _ => rfl
  have e2 : ∀ v : Int, clip k 0 (some v) = if v < 0 then (v + (k : Int)).toNat else min v.toNat k := fun _ => rfl
  cases bl with
  | none =>
    cases lo with
    | some _ => exact il.elim
    | none =>
      cases bh with
      | none =>
        cases hi with
        | some _ => exact ih.elim
        | none => show k - 0 ≤ m - 0; omega
      | some p =>
        obtain ⟨l, h⟩ := p
        cases hi with
        | none => exact ih.elim
        | some v =>
          obtain ⟨h1, h2⟩ := (show l ≤ v ∧ v ≤ h from ih)
          rw [e1]
          show _ - 0 ≤ (if 0 ≤ l then min h.toNat m else m) - 0
          split <;> split <;> omega
  | some p =>
    obtain ⟨l', h'⟩ := p
    cases lo with
    | none => exact il.elim
    | some w =>
      obtain ⟨h3, h4⟩ := (show l' ≤ w ∧ w ≤ h' from il)
      rw [e2]
      cases bh with
      | none =>
        cases hi with
        | some _ => exact ih.elim
        | none =>
          show k - _ ≤ m - (if 0 ≤ l' then min l'.toNat m else 0)
          split <;> split <;> omega
      | some p =>
        obtain ⟨l, h⟩ := p
        cases hi with
        | none => exact ih.elim
        | some v =>
          obtain ⟨h1, h2⟩ := (show l ≤ v ∧ v ≤ h from ih)
          rw [e1]
          show _ - _ ≤ (if 0 ≤ l then min h.toNat m else m) - (if 0 ≤ l' then min l'.toNat m else 0)
          split <;> split <;> split <;> split <;> omega
theorem slc_sq (l : Bool) (xs : List D) (lo hi : Option Int) : opSlc (sq l xs) lo hi = some (sq l (cutL xs lo hi)) := by cases l <;> rfl
theorem aSlc_ok {a : T} {tl th : Option T} {r : T} (e : aSlc a tl th = some r) {x : D} {lo hi : Option Int} (ix : In N a x) (il : InO N tl lo) (ih : InO N th hi) : ∃ v, opSlc x lo hi = some v ∧ In N r v := by
  unfold aSlc at e
  split at e
  · rename_i bl bh e1 e2
    have jl := bnd_ok e1 il
    have jh := bnd_ok e2 ih
    split at e
    · rename_i l n m t e3
      cases e
      obtain ⟨xs, rfl, h3, h4, h5⟩ := vQ_ok e3 ix
      refine ⟨_, slc_sq l xs lo hi, _, rfl, ?_, ?_, fun z hz => h5 z (cut_mem hz)⟩
      · rw [cut_len]; exact slc_low jl jh h3
      · rw [cut_len]; exact slc_high jl jh h4
    · split at e
      · rename_i e4
        cases e
        obtain ⟨s, rfl, h3, h4⟩ := vR_ok e4 ix
        refine ⟨_, rfl, _, rfl, Nat.zero_le _, ?_⟩
        show (cutL s.cps.toList lo hi).toArray.size ≤ _
        have : (cutL s.cps.toList lo hi).length ≤ s.cps.toList.length := by
          unfold cutL
          rw [List.length_take, List.length_drop]
          omega
        simp only [List.size_toArray]
        have e : s.cps.toList.length = s.length := by simp [Str.length]
        omega
      · cases e
  · cases e
def aRev (a : T) : Option T := match vQ a with
  | some (l, n, m, t) => some (.seq l n m t)
  | none => (match vR a with
    | some (n, m) => some (.str n m)
    | none => none)
theorem aRev_ok : Op1 N aRev opRev := by
  intro a r e x ix
  unfold aRev at e
  split at e
  · rename_i l n m t e3
    cases e
    obtain ⟨xs, rfl, h3, h4, h5⟩ := vQ_ok e3 ix
    refine ⟨sq l xs.reverse, by cases l <;> rfl, _, rfl, by rw [List.length_reverse]; exact h3, by rw [List.length_reverse]; exact h4, fun z hz => h5 z (List.mem_reverse.mp hz)⟩
  · split at e
    · rename_i e4
      cases e
      obtain ⟨s, rfl, h3, h4⟩ := vR_ok e4 ix
      refine ⟨_, rfl, _, rfl, ?_, ?_⟩
      · show _ ≤ (s.cps.toList.reverse.toArray).size
        simp only [List.size_toArray, List.length_reverse]
        have e : s.cps.toList.length = s.length := by simp [Str.length]
        omega
      · show (s.cps.toList.reverse.toArray).size ≤ _
        simp only [List.size_toArray, List.length_reverse]
        have e : s.cps.toList.length = s.length := by simp [Str.length]
        omega
    · cases e
end
end BV
set_option Elab.async false
set_option linter.all false
set_option maxRecDepth 100000
set_option maxHeartbeats 4000000
/-! BT4: built-in functions, tests on types. -/
namespace BV
open PySem
def isBlT : T → Bool
  | .bl => true
  | .cb _ => true
  | .bot => true
  | .or a b => isBlT a && isBlT b
  | _ => false
def aBlt1 (b : Blt) (t : T) : Option T := match b with
  | .len => (match vQ t with
    | some (_, lo, hi, _) => some (.int lo hi)
    | none => (match vR t with
      | some (lo, hi) => some (.int lo hi)
      | none => none))
  | .tuple => (match t with
    | .tup x => some (.tup x)
    | .lst x => some (.tup x)
    | .seq _ lo hi u => some (.seq false lo hi u)
    | _ => none)
  | .list => (match t with
    | .tup x => some (.lst x)
    | .lst x => some (.lst x)
    | .seq _ lo hi u => some (.seq true lo hi u)
    | _ => none)
  | .int => (match t with
    | .int l h => some (.int l h)
    | .bl => some (.int 0 1)
    | .cb b => some (if b = true then .int 1 1 else .int 0 0)
    | _ => none)
  | .abs => (match t with
    | .int l h => some (if 0 ≤ l then .int l h else .int 0 (max (-l) h))
    | _ => none)
  | .str => (match t with
    | .int l h => if (decide (-1000000000000 < l) && decide (h < 1000000000000)) = true then some .dg else none
    | .str l h => some (.str l h)
    | .cs s => some (.cs s)
    | _ => none)
  | .sum => (match vQ t with
    | some (true, _, m, u) => (match u with
      | .int l h => if (decide (0 ≤ l) && decide (0 ≤ h)) = true then some (.int 0 (m * h)) else none
      | .bot => some (.int 0 0)
      | _ => none)
    | _ => none)
  | .all => (match vQ t with
    | some (true, _, _, u) => if isBlT u = true then some .bl else none
    | _ => none)
  | .any => (match vQ t with
    | some (true, _, _, u) => if isBlT u = true then some .bl else none
    | _ => none)
  | _ => none
def aBlt2 (b : Blt) (t u : T) : Option T := match b, t, u with
  | .max2, .int l h, .int l' h' => some (.int (max l l') (max h h'))
  | .min2, .int l h, .int l' h' => some (.int (min l l') (min h h'))
  | _, _, _ => none
def aBlt (b : Blt) (ts : T) : Option T := match ts with
  | .cons t .nil => map1 (aBlt1 b) t
  | .cons t (.cons u .nil) => map2 (aBlt2 b) t u
  | _ => none
section
variable {N : Nat}
theorem isBlT_ok : ∀ {t : T} {d : D}, isBlT t = true → In N t d → ∃ b, d = .bool b := by
  intro t
  induction t with
  | bl => intro d _ i; exact i
  | cb b => intro d _ i; exact ⟨b, i⟩
  | bot => intro d _ i; exact i.elim
  | or a b iha ihb =>
    intro d h i
    obtain ⟨h1, h2⟩ := a2 (show (isBlT a && isBlT b) = true from h)
    exact i.elim (iha h1) (ihb h2)
  | _ => intro d h; cases h
theorem all_bl {xs : List D} {u : T} (h : isBlT u = true) (i : ∀ x ∈ xs, In N u x) : xs.all isBool = true := List.all_eq_true.mpr fun x hx => by
  obtain ⟨b, rfl⟩ := isBlT_ok h (i x hx)
  rfl
theorem sum_le {h : Int} (h0 : 0 ≤ h) : ∀ xs : List D, (∀ x ∈ xs, ∃ i, x = .int i ∧ 0 ≤ i ∧ i ≤ h) → xs.all isInt = true ∧ 0 ≤ (xs.map intOf).sum ∧ (xs.map intOf).sum ≤ xs.length * h
  | [], _ => ⟨rfl, Int.le_refl _, by simp⟩
  | x :: xs, i => by
    obtain ⟨k, rfl, h1, h2⟩ := i x (List.mem_cons_self)
    obtain ⟨g1, g2, g3⟩ := sum_le h0 xs fun y hy => i y (List.mem_cons_of_mem _ hy)
    refine ⟨by simp only [List.all_cons, g1]; rfl, ?_, ?_⟩
    · simp only [List.map_cons, List.sum_cons, intOf]; omega
    · simp only [List.map_cons, List.sum_cons, intOf, List.length_cons]
      have : ((xs.length + 1 : Nat) : Int) * h = xs.length * h + h := by rw [Int.natCast_add, Int.add_mul]; simp
      omega
theorem str_int {i : Int} (h1 : -1000000000000 < i) (h2 : i < 1000000000000) : opBlt .str [.int i] = some (.str (toString i)) ∧ i.natAbs < 10 ^ 12 ∧ Str.length (toString i) ≤ 13 := by
  have hn : i.natAbs < 10 ^ 12 := by omega
  have e := PyData.shown_int_le hn
  simp only [PyData.shown] at e
  refine ⟨if_pos ⟨?_, by unfold LIM; omega⟩, hn, e⟩
  by_cases h0 : i.natAbs = 0
  · rw [h0]; decide
  · exact (Nat.log2_lt h0).mpr (Nat.lt_of_lt_of_le hn (by decide +kernel))
theorem aBlt1_ok (b : Blt) : Op1 N (aBlt1 b) (fun x => opBlt b [x]) := by
  intro a r e x ix
  show ∃ e, opBlt b [x] = some e ∧ In N r e
  cases b <;> unfold aBlt1 at e <;> dsimp only at e <;> first | (cases e; done) | skip
  · split at e
    · rename_i l lo hi u e1
      cases e
      obtain ⟨xs, rfl, h3, h4, h5⟩ := vQ_ok e1 ix
      refine ⟨.int xs.length, by cases l <;> rfl, _, rfl, by omega, by omega⟩
    · split at e
      · rename_i e1
        cases e
        obtain ⟨s, rfl, h3, h4⟩ := vR_ok e1 ix
        exact ⟨_, rfl, _, rfl, by omega, by omega⟩
      · cases e
  · split at e
    · cases e; obtain ⟨xs, rfl, h⟩ := ix; exact ⟨_, rfl, xs, rfl, h⟩
    · cases e; obtain ⟨xs, rfl, h⟩ := ix; exact ⟨_, rfl, xs, rfl, h⟩
    · cases e
      rename_i l _ _ _
      obtain ⟨xs, rfl, h⟩ := ix
      exact ⟨.tuple xs, by cases l <;> rfl, xs, rfl, h⟩
    · cases e
  · split at e
    · cases e; obtain ⟨xs, rfl, h⟩ := ix; exact ⟨_, rfl, xs, rfl, h⟩
    · cases e; obtain ⟨xs, rfl, h⟩ := ix; exact ⟨_, rfl, xs, rfl, h⟩
    · cases e
      rename_i l _ _ _
      obtain ⟨xs, rfl, h⟩ := ix
      exact ⟨.list xs, by cases l <;> rfl, xs, rfl, h⟩
    · cases e
  · split at e
    · split at e
      · rename_i q
        cases e
        obtain ⟨q1, q2⟩ := a2 q
        have q1 := of_decide_eq_true q1
        have q2 := of_decide_eq_true q2
        obtain ⟨i, rfl, h1, h2⟩ := ix
        obtain ⟨h3, h4, h5⟩ := str_int (i := i) (by omega) (by omega)
        exact ⟨_, h3, i, rfl, h4, h5⟩
      · cases e
    · cases e
      obtain ⟨s, rfl, h⟩ := ix
      exact ⟨_, rfl, s, rfl, h⟩
    · cases e
      cases (show x = _ from ix)
      exact ⟨_, rfl, rfl⟩
    · cases e
  · split at e
    · cases e; obtain ⟨i, rfl, h⟩ := ix; exact ⟨_, rfl, i, rfl, h⟩
    · cases e; obtain ⟨b, rfl⟩ := ix; refine ⟨_, rfl, _, rfl, ?_, ?_⟩ <;> cases b <;> decide
    · cases e
      rename_i b
      cases (show x = _ from ix)
      cases b
      · exact ⟨_, rfl, _, rfl, Int.le_refl _, Int.le_refl _⟩
      · exact ⟨_, rfl, _, rfl, Int.le_refl _, Int.le_refl _⟩
    · cases e
  · split at e
    · cases e
      obtain ⟨i, rfl, h1, h2⟩ := ix
      refine ⟨_, rfl, ?_⟩
      split
      · exact ⟨_, rfl, by split <;> omega, by split <;> omega⟩
      · exact ⟨_, rfl, by split <;> omega, by split <;> omega⟩
    · cases e
  · split at e
    · rename_i e1
      split at e
      · split at e
        · rename_i q
          cases e
          obtain ⟨q1, q2⟩ := a2 q
          have q1 := of_decide_eq_true q1
          have q2 := of_decide_eq_true q2
          obtain ⟨xs, rfl, h3, h4, h5⟩ := vQ_ok e1 ix
          obtain ⟨g1, g2, g3⟩ := sum_le q2 xs fun x hx => by
            obtain ⟨i, e, h6, h7⟩ := h5 x hx
            exact ⟨i, e, by omega, h7⟩
          refine ⟨_, if_pos g1, _, rfl, g2, Int.le_trans g3 ?_⟩
          exact Int.mul_le_mul_of_nonneg_right (by omega) q2
        · cases e
      · cases e
        obtain ⟨xs, rfl, h3, h4, h5⟩ := vQ_ok e1 ix
        cases xs with
        | nil => exact ⟨_, rfl, _, rfl, Int.le_refl _, Int.le_refl _⟩
        | cons x _ => exact (h5 x (List.mem_cons_self)).elim
      · cases e
    · cases e
  · split at e
    · rename_i e1
      split at e
      · rename_i q
        cases e
        obtain ⟨xs, rfl, h3, h4, h5⟩ := vQ_ok e1 ix
        exact ⟨_, if_pos (all_bl q h5), _, rfl⟩
      · cases e
    · cases e
  · split at e
    · rename_i e1
      split at e
      · rename_i q
        cases e
        obtain ⟨xs, rfl, h3, h4, h5⟩ := vQ_ok e1 ix
        exact ⟨_, if_pos (all_bl q h5), _, rfl⟩
      · cases e
    · cases e
theorem aBlt2_ok (b : Blt) : Op2 N (aBlt2 b) (fun x y => opBlt b [x, y]) := by
  intro t u r e x y ix iy
  show ∃ e, opBlt b [x, y] = some e ∧ In N r e
  unfold aBlt2 at e
  split at e
  · cases e
    obtain ⟨i, rfl, h1, h2⟩ := ix
    obtain ⟨j, rfl, h3, h4⟩ := iy
    exact ⟨_, rfl, _, rfl, by split <;> omega, by split <;> omega⟩
  · cases e
    obtain ⟨i, rfl, h1, h2⟩ := ix
    obtain ⟨j, rfl, h3, h4⟩ := iy
    exact ⟨_, rfl, _, rfl, by split <;> omega, by split <;> omega⟩
  · cases e
theorem aBlt_ok {b : Blt} {ts r : T} (e : aBlt b ts = some r) {ds : List D} (i : InL N ts ds) : ∃ v, opBlt b ds = some v ∧ In N r v := by
  unfold aBlt at e
  split at e
  · obtain ⟨x, ys, rfl, h1, h2⟩ := i
    rw [show ys = [] from h2]
    exact map1_ok (aBlt1_ok b) _ _ e x h1
  · obtain ⟨x, ys, rfl, h1, y, zs, rfl, h2, h3⟩ := i
    rw [show zs = [] from h3]
    exact map2_ok (aBlt2_ok b) _ _ _ e x y h1 h2
  · cases e
/-! methods -/
def aMth (m : Mth) (o ts : T) : Option T := match m, ts with
  | .join, .cons l .nil => (match vR o, vA l with
    | some (_, d), some (_, _, m, t) => (match (if isBot t = true then some (0, 0) else vR t) with
      | some (_, b) => if Nat.ble (m * (b + d)) LIM = true then some (.str 0 (m * (b + d))) else none
      | none => none)
    | _, _ => none)
  | .count, .cons x .nil => (match vQ o with
    | some (true, _, m, _) => if flatB o x = true then some (.int 0 m) else none
    | _ => none)
  | _, _ => none
theorem join_bound (s : Str) {b d : Nat} (hs : s.length ≤ d) : ∀ xs : List D, (∀ x ∈ xs, ∃ t : Str, x = .str t ∧ t.length ≤ b) → xs.all isStr = true ∧ joinLen s xs ≤ xs.length * (b + d)
  | [], _ => ⟨rfl, by simp [joinLen]⟩
  | x :: xs, h => by
    obtain ⟨t, rfl, ht⟩ := h x (List.mem_cons_self)
    obtain ⟨h1, h2⟩ := join_bound s hs xs fun y hy => h y (List.mem_cons_of_mem _ hy)
    refine ⟨by simp only [List.all_cons, h1]; rfl, ?_⟩
    have e : joinLen s (.str t :: xs) = t.length + s.length + joinLen s xs := by simp [joinLen]
    rw [e, List.length_cons, Nat.add_mul]
    omega
theorem joinD_le (s : Str) {xs : List D} (h : xs.all isStr = true) : (joinD s xs).length ≤ joinLen s xs := by
  rw [sum_join s xs h, join_eq]
  exact StrLaws.join_length_le s _
theorem mem_mul {n m c : Nat} (h : n ≤ m) : n * c ≤ m * c := Nat.mul_le_mul_right c h
theorem aMth_ok {m : Mth} {o ts r : T} (e : aMth m o ts = some r) {x : D} {ds : List D} (ix : In N o x) (i : InL N ts ds) : isT m.ty x = true ∧ ∃ v, opMth m x ds = some v ∧ In N r v := by
  unfold aMth at e
  split at e
  · obtain ⟨y, ys, rfl, h1, h2⟩ := i
    rw [show ys = [] from h2]
    split at e
    · rename_i q1 q2
      obtain ⟨s, rfl, g1, g2⟩ := vR_ok q1 ix
      obtain ⟨xs, rfl, g3, g4, g5⟩ := vA_ok q2 h1
      split at e
      · rename_i c b q3
        split at e
        · rename_i q4
          cases e
          have q4 := bleI q4
          obtain ⟨j1, j2⟩ := join_bound s (b := b) g2 xs fun z hz => by
            split at q3
            · rename_i q5; exact absurd (g5 z hz) (isBot_ok q5)
            · obtain ⟨t, e, _, h⟩ := vR_ok q3 (g5 z hz)
              exact ⟨t, e, h⟩
          have j3 := joinD_le s j1
          have j4 := Nat.le_trans j2 (Nat.mul_le_mul_right _ g4)
          refine ⟨rfl, .str (joinD s xs), ?_, _, rfl, Nat.zero_le _, Nat.le_trans j3 j4⟩
          have this : xs.all isStr = true ∧ joinLen s xs ≤ LIM := ⟨j1, Nat.le_trans j4 q4⟩
          unfold sq
          split
          · exact if_pos this
          · exact if_pos this
        · cases e
      · cases e
    · cases e
  · obtain ⟨y, ys, rfl, h1, h2⟩ := i
    rw [show ys = [] from h2]
    split at e
    · rename_i q1
      split at e
      · rename_i q2
        cases e
        obtain ⟨f1, f2, f3, f4⟩ := flat_ok q2 ix h1
        obtain ⟨xs, rfl, g3, g4, g5⟩ := vQ_ok q1 ix
        have f1 : noDicts xs = true := by simpa [sq, noDict] using f1
        refine ⟨rfl, .int (xs.countP fun z => PyData.eqv z y), if_pos ?_, _, rfl, by omega, ?_⟩
        · rw [f1, f2, decide_eq_true f4]; rfl
        · have := List.countP_le_length (p := fun z => PyData.eqv z y) (l := xs)
          omega
      · cases e
    · cases e
  · cases e
/-! types that are asked for -/
def kd : T → Option Nat
  | .non => some 0
  | .int _ _ => some 1
  | .bl => some 2
  | .cb _ => some 2
  | .str _ _ => some 3
  | .cs _ => some 3
  | .tup _ => some 4
  | .lst _ => some 5
  | .seq l _ _ _ => some (if l = true then 5 else 4)
  | .dc => some 6
  | .dg => some 3
  | _ => none
def kT : Ty → Nat → Bool
  | .int, 1 => true
  | .int, 2 => true
  | .bool, 2 => true
  | .str, 3 => true
  | .tuple, 4 => true
  | .list, 5 => true
  | .dict, 6 => true
  | _, _ => false
theorem kd_ok {t : T} {n : Nat} (e : kd t = some n) {d : D} (i : In N t d) (y : Ty) : isTy y d = kT y n := by
  cases t <;> first | (cases e; done) | skip
  · cases e; cases (show d = _ from i); cases y <;> rfl
  · cases e; obtain ⟨_, rfl, _⟩ := i; cases y <;> rfl
  · cases e; obtain ⟨_, rfl⟩ := i; cases y <;> rfl
  · cases e; cases (show d = _ from i); cases y <;> rfl
  · cases e; obtain ⟨_, rfl, _⟩ := i; cases y <;> rfl
  · cases e; cases (show d = _ from i); cases y <;> rfl
  · cases e; obtain ⟨_, rfl, _⟩ := i; cases y <;> rfl
  · cases e; obtain ⟨_, rfl, _⟩ := i; cases y <;> rfl
  · rename_i l _ _ _; cases e; obtain ⟨_, rfl, _⟩ := i; cases l <;> cases y <;> rfl
  · cases e; cases (show d = _ from i); cases y <;> rfl
  · cases e; obtain ⟨_, rfl, _⟩ := i; cases y <;> rfl
def aIsi (ts : List Ty) (t : T) : Option T := some (match kd t with
  | some n => .cb (ts.any fun y => kT y n)
  | none => .bl)
theorem aIsi_ok (ts : List Ty) : OpC N (fun t _ => aIsi ts t) (fun d _ => some (ts.any fun y => isTy y d)) := by
  intro a _ r e x _ ix _
  cases e
  refine ⟨_, rfl, ?_⟩
  split
  · rename_i n h
    have : (fun y => isTy y x) = fun y => kT y n := funext fun y => kd_ok h ix y
    rw [this]
    rfl
  · exact tb_bl
/-! truth -/
def aTru (t : T) : Option Bool := match t with
  | .non => some false
  | .cb b => some b
  | .int l h => if (decide (0 < l) || decide (h < 0)) = true then some true else if (decide (l = 0) && decide (h = 0)) = true then some false else none
  | .tup x => some (!Nat.ble (tlen x) 0)
  | .lst x => some (!Nat.ble (tlen x) 0)
  | .dc => some false
  | _ => none
theorem aTru_ok {t : T} {b : Bool} (e : aTru t = some b) {d : D} (i : In N t d) : tru d = b := by
  have key : ∀ {x : T} {xs : List D}, InL N x xs → (!xs.isEmpty) = !Nat.ble (tlen x) 0 := by
    intro x xs i
    have := InL.len i
    cases xs with
    | nil => rw [← this]; rfl
    | cons y ys => rw [← this]; rfl
  unfold aTru at e
  split at e
  · cases e; cases (show d = _ from i); rfl
  · cases e; cases (show d = _ from i); rfl
  · obtain ⟨k, rfl, h1, h2⟩ := i
    split at e
    · rename_i q
      cases e
      rcases Bool.or_eq_true_iff.mp q with q | q <;> have q := of_decide_eq_true q <;> exact bne_iff_ne.mpr (by omega)
    · split at e
      · rename_i q
        cases e
        obtain ⟨q1, q2⟩ := a2 q
        have q1 := of_decide_eq_true q1
        have q2 := of_decide_eq_true q2
        have : k = 0 := by omega
        subst this; rfl
      · cases e
  · cases e; obtain ⟨xs, rfl, i⟩ := i; exact key i
  · cases e; obtain ⟨xs, rfl, i⟩ := i; exact key i
  · cases e; cases (show d = _ from i); rfl
  · cases e
end
end BV
set_option Elab.async false
set_option linter.all false
set_option maxRecDepth 100000
set_option maxHeartbeats 4000000
/-! BT5: states of types, tests that narrow them. -/
namespace BV
open PySem
abbrev TS := List (Option T)
def gT (Γ : TS) (i : Nat) : Option T := (Γ[i]?).bind id
structure InG (N : Nat) (Γ : TS) (ρ : Ev) : Prop where
  len : ρ.length = Γ.length
  at_ : ∀ i t, gT Γ i = some t → ∃ d, getV ρ i = some d ∧ In N t d
theorem gT_set {Γ : TS} {i j : Nat} {o : Option T} : gT (Γ.set i o) j = if i = j ∧ i < Γ.length then o else gT Γ j := by
  unfold gT
  rw [List.getElem?_set]
  by_cases h : i = j
  · subst h
    by_cases hl : i < Γ.length
    · simp [hl]
    · simp [hl]
  · simp [h]
theorem gV_set {ρ : Ev} {i j : Nat} {o : Option D} : getV (ρ.set i o) j = if i = j ∧ i < ρ.length then o else getV ρ j := by
  unfold getV
  rw [List.getElem?_set]
  by_cases h : i = j
  · subst h
    by_cases hl : i < ρ.length
    · simp [hl]
    · simp [hl]
  · simp [h]
section
variable {N : Nat}
theorem InG.mono {M : Nat} {Γ : TS} {ρ : Ev} (h : InG N Γ ρ) (m : N ≤ M) : InG M Γ ρ := ⟨h.len, fun i t e => by
  obtain ⟨d, e1, e2⟩ := h.at_ i t e
  exact ⟨d, e1, e2.mono m⟩⟩
theorem InG.set {Γ : TS} {ρ : Ev} (h : InG N Γ ρ) (i : Nat) {t : T} {d : D} (x : In N t d) : InG N (Γ.set i (some t)) (ρ.set i (some d)) := ⟨by rw [List.length_set, List.length_set]; exact h.len, fun j u e => by
  rw [gT_set] at e
  rw [gV_set, h.len]
  split at e
  · rename_i q
    cases e
    rw [if_pos q]
    exact ⟨d, rfl, x⟩
  · rename_i q
    rw [if_neg q]
    exact h.at_ j u e⟩
theorem InG.drop {Γ : TS} {ρ : Ev} (h : InG N Γ ρ) (i : Nat) (o : Option D) : InG N (Γ.set i none) (ρ.set i o) := ⟨by rw [List.length_set, List.length_set]; exact h.len, fun j u e => by
  rw [gT_set] at e
  rw [gV_set, h.len]
  split at e
  · cases e
  · rename_i q
    rw [if_neg q]
    exact h.at_ j u e⟩
/-- the value stays, its type narrows -/
theorem InG.nar {Γ : TS} {ρ : Ev} (h : InG N Γ ρ) {i : Nat} {t : T} {d : D} (e : getV ρ i = some d) (x : In N t d) : InG N (Γ.set i (some t)) ρ := ⟨by rw [List.length_set]; exact h.len, fun j u q => by
  rw [gT_set] at q
  split at q
  · rename_i g
    cases q
    exact ⟨d, g.1 ▸ e, x⟩
  · exact h.at_ j u q⟩
/-! targets -/
/-- a tuple's parts -/
def zipJ : T → T → Option T
  | .nil, b => (match b with
    | .nil => some .nil
    | _ => none)
  | .cons x r, b => (match b with
    | .cons y s => (zipJ r s).map fun q => .cons (jn x y) q
    | _ => none)
  | _, _ => none
def repT (t : T) : Nat → T
  | 0 => .nil
  | n + 1 => .cons t (repT t n)
def asTup : T → Option T
  | .tup x => some x
  | .or a b => (asTup a).bind fun x => (asTup b).bind fun y => zipJ x y
  | .seq false lo hi t => if (decide (lo = hi) && Nat.ble hi 16) = true then some (repT t hi) else none
  | _ => none
mutual
def aBind : Tg → T → TS → Option TS
  | .s i, t, Γ => some (Γ.set i (some t))
  | .t ts, t, Γ => (asTup t).bind fun us => aBinds ts us Γ
  | .nil, _, _ => none
  | .cons _ _, _, _ => none
def aBinds : Tg → T → TS → Option TS
  | .nil, us, Γ => (match us with
    | .nil => some Γ
    | _ => none)
  | .cons a r, us, Γ => (match us with
    | .cons u s => (aBind a u Γ).bind fun Γ' => aBinds r s Γ'
    | _ => none)
  | .s _, _, _ => none
  | .t _, _, _ => none
end
theorem zipJ_ok : ∀ {a b r : T}, zipJ a b = some r → ∀ xs, InL N a xs ∨ InL N b xs → InL N r xs := by
  intro a
  induction a with
  | nil =>
    intro b r e xs i
    cases b <;> first | (cases e; done) | skip
    cases e
    exact i.elim id id
  | cons x s _ ih =>
    intro b r e xs i
    cases b <;> first | (cases e; done) | skip
    rename_i y u
    obtain ⟨q, e1, rfl⟩ := Option.map_eq_some_iff.mp (show (zipJ s u).map (fun q => T.cons (jn x y) q) = some r from e)
    rcases i with ⟨z, zs, rfl, i1, i2⟩ | ⟨z, zs, rfl, i1, i2⟩
    · exact ⟨z, zs, rfl, jn_ok _ _ _ (.inl i1), ih e1 _ (.inl i2)⟩
    · exact ⟨z, zs, rfl, jn_ok _ _ _ (.inr i1), ih e1 _ (.inr i2)⟩
  | _ => intro b r e; cases e
theorem repT_ok {t : T} : ∀ {n : Nat} {xs : List D}, xs.length = n → (∀ x ∈ xs, In N t x) → InL N (repT t n) xs
  | 0, xs, h, _ => List.length_eq_zero_iff.mp h
  | n + 1, [], h, _ => by cases h
  | n + 1, x :: xs, h, i => ⟨x, xs, rfl, i x (List.mem_cons_self), repT_ok (Nat.succ.inj h) fun y hy => i y (List.mem_cons_of_mem _ hy)⟩
theorem asTup_ok : ∀ {t us : T}, asTup t = some us → ∀ {d : D}, In N t d → ∃ xs, d = .tuple xs ∧ InL N us xs := by
  intro t
  induction t with
  | tup x => intro us e d i; cases e; exact i
  | or a b iha ihb =>
    intro us e d i
    obtain ⟨x, e1, e2⟩ := Option.bind_eq_some_iff.mp (show ((asTup a).bind fun x => (asTup b).bind fun y => zipJ x y) = some us from e)
    obtain ⟨y, e3, e4⟩ := Option.bind_eq_some_iff.mp e2
    rcases i with i | i
    · obtain ⟨xs, rfl, h⟩ := iha e1 i
      exact ⟨xs, rfl, zipJ_ok e4 _ (.inl h)⟩
    · obtain ⟨xs, rfl, h⟩ := ihb e3 i
      exact ⟨xs, rfl, zipJ_ok e4 _ (.inr h)⟩
  | seq l lo hi t _ =>
    intro us e d i
    cases l <;> first | (cases e; done) | skip
    obtain ⟨xs, rfl, h1, h2, h3⟩ := i
    have e : (if (decide (lo = hi) && Nat.ble hi 16) = true then some (repT t hi) else none) = some us := e
    split at e
    · rename_i q
      cases e
      have := of_decide_eq_true (a2 q).1
      exact ⟨xs, rfl, repT_ok (by omega) h3⟩
    · cases e
  | _ => intro us e; cases e
abbrev BindOk (N : Nat) (t : Tg) : Prop := (∀ u Γ Γ' d ρ, aBind t u Γ = some Γ' → In N u d → InG N Γ ρ → ∃ ρ', bindT t d ρ = some ρ' ∧ InG N Γ' ρ') ∧ (∀ us Γ Γ' ds ρ, aBinds t us Γ = some Γ' → InL N us ds → InG N Γ ρ → ∃ ρ', bindT.bindTs t ds ρ = some ρ' ∧ InG N Γ' ρ')
theorem bind_ok_ : ∀ t : Tg, BindOk N t := by
  intro t
  induction t with
  | s i => exact ⟨fun u Γ Γ' d ρ e x g => by cases e; exact ⟨_, rfl, g.set i x⟩, fun us Γ Γ' ds ρ e => by cases e⟩
  | t ts ih =>
    refine ⟨fun u Γ Γ' d ρ e x g => ?_, fun us Γ Γ' ds ρ e => by cases e⟩
    obtain ⟨us, e1, e2⟩ := Option.bind_eq_some_iff.mp (show ((asTup u).bind fun us => aBinds ts us Γ) = some Γ' from e)
    obtain ⟨xs, rfl, h⟩ := asTup_ok e1 x
    exact ih.2 us Γ Γ' xs ρ e2 h g
  | nil =>
    refine ⟨(fun u Γ Γ' d ρ e => by cases e), fun us Γ Γ' ds ρ e i g => ?_⟩
    cases us <;> first | (cases e; done) | skip
    cases e
    rw [show ds = [] from i]
    exact ⟨ρ, rfl, g⟩
  | cons a r iha ihr =>
    refine ⟨(fun u Γ Γ' d ρ e => by cases e), fun us Γ Γ' ds ρ e i g => ?_⟩
    cases us <;> first | (cases e; done) | skip
    rename_i u s
    obtain ⟨Γ1, e1, e2⟩ := Option.bind_eq_some_iff.mp (show ((aBind a u Γ).bind fun Γ' => aBinds r s Γ') = some Γ' from e)
    obtain ⟨x, ys, rfl, i1, i2⟩ := i
    obtain ⟨ρ1, h1, g1⟩ := iha.1 u Γ Γ1 x ρ e1 i1 g
    obtain ⟨ρ2, h2, g2⟩ := ihr.2 s Γ1 Γ' ys ρ1 e2 i2 g1
    refine ⟨ρ2, ?_, g2⟩
    show (bindT a x ρ).bind (fun ρ' => bindT.bindTs r ys ρ') = _
    rw [h1]
    exact h2
theorem aBind_ok {t : Tg} {u : T} {Γ Γ' : TS} {d : D} {ρ : Ev} (e : aBind t u Γ = some Γ') (x : In N u d) (g : InG N Γ ρ) : ∃ ρ', bindT t d ρ = some ρ' ∧ InG N Γ' ρ' := (bind_ok_ t).1 u Γ Γ' d ρ e x g
theorem bind_fr_ : ∀ t : Tg, (∀ u Γ Γ', aBind t u Γ = some Γ' → ∀ j, j ∉ t.slots → gT Γ' j = gT Γ j) ∧ (∀ us Γ Γ', aBinds t us Γ = some Γ' → ∀ j, j ∉ t.slots → gT Γ' j = gT Γ j) := by
  intro t
  induction t with
  | s i =>
    refine ⟨fun u Γ Γ' e j hj => ?_, fun us Γ Γ' e => by cases e⟩
    cases e
    rw [gT_set, if_neg]
    intro q
    exact hj (by rw [← q.1]; simp [Tg.slots])
  | t ts ih =>
    refine ⟨fun u Γ Γ' e j hj => ?_, fun us Γ Γ' e => by cases e⟩
    obtain ⟨us, e1, e2⟩ := Option.bind_eq_some_iff.mp (show ((asTup u).bind fun us => aBinds ts us Γ) = some Γ' from e)
    exact ih.2 us Γ Γ' e2 j (by simpa [Tg.slots] using hj)
  | nil =>
    refine ⟨(fun u Γ Γ' e => by cases e), fun us Γ Γ' e j hj => ?_⟩
    cases us <;> first | (cases e; done) | skip
    cases e; rfl
  | cons a r iha ihr =>
    refine ⟨(fun u Γ Γ' e => by cases e), fun us Γ Γ' e j hj => ?_⟩
    cases us <;> first | (cases e; done) | skip
    rename_i u s
    obtain ⟨Γ1, e1, e2⟩ := Option.bind_eq_some_iff.mp (show ((aBind a u Γ).bind fun Γ' => aBinds r s Γ') = some Γ' from e)
    have hj' : j ∉ a.slots ∧ j ∉ r.slots := by simpa [Tg.slots] using hj
    rw [ihr.2 s Γ1 Γ' e2 j hj'.2, iha.1 u Γ Γ1 e1 j hj'.1]
/-! wiped slots -/
def wipeT (Γ : TS) : List Nat → TS
  | [] => Γ
  | i :: is => (wipeT Γ is).set i none
theorem InG.wipe {Γ : TS} {ρ : Ev} (h : InG N Γ ρ) : ∀ own : List Nat, InG N (wipeT Γ own) (wipeE ρ own)
  | [] => h
  | i :: is => (InG.wipe h is).drop i none
theorem wipeT_len {Γ : TS} : ∀ own : List Nat, (wipeT Γ own).length = Γ.length
  | [] => rfl
  | i :: is => by show ((wipeT Γ is).set i none).length = _; rw [List.length_set, wipeT_len is]
theorem gT_wipe {Γ : TS} : ∀ (own : List Nat) (j : Nat), gT (wipeT Γ own) j = if j ∈ own then none else gT Γ j
  | [], j => by simp [wipeT]
  | i :: is, j => by
    show gT ((wipeT Γ is).set i none) j = _
    rw [gT_set, gT_wipe is j, wipeT_len]
    by_cases h : i = j
    · subst h
      by_cases hl : i < Γ.length
      · simp [hl]
      · have : gT Γ i = none := by unfold gT; rw [List.getElem?_eq_none (by omega)]; rfl
        simp [hl, this]
    · simp [h, Ne.symm h]
theorem backE_ln {ρ ρ' : Ev} : ∀ own : List Nat, (backE ρ ρ' own).length = ρ'.length
  | [] => rfl
  | i :: is => by show ((backE ρ ρ' is).set i _).length = _; rw [List.length_set, backE_ln is]
theorem getV_back {ρ ρ' : Ev} (hl : ρ.length = ρ'.length) : ∀ (own : List Nat) (j : Nat), getV (backE ρ ρ' own) j = if j ∈ own then getV ρ j else getV ρ' j
  | [], j => by simp [backE]
  | i :: is, j => by
    show getV ((backE ρ ρ' is).set i ((ρ[i]?).bind id)) j = _
    rw [gV_set, getV_back hl is j, backE_ln]
    by_cases h : i = j
    · subst h
      by_cases hl' : i < ρ'.length
      · simp [hl']; rfl
      · have e1 : getV ρ i = none := by unfold getV; rw [List.getElem?_eq_none (by omega)]; rfl
        have e2 : getV ρ' i = none := by unfold getV; rw [List.getElem?_eq_none (by omega)]; rfl
        simp [hl', e1, e2]
    · simp [h, Ne.symm h]
theorem InG.back {Γ : TS} {ρ ρ' : Ev} {own : List Nat} (h : InG N Γ ρ) (h' : InG N (wipeT Γ own) ρ') : InG N Γ (backE ρ ρ' own) := by
  have hl : ρ.length = ρ'.length := by rw [h.len, h'.len, wipeT_len]
  refine ⟨by rw [backE_ln, h'.len, wipeT_len], fun j t e => ?_⟩
  rw [getV_back hl]
  by_cases hj : j ∈ own
  · rw [if_pos hj]; exact h.at_ j t e
  · rw [if_neg hj]
    refine h'.at_ j t ?_
    rw [gT_wipe, if_neg hj]; exact e
/-- behind a turn of a comprehension -/
theorem wipe_bind {Γ Γ1 : TS} {t : Tg} {u : T} {own : List Nat} {ρ : Ev} (e : aBind t u (wipeT Γ own) = some Γ1) (hs : t.slots.all (fun i => own.contains i) = true) (h : InG N Γ1 ρ) : InG N (wipeT Γ own) (wipeE ρ own) := by
  have g := h.wipe own
  have hl : (wipeT Γ1 own).length = (wipeT Γ own).length := by
    have h1 := g.len
    have : ∀ (t : Tg), (∀ u Γ Γ', aBind t u Γ = some Γ' → Γ'.length = Γ.length) ∧ (∀ u Γ Γ', aBinds t u Γ = some Γ' → Γ'.length = Γ.length) := by
      intro t
      induction t with
      | s i => exact ⟨fun u Γ Γ' e => by cases e; rw [List.length_set], fun u Γ Γ' e => by cases e⟩
      | t ts ih =>
        refine ⟨fun u Γ Γ' e => ?_, fun u Γ Γ' e => by cases e⟩
        obtain ⟨us, e1, e2⟩ := Option.bind_eq_some_iff.mp (show ((asTup u).bind fun us => aBinds ts us Γ) = some Γ' from e)
        exact ih.2 _ _ _ e2
      | nil =>
        refine ⟨(fun u Γ Γ' e => by cases e), fun us Γ Γ' e => ?_⟩
        cases us <;> first | (cases e; done) | skip
        cases e; rfl
      | cons a r iha ihr =>
        refine ⟨(fun u Γ Γ' e => by cases e), fun us Γ Γ' e => ?_⟩
        cases us <;> first | (cases e; done) | skip
        rename_i u s
        obtain ⟨Γ1, e1, e2⟩ := Option.bind_eq_some_iff.mp (show ((aBind a u Γ).bind fun Γ' => aBinds r s Γ') = some Γ' from e)
        rw [ihr.2 _ _ _ e2, iha.1 _ _ _ e1]
    rw [wipeT_len, (this t).1 _ _ _ e]
  refine ⟨by rw [g.len, hl], fun j v q => g.at_ j v ?_⟩
  rw [gT_wipe] at q ⊢
  by_cases hj : j ∈ own
  · rw [if_pos hj] at q; cases q
  · rw [if_neg hj] at q ⊢
    have hj2 : j ∉ t.slots := fun z => hj (by simpa using List.all_eq_true.mp hs j z)
    rw [(bind_fr_ t).1 _ _ _ e j hj2, gT_wipe, if_neg hj]
    exact q
/-! states that can't be -/
def dead (Γ : TS) : Bool := Γ.any fun o => match o with
  | some t => isBot t
  | none => false
theorem dead_ok {Γ : TS} {ρ : Ev} (h : InG N Γ ρ) (e : dead Γ = true) : False := by
  obtain ⟨o, ho, e⟩ := List.any_eq_true.mp e
  cases o with
  | none => cases e
  | some t =>
    obtain ⟨i, hi, he⟩ := List.mem_iff_getElem.mp ho
    obtain ⟨d, _, x⟩ := h.at_ i t (by unfold gT; rw [List.getElem?_eq_getElem hi, he]; rfl)
    exact isBot_ok e x
/-! tests that narrow -/
inductive TC where
  | isi (ts : List Ty) | cmp (o : COp) (c : D) | len (o : COp) (n : Int)
def constE : IE → Option D
  | .cst d => some d
  | .lst .enil => some (.list [])
  | .tup .enil => some (.tuple [])
  | _ => none
def getTC : IE → Option (Nat × TC)
  | .isi (.var i) ts => some (i, .isi ts)
  | .cmp o a b => (match a with
    | .var i => (constE b).map fun c => (i, .cmp o c)
    | .blt .len (.econs (.var i) .enil) => (match b with
      | .cst (.int n) => some (i, .len o n)
      | _ => none)
    | _ => none)
  | _ => none
def evTC : TC → D → Option Bool
  | .isi ts, d => some (ts.any fun t => isTy t d)
  | .cmp o c, d => opCmp o d c
  | .len o n, d => (opBlt .len [d]).bind fun l => opCmp o l (.int n)
def negO : COp → COp
  | .eq => .ne
  | .ne => .eq
  | .lt => .ge
  | .ge => .lt
  | .gt => .le
  | .le => .gt
  | .is => .isnot
  | .isnot => .is
  | .mem => .notin
  | .notin => .mem
def nrw (o : COp) (n l h : Int) : Int × Int := match o with
  | .eq => (max l n, min h n)
  | .ne => (if l = n then l + 1 else l, if h = n then h - 1 else h)
  | .lt => (l, min h (n - 1))
  | .le => (l, min h n)
  | .gt => (max l (n + 1), h)
  | .ge => (max l n, h)
  | _ => (l, h)
def intT (p : Int × Int) : T := if p.2 < p.1 then .bot else .int p.1 p.2
def seqT (l : Bool) (p : Int × Int) (lo hi : Nat) (t : T) : T := if p.2 < p.1 then .bot else .seq l (max lo p.1.toNat) (min hi p.2.toNat) t
def orB (a b : T) : T := if isBot a = true then b else if isBot b = true then a else .or a b
def rf1 (b : Bool) (c : TC) (t : T) : T := match c with
  | .isi ts => (match kd t with
    | some n => if (ts.any fun y => kT y n) = b then t else .bot
    | none => t)
  | .cmp o d => (match t, d with
    | .int l h, .int n => intT (nrw (if b = true then o else negO o) n l h)
    | .cs s, .str u => (match o with
      | .eq => if decide (s = u) = b then t else .bot
      | .ne => if decide (s = u) = b then .bot else t
      | _ => t)
    | .seq true lo hi u, .list [] => (match o with
      | .eq => if b = true then .seq true lo 0 u else if hi = 0 then .bot else .seq true (max lo 1) hi u
      | .ne => if b = false then .seq true lo 0 u else if hi = 0 then .bot else .seq true (max lo 1) hi u
      | _ => t)
    | t, .none => (match o, aIs t .non with
      | .is, some (.cb v) => if v = b then t else .bot
      | .isnot, some (.cb v) => if v = b then .bot else t
      | _, _ => t)
    | _, _ => t)
  | .len o n => (match t with
    | .seq l lo hi u => seqT l (nrw (if b = true then o else negO o) n lo hi) lo hi u
    | .tup x => if (nrw (if b = true then o else negO o) n (tlen x) (tlen x)).2 < (nrw (if b = true then o else negO o) n (tlen x) (tlen x)).1 then .bot else t
    | .lst x => if (nrw (if b = true then o else negO o) n (tlen x) (tlen x)).2 < (nrw (if b = true then o else negO o) n (tlen x) (tlen x)).1 then .bot else t
    | _ => t)
def rfT (b : Bool) (c : TC) : T → T
  | .or x y => orB (rfT b c x) (rfT b c y)
  | t => rf1 b c t
theorem orB_iff {a b : T} {d : D} : In N (orB a b) d ↔ In N a d ∨ In N b d := by
  unfold orB
  split
  · rename_i q; exact ⟨.inr, fun z => z.elim (fun z => absurd z (isBot_ok q)) id⟩
  · split
    · rename_i q; exact ⟨.inl, fun z => z.elim id (fun z => absurd z (isBot_ok q))⟩
    · exact Iff.rfl
/-- the narrowed relation -/
theorem nrw_ok {o : COp} {i n l h : Int} (e : opCmp o (.int i) (.int n) = some true) (h1 : l ≤ i) (h2 : i ≤ h) : (nrw o n l h).1 ≤ i ∧ i ≤ (nrw o n l h).2 := by
  cases o
  · have : decide (i = n) = true := by rw [cmpEq_int] at e; exact Option.some.inj e
    have := of_decide_eq_true this
    unfold nrw; dsimp only; omega
  · have : (!decide (i = n)) = true := by
      have e' : (if eqOk (.int i) (.int n) = true then some (!PyData.eqv (.int i) (.int n)) else none) = some true := e
      have e2 : (if eqOk (.int i) (.int n) = true then some (PyData.eqv (.int i) (.int n)) else none) = some (decide (i = n)) := cmpEq_int i n
      rw [if_pos (eqOk_int i n)] at e' e2
      rw [Option.some.inj e2] at e'
      exact Option.some.inj e'
    have : ¬ i = n := by simpa using this
    unfold nrw
    constructor
    · show (if l = n then l + 1 else l) ≤ i
      split <;> omega
    · show i ≤ (if h = n then h - 1 else h)
      split <;> omega
  · have := of_decide_eq_true (Option.some.inj e); unfold nrw; dsimp only; omega
  · have : (!decide (n < i)) = true := Option.some.inj e
    have : ¬ n < i := by simpa using this
    unfold nrw; dsimp only; omega
  · have : decide (n < i) = true := Option.some.inj e
    have := of_decide_eq_true this; unfold nrw; dsimp only; omega
  · have : (!decide (i < n)) = true := Option.some.inj e
    have : ¬ i < n := by simpa using this
    unfold nrw; dsimp only; omega
  all_goals exact ⟨h1, h2⟩
theorem nrw_sub {o : COp} {i n l h : Int} (e : (nrw o n l h).1 ≤ i ∧ i ≤ (nrw o n l h).2) : l ≤ i ∧ i ≤ h := by
  cases o <;> simp only [nrw] at e <;> first | (constructor <;> omega) | (obtain ⟨h1, h2⟩ := e; constructor <;> (split at h1 <;> split at h2 <;> omega))
theorem negO_ok {o : COp} {x y : D} {b : Bool} (e : opCmp o x y = some b) : opCmp (if b = true then o else negO o) x y = some true := by
  cases b
  · have key : ∀ {v : Option Bool}, v = some false → v.map (!·) = some true := fun h => by rw [h]; rfl
    rw [if_neg (by simp)]
    cases o
    · have e' : (if eqOk x y = true then some (PyData.eqv x y) else none) = some false := e
      show (if eqOk x y = true then some (!PyData.eqv x y) else none) = some true
      split at e'
      · rename_i q; rw [if_pos q, Option.some.inj e']; rfl
      · cases e'
    · have e' : (if eqOk x y = true then some (!PyData.eqv x y) else none) = some false := e
      show (if eqOk x y = true then some (PyData.eqv x y) else none) = some true
      split at e'
      · rename_i q; rw [if_pos q]; have := Option.some.inj e'; congr 1; simpa using this
      · cases e'
    · exact key e
    · have e' : (ltD y x).map (!·) = some false := e
      show ltD y x = some true
      cases h : ltD y x with
      | none => rw [h] at e'; cases e'
      | some v => rw [h] at e'; cases v <;> first | rfl | cases e'
    · exact key e
    · have e' : (ltD x y).map (!·) = some false := e
      show ltD x y = some true
      cases h : ltD x y with
      | none => rw [h] at e'; cases e'
      | some v => rw [h] at e'; cases v <;> first | rfl | cases e'
    · cases y <;> first | (cases e; done) | skip
      · have := Option.some.inj (show some (isNone x) = some false from e)
        show some (!isNone x) = some true
        rw [this]; rfl
      · rename_i c
        have := Option.some.inj (show some (isBl c x) = some false from e)
        show some (!isBl c x) = some true
        rw [this]; rfl
    · cases y <;> first | (cases e; done) | skip
      · have := Option.some.inj (show some (!isNone x) = some false from e)
        show some (isNone x) = some true
        congr 1; simpa using this
      · rename_i c
        have := Option.some.inj (show some (!isBl c x) = some false from e)
        show some (isBl c x) = some true
        congr 1; simpa using this
    · exact key e
    · have e' : (opMem x y).map (!·) = some false := e
      show opMem x y = some true
      cases h : opMem x y with
      | none => rw [h] at e'; cases e'
      | some v => rw [h] at e'; cases v <;> first | rfl | cases e'
  · exact e
end
end BV
set_option Elab.async false
set_option linter.all false
set_option maxRecDepth 100000
set_option maxHeartbeats 4000000
/-! BT6: narrowing is right. -/
namespace BV
open PySem
section
variable {N : Nat}
theorem intT_ok {p : Int × Int} {i : Int} (h : p.1 ≤ i ∧ i ≤ p.2) : In N (intT p) (.int i) := by
  unfold intT
  rw [if_neg (by omega)]
  exact ⟨i, rfl, h.1, h.2⟩
theorem seqT_ok {l : Bool} {p : Int × Int} {lo hi : Nat} {t : T} {xs : List D} (h : p.1 ≤ xs.length ∧ xs.length ≤ p.2) (h1 : lo ≤ xs.length) (h2 : xs.length ≤ hi) (h3 : ∀ x ∈ xs, In N t x) : In N (seqT l p lo hi t) (sq l xs) := by
  unfold seqT
  rw [if_neg (by omega)]
  exact ⟨xs, rfl, by omega, by omega, h3⟩
theorem len_sq (l : Bool) (xs : List D) : opBlt .len [sq l xs] = some (.int xs.length) := by cases l <;> rfl
theorem eqv_nil {xs : List D} : PyData.eqv (.list xs) (.list []) = xs.isEmpty := by
  cases xs <;> simp [PyData.eqv, PyData.eqvAll]
theorem rf1_ok {b : Bool} {c : TC} {t : T} {d : D} (x : In N t d) (e : evTC c d = some b) : In N (rf1 b c t) d := by
  revert e
  cases c with
  | isi ts =>
    intro e
    unfold rf1
    dsimp only
    split
    · rename_i n hk
      have : (ts.any fun y => kT y n) = b := by
        have e : some (ts.any fun t => isTy t d) = some b := e
        rw [show (fun y => isTy y d) = fun y => kT y n from funext fun y => kd_ok hk x y] at e
        exact Option.some.inj e
      rw [if_pos this]; exact x
    · exact x
  | cmp o c =>
    intro e
    replace e : opCmp o d c = some b := e
    unfold rf1
    dsimp only
    split
    · obtain ⟨i, rfl, h1, h2⟩ := x
      exact intT_ok (nrw_ok (negO_ok e) h1 h2)
    · rename_i s u
      cases (show d = _ from x)
      split
      · rw [cmpEq_str] at e
        rw [if_pos (Option.some.inj e)]; exact rfl
      · have e2 := cmpEq_str s u
        have e' : (if eqOk (.str s) (.str u) = true then some (!PyData.eqv (.str s) (.str u)) else none) = some b := e
        have e2 : (if eqOk (.str s) (.str u) = true then some (PyData.eqv (.str s) (.str u)) else none) = some (decide (s = u)) := e2
        rw [if_pos (by rfl)] at e' e2
        rw [Option.some.inj e2] at e'
        rw [if_neg]
        · exact rfl
        · intro q
          rw [q] at e'
          have := Option.some.inj e'
          cases b <;> cases this
      · exact rfl
    · rename_i lo hi u
      obtain ⟨xs, rfl, h1, h2, h3⟩ := x
      have key : ∀ v : Bool, xs.isEmpty = v → In N (if v = true then .seq true lo 0 u else if hi = 0 then .bot else .seq true (max lo 1) hi u) (sq true xs) := by
        intro v hv
        split
        · rename_i q
          rw [q] at hv
          have : xs = [] := by simpa using hv
          subst this
          exact ⟨[], rfl, h1, Nat.le_refl _, h3⟩
        · rename_i q
          have : xs.length ≠ 0 := by
            intro z
            have : xs = [] := List.length_eq_zero_iff.mp z
            subst this
            exact q hv.symm
          rw [if_neg (by omega)]
          exact ⟨xs, rfl, by omega, h2, h3⟩
      split
      · have e' : (if eqOk (sq true xs) (.list []) = true then some (PyData.eqv (sq true xs) (.list [])) else none) = some b := e
        split at e'
        · have := Option.some.inj e'
          rw [show sq true xs = .list xs from rfl, eqv_nil] at this
          exact key b this
        · cases e'
      · have e' : (if eqOk (sq true xs) (.list []) = true then some (!PyData.eqv (sq true xs) (.list [])) else none) = some b := e
        split at e'
        · have := Option.some.inj e'
          rw [show sq true xs = .list xs from rfl, eqv_nil] at this
          have k := key (!b) (by rw [← this]; simp)
          cases b
          · exact k
          · exact k
        · cases e'
      · exact ⟨xs, rfl, h1, h2, h3⟩
    · split
      · rename_i v hv
        obtain ⟨w, e1, e2⟩ := aIs_ok _ _ _ hv d .none x rfl
        have : opCmp .is d .none = some b := e
        rw [this] at e1
        cases e1
        cases (show PyData.bool b = .bool v from e2)
        rw [if_pos rfl]; exact x
      · rename_i v hv
        obtain ⟨w, e1, e2⟩ := aIs_ok _ _ _ hv d .none x rfl
        have e1 : some (isNone d) = some w := e1
        have e : some (!isNone d) = some b := e
        cases e1
        cases (show PyData.bool (isNone d) = .bool v from e2)
        rw [if_neg]
        · exact x
        · intro q
          rw [← q] at e
          have := Option.some.inj e
          cases h : isNone d <;> rw [h] at this <;> cases this
      · exact x
    · exact x
  | len o n =>
    intro e
    unfold rf1
    dsimp only
    split
    · rename_i l lo hi u
      obtain ⟨xs, rfl, h1, h2, h3⟩ := x
      have e : (opBlt .len [sq l xs]).bind (fun l => opCmp o l (.int n)) = some b := e
      rw [len_sq] at e
      exact seqT_ok (nrw_ok (negO_ok e) (by omega) (by omega)) h1 h2 h3
    · obtain ⟨xs, rfl, h1⟩ := x
      have e : opCmp o (.int xs.length) (.int n) = some b := e
      rw [InL.len h1] at e
      have := nrw_ok (negO_ok e) (Int.le_refl _) (Int.le_refl _)
      rw [if_neg (by omega)]
      exact ⟨xs, rfl, h1⟩
    · obtain ⟨xs, rfl, h1⟩ := x
      have e : opCmp o (.int xs.length) (.int n) = some b := e
      rw [InL.len h1] at e
      have := nrw_ok (negO_ok e) (Int.le_refl _) (Int.le_refl _)
      rw [if_neg (by omega)]
      exact ⟨xs, rfl, h1⟩
    · exact x
theorem ite_sub {p : Prop} [Decidable p] {a b t : T} {d : D} (h1 : In N a d → In N t d) (h2 : In N b d → In N t d) : In N (if p then a else b) d → In N t d := by
  split
  · exact h1
  · exact h2
theorem bot_sub {t : T} {d : D} : In N .bot d → In N t d := fun z => z.elim
theorem rf1_sub {b : Bool} {c : TC} {t : T} {d : D} : In N (rf1 b c t) d → In N t d := by
  cases c with
  | isi ts =>
    unfold rf1
    dsimp only
    split
    · exact ite_sub id bot_sub
    · exact id
  | cmp o c =>
    unfold rf1
    dsimp only
    split
    · unfold intT
      refine ite_sub bot_sub ?_
      rintro ⟨i, rfl, h⟩
      have := nrw_sub h
      exact ⟨i, rfl, this.1, this.2⟩
    · split
      · exact ite_sub id bot_sub
      · exact ite_sub bot_sub id
      · exact id
    · split
      · refine ite_sub ?_ (ite_sub bot_sub ?_)
        · rintro ⟨xs, e, h1, h2, h3⟩; exact ⟨xs, e, h1, by omega, h3⟩
        · rintro ⟨xs, e, h1, h2, h3⟩; exact ⟨xs, e, by omega, h2, h3⟩
      · refine ite_sub ?_ (ite_sub bot_sub ?_)
        · rintro ⟨xs, e, h1, h2, h3⟩; exact ⟨xs, e, h1, by omega, h3⟩
        · rintro ⟨xs, e, h1, h2, h3⟩; exact ⟨xs, e, by omega, h2, h3⟩
      · exact id
    · split
      · exact ite_sub id bot_sub
      · exact ite_sub bot_sub id
      · exact id
    · exact id
  | len o n =>
    unfold rf1
    dsimp only
    split
    · unfold seqT
      refine ite_sub bot_sub ?_
      rintro ⟨xs, e, h1, h2, h3⟩
      exact ⟨xs, e, by omega, by omega, h3⟩
    · exact ite_sub bot_sub id
    · exact ite_sub bot_sub id
    · exact id
theorem rfT_ok {b : Bool} {c : TC} : ∀ {t : T} {d : D}, In N t d → evTC c d = some b → In N (rfT b c t) d := by
  intro t
  induction t with
  | or x y ihx ihy =>
    intro d i e
    refine orB_iff.mpr (i.elim (fun i => .inl (ihx i e)) (fun i => .inr (ihy i e)))
  | _ => intro d i e; exact rf1_ok i e
theorem rfT_sub {b : Bool} {c : TC} : ∀ {t : T} {d : D}, In N (rfT b c t) d → In N t d := by
  intro t
  induction t with
  | or x y ihx ihy =>
    intro d i
    rcases orB_iff.mp (show In N (orB (rfT b c x) (rfT b c y)) d from i) with i | i
    · exact .inl (ihx i)
    · exact .inr (ihy i)
  | _ => intro d i; exact rf1_sub i
/-- narrowing by a condition -/
def rf : Bool → IE → TS → TS
  | b, .not c, Γ => rf (!b) c Γ
  | true, .and (.econs x (.econs y .enil)), Γ => rf true y (rf true x Γ)
  | false, .or (.econs x (.econs y .enil)), Γ => rf false y (rf false x Γ)
  | b, c, Γ => (match getTC c with
    | some (i, tc) => (match gT Γ i with
      | some t => Γ.set i (some (rfT b tc t))
      | none => Γ)
    | none => Γ)
/-- names, constants -/
def simpA : IE → Bool
  | .enil => true
  | .econs (.var _) r => simpA r
  | .econs (.cst _) r => simpA r
  | _ => false
/-- conditions that change nothing -/
def pureC : IE → Bool
  | .call _ es => simpA es
  | .not c => pureC c
  | .and (.econs x (.econs y .enil)) => pureC x && pureC y
  | .or (.econs x (.econs y .enil)) => pureC x && pureC y
  | c => (getTC c).isSome
variable {call : Nat → List D → FRes} {hcall : Nat → D → FRes} {cur : D}
theorem lift_ok {α : Type} {o : Option α} {ρ ρ' : Ev} {a : α} (h : Out.lift o ρ = .ok a ρ') : o = some a ∧ ρ' = ρ := by
  cases o with
  | none => cases h
  | some x => cases h; exact ⟨rfl, rfl⟩
theorem bind_ok_inv {α β : Type} {o : Out α} {f : α → Ev → Out β} {b : β} {ρ' : Ev} (h : o.bind f = .ok b ρ') : ∃ a ρ, o = .ok a ρ ∧ f a ρ = .ok b ρ' := by
  cases o with
  | ok a ρ => exact ⟨a, ρ, rfl, h⟩
  | exc x ρ => cases h
  | stk => cases h
theorem constE_ok {e : IE} {c d : D} {ρ ρ' : Ev} (h : constE e = some c) (q : evE call hcall cur e ρ = .ok d ρ') : d = c ∧ ρ' = ρ := by
  unfold constE at h
  split at h
  · cases h; cases q; exact ⟨rfl, rfl⟩
  · cases h; cases q; exact ⟨rfl, rfl⟩
  · cases h; cases q; exact ⟨rfl, rfl⟩
  · cases h
theorem getTC_ok {c : IE} {i : Nat} {tc : TC} (h : getTC c = some (i, tc)) {ρ ρ' : Ev} {v : D} (q : evE call hcall cur c ρ = .ok v ρ') : ρ' = ρ ∧ ∃ d, getV ρ i = some d ∧ evTC tc d = some (tru v) := by
  unfold getTC at h
  split at h
  · cases h
    obtain ⟨d, ρ1, h1, h2⟩ := bind_ok_inv (show (Out.lift (getV ρ _) ρ).bind _ = _ from q)
    obtain ⟨e1, e2⟩ := lift_ok h1
    cases h2
    exact ⟨e2, d, e1, rfl⟩
  · split at h
    · obtain ⟨c, h3, h4⟩ := Option.map_eq_some_iff.mp h
      cases h4
      obtain ⟨x, ρ1, h1, h2⟩ := bind_ok_inv (show ((evE call hcall cur (.var _) ρ).bind _) = _ from q)
      obtain ⟨y, ρ2, h5, h6⟩ := bind_ok_inv h2
      obtain ⟨e1, e2⟩ := lift_ok (show Out.lift (getV ρ _) ρ = _ from h1)
      obtain ⟨e3, e4⟩ := constE_ok h3 h5
      obtain ⟨e5, e6⟩ := lift_ok h6
      obtain ⟨k, e7, e8⟩ := Option.map_eq_some_iff.mp e5
      subst e3 e8 e4 e2
      exact ⟨e6, x, e1, e7⟩
    · split at h
      · cases h
        obtain ⟨x, ρ1, h1, h2⟩ := bind_ok_inv (show ((evE call hcall cur (.blt .len (.econs (.var _) .enil)) ρ).bind _) = _ from q)
        obtain ⟨y, ρ2, h5, h6⟩ := bind_ok_inv h2
        obtain ⟨ds, ρ3, h7, h8⟩ := bind_ok_inv (show ((evA call hcall cur (.econs (.var _) .enil) ρ).bind _) = _ from h1)
        obtain ⟨z, ρ4, h9, h10⟩ := bind_ok_inv (show ((evE call hcall cur (.var _) ρ).bind _) = _ from h7)
        obtain ⟨e1, e2⟩ := lift_ok (show Out.lift (getV ρ _) ρ = _ from h9)
        cases h10
        obtain ⟨e3, e4⟩ := lift_ok h8
        cases h5
        obtain ⟨e5, e6⟩ := lift_ok h6
        obtain ⟨k, e7, e8⟩ := Option.map_eq_some_iff.mp e5
        subst e8 e4 e2
        refine ⟨e6, z, e1, ?_⟩
        show (opBlt .len [z]).bind _ = _
        rw [e3]
        exact e7
      · cases h
    · cases h
  · cases h
theorem and2_inv {x y : IE} {ρ ρ' : Ev} {v : D} (q : evE call hcall cur (.and (.econs x (.econs y .enil))) ρ = .ok v ρ') : ∃ u ρ1, evE call hcall cur x ρ = .ok u ρ1 ∧ ((tru u = true ∧ evE call hcall cur y ρ1 = .ok v ρ') ∨ (tru u = false ∧ v = u ∧ ρ' = ρ1)) := by
  obtain ⟨u, ρ1, h1, h2⟩ := bind_ok_inv (show ((evE call hcall cur x ρ).bind fun x ρ => if tru x = true then evE call hcall cur y ρ else .ok x ρ) = _ from q)
  refine ⟨u, ρ1, h1, ?_⟩
  cases hu : tru u with
  | true => rw [if_pos hu] at h2; exact .inl ⟨rfl, h2⟩
  | false => rw [if_neg (by rw [hu]; simp)] at h2; cases h2; exact .inr ⟨rfl, rfl, rfl⟩
theorem or2_inv {x y : IE} {ρ ρ' : Ev} {v : D} (q : evE call hcall cur (.or (.econs x (.econs y .enil))) ρ = .ok v ρ') : ∃ u ρ1, evE call hcall cur x ρ = .ok u ρ1 ∧ ((tru u = false ∧ evE call hcall cur y ρ1 = .ok v ρ') ∨ (tru u = true ∧ v = u ∧ ρ' = ρ1)) := by
  obtain ⟨u, ρ1, h1, h2⟩ := bind_ok_inv (show ((evE call hcall cur x ρ).bind fun x ρ => if tru x = true then .ok x ρ else evE call hcall cur y ρ) = _ from q)
  refine ⟨u, ρ1, h1, ?_⟩
  cases hu : tru u with
  | true => rw [if_pos hu] at h2; cases h2; exact .inr ⟨rfl, rfl, rfl⟩
  | false => rw [if_neg (by rw [hu]; simp)] at h2; exact .inl ⟨rfl, h2⟩
theorem simpA_ok : ∀ (e : IE) {ρ ρ' : Ev} {ds : List D}, simpA e = true → evA call hcall cur e ρ = .ok ds ρ' → ρ' = ρ := by
  intro e
  fun_induction simpA e with
  | case1 => intro ρ ρ' ds _ q; cases q; rfl
  | case2 i r ih =>
    intro ρ ρ' ds p q
    obtain ⟨x, ρ1, h1, h2⟩ := bind_ok_inv (show ((evE call hcall cur (.var i) ρ).bind _) = _ from q)
    obtain ⟨xs, ρ2, h3, h4⟩ := bind_ok_inv h2
    obtain ⟨_, e2⟩ := lift_ok (show Out.lift (getV ρ i) ρ = _ from h1)
    cases h4
    rw [ih p h3, e2]
  | case3 d r ih =>
    intro ρ ρ' ds p q
    obtain ⟨x, ρ1, h1, h2⟩ := bind_ok_inv (show ((evE call hcall cur (.cst d) ρ).bind _) = _ from q)
    obtain ⟨xs, ρ2, h3, h4⟩ := bind_ok_inv h2
    cases h1
    cases h4
    exact ih p h3
  | case4 => intro ρ ρ' ds p; cases p
theorem pure_ok : ∀ (c : IE) {ρ ρ' : Ev} {v : D}, pureC c = true → evE call hcall cur c ρ = .ok v ρ' → ρ' = ρ := by
  intro c
  fun_induction pureC c with
  | case1 f es =>
    intro ρ ρ' v p q
    obtain ⟨ds, ρ1, h1, h2⟩ := bind_ok_inv (show ((evA call hcall cur es ρ).bind fun ds ρ => backC ρ (call f ds)) = _ from q)
    have := simpA_ok es p h1
    subst this
    cases e : call f ds with
    | ret d o => rw [e] at h2; cases h2; rfl
    | exc x o => rw [e] at h2; cases h2
    | stk => rw [e] at h2; cases h2
  | case2 c ih =>
    intro ρ ρ' v p q
    obtain ⟨u, ρ1, h1, h2⟩ := bind_ok_inv (show ((evE call hcall cur c ρ).bind _) = _ from q)
    cases h2
    exact ih p h1
  | case3 x y ihx ihy =>
    intro ρ ρ' v p q
    obtain ⟨p1, p2⟩ := a2 p
    obtain ⟨u, ρ1, h1, h | h⟩ := and2_inv q
    · rw [ihy p2 h.2, ihx p1 h1]
    · rw [h.2.2, ihx p1 h1]
  | case4 x y ihx ihy =>
    intro ρ ρ' v p q
    obtain ⟨p1, p2⟩ := a2 p
    obtain ⟨u, ρ1, h1, h | h⟩ := or2_inv q
    · rw [ihy p2 h.2, ihx p1 h1]
    · rw [h.2.2, ihx p1 h1]
  | case5 c =>
    intro ρ ρ' v p q
    cases h : getTC c with
    | none => rw [h] at p; cases p
    | some r => exact (getTC_ok h q).1
theorem rf_ok : ∀ (c : IE) (b : Bool) (Γ : TS) {ρ ρ' : Ev} {v : D}, pureC c = true → evE call hcall cur c ρ = .ok v ρ' → tru v = b → InG N Γ ρ → InG N (rf b c Γ) ρ := by
  intro c b Γ
  fun_induction rf b c Γ with
  | case1 b c Γ ih =>
    intro ρ ρ' v p q e g
    obtain ⟨u, ρ1, h1, h2⟩ := bind_ok_inv (show ((evE call hcall cur c ρ).bind _) = _ from q)
    cases h2
    have e : (!tru u) = b := e
    exact ih p h1 (by rw [← e]; simp) g
  | case2 x y Γ ihx ihy =>
    intro ρ ρ' v p q e g
    obtain ⟨p1, p2⟩ := a2 (show (pureC x && pureC y) = true from p)
    obtain ⟨u, ρ1, h1, h | h⟩ := and2_inv q
    · have := pure_ok x p1 h1
      subst this
      exact ihy p2 h.2 e (ihx p1 h1 h.1 g)
    · rw [h.2.1, h.1] at e; cases e
  | case3 x y Γ ihx ihy =>
    intro ρ ρ' v p q e g
    obtain ⟨p1, p2⟩ := a2 (show (pureC x && pureC y) = true from p)
    obtain ⟨u, ρ1, h1, h | h⟩ := or2_inv q
    · have := pure_ok x p1 h1
      subst this
      exact ihy p2 h.2 e (ihx p1 h1 h.1 g)
    · rw [h.2.1, h.1] at e; cases e
  | case4 b c Γ _ _ _ i tc h1 t h2 =>
    intro ρ ρ' v p q e g
    obtain ⟨_, d, e1, e2⟩ := getTC_ok h1 q
    obtain ⟨d', e3, x⟩ := g.at_ i t h2
    rw [e1] at e3
    cases e3
    exact g.nar e1 (rfT_ok x (e ▸ e2))
  | case5 => intro ρ ρ' v p q e g; exact g
  | case6 => intro ρ ρ' v p q e g; exact g
theorem InG.unnar {Γ : TS} {ρ : Ev} {i : Nat} {t u : T} (h : InG N (Γ.set i (some u)) ρ) (e : gT Γ i = some t) (s : ∀ d, In N u d → In N t d) : InG N Γ ρ := by
  refine ⟨by rw [h.len, List.length_set], fun j v q => ?_⟩
  by_cases hj : i = j
  · subst hj
    rw [e] at q
    cases q
    have hl : i < Γ.length := by
      by_cases hl : i < Γ.length
      · exact hl
      · unfold gT at e; rw [List.getElem?_eq_none (by omega)] at e; cases e
    obtain ⟨d, e1, x⟩ := h.at_ i u (by rw [gT_set, if_pos ⟨rfl, hl⟩])
    exact ⟨d, e1, s d x⟩
  · exact h.at_ j v (by rw [gT_set, if_neg fun z => hj z.1]; exact q)
theorem rf_sub : ∀ (c : IE) (b : Bool) (Γ : TS) {ρ : Ev}, InG N (rf b c Γ) ρ → InG N Γ ρ := by
  intro c b Γ
  fun_induction rf b c Γ with
  | case1 b c Γ ih => intro ρ g; exact ih g
  | case2 x y Γ ihx ihy => intro ρ g; exact ihx (ihy g)
  | case3 x y Γ ihx ihy => intro ρ g; exact ihx (ihy g)
  | case4 b c Γ _ _ _ i tc h1 t h2 => intro ρ g; exact g.unnar h2 fun d x => rfT_sub x
  | case5 => intro ρ g; exact g
  | case6 => intro ρ g; exact g
/-- a branch -/
def br (b : Bool) (c : IE) (x : T) (Γ : TS) : Option TS :=
  if aTru x = some (!b) then none else
    let Γ' := if pureC c = true then rf b c Γ else Γ
    if dead Γ' = true then none else some Γ'
theorem br_ok {M : Nat} {b : Bool} {c : IE} {x : T} {Γ : TS} {ρ ρ' : Ev} {v : D} (q : evE call hcall cur c ρ = .ok v ρ') (iv : In M x v) (h : tru v = b) (g : InG N Γ ρ) (g' : InG M Γ ρ') (m : N ≤ M) : ∃ Γ', br b c x Γ = some Γ' ∧ InG M Γ' ρ' := by
  unfold br
  have n1 : ¬ aTru x = some (!b) := fun e => by
    have := aTru_ok e iv
    rw [h] at this
    cases b <;> cases this
  rw [if_neg n1]
  have key : InG M (if pureC c = true then rf b c Γ else Γ) ρ' := by
    split
    · rename_i p
      have := pure_ok c p q
      subst this
      exact rf_ok c b Γ p q h g'
    · exact g'
  dsimp only
  rw [if_neg fun z => dead_ok key z]
  exact ⟨_, rfl, key⟩
theorem br_sub {b : Bool} {c : IE} {x : T} {Γ Γ' : TS} {ρ : Ev} (e : br b c x Γ = some Γ') (g : InG N Γ' ρ) : InG N Γ ρ := by
  unfold br at e
  have key : ∀ Γ2 : TS, (InG N Γ2 ρ → InG N Γ ρ) → (if dead Γ2 = true then none else some Γ2) = some Γ' → InG N Γ ρ := by
    intro Γ2 h e
    split at e
    · cases e
    · cases e; exact h g
  by_cases h : aTru x = some (!b)
  · rw [if_pos h] at e; cases e
  · rw [if_neg h] at e
    refine key _ (fun g => ?_) e
    split at g
    · exact rf_sub _ _ _ g
    · exact g
end
end BV
set_option Elab.async false
set_option linter.all false
set_option maxRecDepth 100000
set_option maxHeartbeats 4000000
/-! BT7: expressions over types. -/
namespace BV
open PySem
def isDk : T → Bool
  | .dk => true
  | _ => false
/-- what is walked: some items, and at most n more -/
def tIt (t : T) : Option (T × Nat × T) := match t with
  | .tup x => some (x, 0, .bot)
  | .lst x => some (x, 0, .bot)
  | t => (match vA t with
    | some (_, lo, hi, u) => if Nat.ble hi 200 = true then some (repT u lo, hi - lo, u) else none
    | none => (match vR t with
      | some (lo, hi) => if Nat.ble hi 200 = true then some (repT (.str 1 1) lo, hi - lo, .str 1 1) else none
      | none => none))
def intsT : Nat → Nat → T
  | _, 0 => .nil
  | i, n + 1 => .cons (.int i i) (intsT (i + 1) n)
def aRng (ts : T) : Option T := match ts with
  | .cons (.int l h) .nil => if (decide (l = h) && decide (0 ≤ l) && decide (l ≤ 80)) = true then some (.lst (intsT 0 l.toNat)) else
      if (decide (0 ≤ l) && decide (h ≤ 10000)) = true then some (.seq true l.toNat h.toNat (.int 0 (h - 1))) else none
  | .cons (.int l h) (.cons (.int l' h') .nil) => if (decide (-10000 ≤ l) && decide (h ≤ 10000) && decide (-10000 ≤ l') && decide (h' ≤ 10000)) = true then some (.seq true (l' - h).toNat (h' - l).toNat (.int l (h' - 1))) else none
  | _ => none
def enmT : Nat → T → T
  | i, .cons a r => .cons (.tup (.cons (.int i i) (.cons a .nil))) (enmT (i + 1) r)
  | _, t => t
def aEnm (t : T) : Option T := match t with
  | .tup x => some (.lst (enmT 0 x))
  | .lst x => some (.lst (enmT 0 x))
  | t => (match vA t with
    | some (_, lo, hi, u) => some (.seq true lo hi (.tup (.cons (.int 0 (hi - 1)) (.cons u .nil))))
    | none => none)
def aZip (t u : T) : Option T := match vA t, vA u with
  | some (_, lo, hi, a), some (_, lo', hi', b) => some (.seq true (min lo lo') (min hi hi') (.tup (.cons a (.cons b .nil))))
  | _, _ => none
def aNeg : T → Option T
  | .int l h => some (.int (-h) (-l))
  | _ => none
def aNot (t : T) : T := match aTru t with
  | some b => .cb (!b)
  | none => .bl
def fls : T → T
  | .bl => .cb false
  | .cb true => .bot
  | t => t
def trs : T → T
  | .bl => .cb true
  | .cb false => .bot
  | t => t
/-- a draw that is an index -/
def tkIdx (tk : Nat) : IE → IE → Option (Nat × Nat)
  | .var v, .calld f j (.econs (.blt .len (.econs (.var w) .enil)) .enil) => if (decide (f = tk) && decide (v = w)) = true then some (v, j) else none
  | _, _ => none
def elemT (t : T) : Option T := match vA t with
  | some (_, lo, hi, u) => if (Nat.ble 1 lo && Nat.ble hi 1000000) = true then some u else none
  | none => (match vR t with
    | some (lo, hi) => if (Nat.ble 1 lo && Nat.ble hi 1000000) = true then some (.str 1 1) else none
    | none => none)
def manyT : T → Option Int
  | .int l h => if (decide (0 < l) && decide (h < 1073741824)) = true then some h else none
  | _ => none
def isInt1 : T → Option (Int × Int)
  | .int l h => some (l, h)
  | _ => none
/-- items one by one -/
def aItems (f : T → Nat → Option (T × Bool × Nat)) : T → Nat → Option (T × Bool × Nat)
  | .nil, N => some (.nil, true, N)
  | .cons u r, N => (f u N).bind fun x => (aItems f r x.2.2).map fun y => (.cons x.1 y.1, x.2.1 && y.2.1, y.2.2)
  | _, _ => none
def aMore (f : T → Nat → Option (T × Bool × Nat)) (u : T) : Nat → Nat → Option (T × Nat)
  | 0, N => some (.bot, N)
  | n + 1, N => (f u N).bind fun x => (aMore f u n x.2.2).map fun y => (jn x.1 y.1, y.2)
/-- a comprehension's type -/
def aLc (f : T → Nat → Option (T × Bool × Nat)) (us : T) (n : Nat) (u : T) (N : Nat) : Option (T × Nat) := (aItems f us N).bind fun x => if (Nat.beq n 0 && x.2.1) = true then some (.lst x.1, x.2.2) else
  (aMore f u n x.2.2).map fun y => (.seq true (if x.2.1 = true then tlen us else 0) (tlen us + n) (jn (joinL jn x.1) y.1), y.2)
section
variable (ac acd : Nat → T → Nat → Option (T × Nat)) (tk : Nat)
mutual
def aE : IE → TS → Nat → Option (T × Nat)
  | .var i, Γ, N => (gT Γ i).map fun t => (t, N)
  | .cst d, _, N => (ofD d).map fun t => (t, N)
  | .glb _ d, _, N => (ofD d).map fun t => (t, N)
  | .tup es, Γ, N => (aA es Γ N).map fun r => (.tup r.1, r.2)
  | .lst es, Γ, N => (aA es Γ N).map fun r => (.lst r.1, r.2)
  | .bin o a b, Γ, N => (aE a Γ N).bind fun x => (aE b Γ x.2).bind fun y => (map2 (aBin o) x.1 y.1).map fun t => (t, y.2)
  | .neg a, Γ, N => (aE a Γ N).bind fun x => (map1 aNeg x.1).map fun t => (t, x.2)
  | .cmp o a b, Γ, N => (aE a Γ N).bind fun x => (aE b Γ x.2).bind fun y => (map2 (aCmp o) x.1 y.1).map fun t => (t, y.2)
  | .cmp3 o p a b c, Γ, N => (aE a Γ N).bind fun x => (aE b Γ x.2).bind fun y => (map2 (aCmp o) x.1 y.1).bind fun _ => (aE c Γ y.2).bind fun z => (map2 (aCmp p) y.1 z.1).map fun _ => (.bl, z.2)
  | .and es, Γ, N => aAnd es Γ N
  | .or es, Γ, N => aOr es Γ N
  | .not a, Γ, N => (aE a Γ N).map fun x => (aNot x.1, x.2)
  | .ife c a b, Γ, N => (aE c Γ N).bind fun x => (match br true c x.1 Γ with
      | some Γ' => aE a Γ' x.2
      | none => some (.bot, x.2)).bind fun (y : T × Nat) => (match br false c x.1 Γ with
        | some Γ' => aE b Γ' y.2
        | none => some (.bot, y.2)).map fun (z : T × Nat) => (jn y.1 z.1, z.2)
  | .idx a i, Γ, N => (match tkIdx tk a i with
    | some (v, j) => (gT Γ v).bind fun t => (gT Γ j).bind fun u => if (isDk u && Nat.ble N 1000000) = true then (elemT t).map fun e => (e, N + 1) else none
    | none => (aE a Γ N).bind fun x => (aE i Γ x.2).bind fun y => (map2 aIdx x.1 y.1).map fun t => (t, y.2))
  | .slc a lo hi, Γ, N => (aE a Γ N).bind fun x => (if isNop lo = true then some (none, x.2) else (aE lo Γ x.2).bind fun y => (isInt1 y.1).map fun p => (some (.int p.1 p.2), y.2)).bind fun l =>
      (if isNop hi = true then some (none, l.2) else (aE hi Γ l.2).bind fun y => (isInt1 y.1).map fun p => (some (.int p.1 p.2), y.2)).bind fun h => (map1 (fun t => aSlc t l.1 h.1) x.1).map fun t => (t, h.2)
  | .rev a, Γ, N => (aE a Γ N).bind fun x => (map1 aRev x.1).map fun t => (t, x.2)
  | .nop, _, N => some (.non, N)
  | .dct, _, N => some (.dc, N)
  | .blt b es, Γ, N => (aA es Γ N).bind fun r => (aBlt b r.1).map fun t => (t, r.2)
  | .mth m o es, Γ, N => (aE o Γ N).bind fun x => (aA es Γ x.2).bind fun r => (aMth m x.1 r.1).map fun t => (t, r.2)
  | .isi a ts, Γ, N => (aE a Γ N).bind fun x => (map1 (aIsi ts) x.1).map fun t => (t, x.2)
  | .call f es, Γ, N => (aA es Γ N).bind fun r => ac f r.1 r.2
  | .calld f i es, Γ, N => (gT Γ i).bind fun u => if isDk u = true then (aA es Γ N).bind fun r => (if f = tk then (match r.1 with
      | .cons m .nil => if Nat.ble r.2 1000000 = true then (manyT m).map fun h => (.int 0 (h - 1), r.2 + 1) else none
      | _ => none) else acd f r.1 r.2) else none
  | .rng es, Γ, N => (aA es Γ N).bind fun r => (aRng r.1).map fun t => (t, r.2)
  | .enm a, Γ, N => (aE a Γ N).bind fun x => (aEnm x.1).map fun t => (t, x.2)
  | .zip a b, Γ, N => (aE a Γ N).bind fun x => (aE b Γ x.2).bind fun y => (aZip x.1 y.1).map fun t => (t, y.2)
  | .lc own t it c e, Γ, N => if t.slots.all (fun i => own.contains i) = true then (aE it Γ N).bind fun x => (tIt x.1).bind fun p =>
      aLc (fun u M => (aBind t u (wipeT Γ own)).bind fun Γ1 => (aE c Γ1 M).bind fun k => (match br true c k.1 Γ1 with
        | some Γ2 => aE e Γ2 k.2
        | none => some (.bot, k.2)).map fun (z : T × Nat) => (z.1, aTru k.1 == some true, z.2)) p.1 p.2.1 p.2.2 x.2 else none
  | _, _, _ => none
def aA : IE → TS → Nat → Option (T × Nat)
  | .enil, _, N => some (.nil, N)
  | .econs a r, Γ, N => (aE a Γ N).bind fun x => (aA r Γ x.2).map fun y => (.cons x.1 y.1, y.2)
  | _, _, _ => none
def aAnd : IE → TS → Nat → Option (T × Nat)
  | .econs a .enil, Γ, N => aE a Γ N
  | .econs a r, Γ, N => (aE a Γ N).bind fun x => (match br true a x.1 Γ with
    | some Γ' => aAnd r Γ' x.2
    | none => some (.bot, x.2)).map fun (y : T × Nat) => (if aTru x.1 = some true then y.1 else jn (fls x.1) y.1, y.2)
  | _, _, _ => none
def aOr : IE → TS → Nat → Option (T × Nat)
  | .econs a .enil, Γ, N => aE a Γ N
  | .econs a r, Γ, N => (aE a Γ N).bind fun x => (match br false a x.1 Γ with
    | some Γ' => aOr r Γ' x.2
    | none => some (.bot, x.2)).map fun (y : T × Nat) => (if aTru x.1 = some false then y.1 else jn (trs x.1) y.1, y.2)
  | _, _, _ => none
end
end
section
variable {N : Nat}
theorem intsT_ok : ∀ (n i : Nat), InL N (intsT i n) ((List.range' i n).map fun (k : Nat) => .int k)
  | 0, i => rfl
  | n + 1, i => ⟨_, _, rfl, ⟨_, rfl, Int.le_refl _, Int.le_refl _⟩, intsT_ok n (i + 1)⟩
theorem aRng_ok {ts r : T} (e : aRng ts = some r) {ds : List D} (i : InL N ts ds) : ∃ v, opRng ds = some v ∧ In N r v := by
  unfold aRng at e
  split at e
  · rename_i l h
    obtain ⟨x, ys, rfl, ⟨k, rfl, h1, h2⟩, h3⟩ := i
    rw [show ys = [] from h3]
    have main : -(2 ^ 62) ≤ k → k ≤ LIM → opRng [.int k] = some (.list ((List.range k.toNat).map fun (k : Nat) => .int k)) := fun a b => if_pos ⟨a, b⟩
    split at e
    · rename_i q
      cases e
      obtain ⟨q, q3⟩ := a2 q
      obtain ⟨q1, q2⟩ := a2 q
      have q1 := of_decide_eq_true q1
      have q2 := of_decide_eq_true q2
      have q3 := of_decide_eq_true q3
      have : k = l := by omega
      subst this
      refine ⟨_, main (by omega) (by unfold LIM; omega), _, rfl, ?_⟩
      rw [List.range_eq_range']
      exact intsT_ok k.toNat 0
    · split at e
      · rename_i q
        cases e
        obtain ⟨q1, q2⟩ := a2 q
        have q1 := of_decide_eq_true q1
        have q2 := of_decide_eq_true q2
        refine ⟨_, main (by omega) (by unfold LIM; omega), _, rfl, ?_, ?_, ?_⟩
        · simp; omega
        · simp; omega
        · intro x hx
          obtain ⟨j, hj, rfl⟩ := List.mem_map.mp hx
          have := List.mem_range.mp hj
          exact ⟨_, rfl, by omega, by omega⟩
      · cases e
  · rename_i l h l' h'
    obtain ⟨x, ys, rfl, ⟨k, rfl, h1, h2⟩, y, zs, rfl, ⟨m, rfl, h3, h4⟩, h5⟩ := i
    rw [show zs = [] from h5]
    split at e
    · rename_i q
      cases e
      obtain ⟨q, q4⟩ := a2 q
      obtain ⟨q, q3⟩ := a2 q
      obtain ⟨q1, q2⟩ := a2 q
      have q1 := of_decide_eq_true q1
      have q2 := of_decide_eq_true q2
      have q3 := of_decide_eq_true q3
      have q4 := of_decide_eq_true q4
      refine ⟨.list ((List.range (m - k).toNat).map fun (j : Nat) => .int (k + j)), if_pos ⟨by omega, by omega, by omega, by omega, by unfold LIM; omega⟩, _, rfl, ?_, ?_, ?_⟩
      · simp; omega
      · simp; omega
      · intro x hx
        obtain ⟨j, hj, rfl⟩ := List.mem_map.mp hx
        have := List.mem_range.mp hj
        exact ⟨_, rfl, by omega, by omega⟩
    · cases e
  · cases e
theorem items_sq (l : Bool) (xs : List D) : items (sq l xs) = some xs := by cases l <;> rfl
theorem enmT_ok : ∀ {t : T} {xs : List D} (i : Nat), InL N t xs → InL N (enmT i t) (enumD i xs) := by
  intro t
  induction t with
  | nil => intro xs i h; rw [show xs = [] from h]; rfl
  | cons a r _ ih =>
    intro xs i h
    obtain ⟨x, ys, rfl, h1, h2⟩ := h
    exact ⟨_, _, rfl, ⟨_, rfl, _, _, rfl, ⟨_, rfl, Int.le_refl _, Int.le_refl _⟩, x, [], rfl, h1, rfl⟩, ih (i + 1) h2⟩
  | _ => intro xs i h; exact h.elim
theorem enumD_len : ∀ (xs : List D) (i : Nat), (enumD i xs).length = xs.length
  | [], _ => rfl
  | x :: xs, i => by show (enumD (i + 1) xs).length + 1 = _; rw [enumD_len xs]; rfl
theorem enumD_mem : ∀ (xs : List D) (i : Nat) (z : D), z ∈ enumD i xs → ∃ k x, z = .tuple [.int k, x] ∧ (i : Int) ≤ k ∧ k ≤ (i : Int) + xs.length - 1 ∧ x ∈ xs
  | [], _, z, h => by cases h
  | x :: xs, i, z, h => by
    rcases List.mem_cons.mp (show z ∈ PyData.tuple [.int i, x] :: enumD (i + 1) xs from h) with rfl | h
    · exact ⟨_, _, rfl, Int.le_refl _, by simp only [List.length_cons]; omega, List.mem_cons_self⟩
    · obtain ⟨k, y, e, h1, h2, h3⟩ := enumD_mem xs (i + 1) z h
      exact ⟨k, y, e, by omega, by simp only [List.length_cons]; omega, List.mem_cons_of_mem _ h3⟩
theorem aEnm_ok {t r : T} (e : aEnm t = some r) {x : D} (i : In N t x) : ∃ xs, items x = some xs ∧ In N r (.list (enumD 0 xs)) := by
  unfold aEnm at e
  split at e
  · cases e; obtain ⟨xs, rfl, h⟩ := i; exact ⟨xs, rfl, _, rfl, enmT_ok 0 h⟩
  · cases e; obtain ⟨xs, rfl, h⟩ := i; exact ⟨xs, rfl, _, rfl, enmT_ok 0 h⟩
  · split at e
    · rename_i e1
      cases e
      obtain ⟨xs, rfl, h1, h2, h3⟩ := vA_ok e1 i
      refine ⟨xs, items_sq _ _, _, rfl, by rw [enumD_len]; exact h1, by rw [enumD_len]; exact h2, fun z hz => ?_⟩
      obtain ⟨k, y, rfl, g1, g2, g3⟩ := enumD_mem xs 0 z hz
      exact ⟨_, rfl, _, _, rfl, ⟨k, rfl, by omega, by omega⟩, y, [], rfl, h3 y g3, rfl⟩
    · cases e
theorem zipD_len : ∀ xs ys : List D, (zipD xs ys).length = min xs.length ys.length
  | [], ys => by simp [zipD]
  | x :: xs, [] => by simp [zipD]
  | x :: xs, y :: ys => by show (zipD xs ys).length + 1 = _; rw [zipD_len xs ys]; simp only [List.length_cons]; omega
theorem zipD_mem : ∀ (xs ys : List D) (z : D), z ∈ zipD xs ys → ∃ x y, z = .tuple [x, y] ∧ x ∈ xs ∧ y ∈ ys
  | [], ys, z, h => by simp [zipD] at h
  | x :: xs, [], z, h => by simp [zipD] at h
  | x :: xs, y :: ys, z, h => by
    rcases List.mem_cons.mp (show z ∈ PyData.tuple [x, y] :: zipD xs ys from h) with rfl | h
    · exact ⟨_, _, rfl, List.mem_cons_self, List.mem_cons_self⟩
    · obtain ⟨a, b, e, h1, h2⟩ := zipD_mem xs ys z h
      exact ⟨a, b, e, List.mem_cons_of_mem _ h1, List.mem_cons_of_mem _ h2⟩
theorem aZip_ok {t u r : T} (e : aZip t u = some r) {x y : D} (i : In N t x) (j : In N u y) : ∃ xs ys, items x = some xs ∧ items y = some ys ∧ In N r (.list (zipD xs ys)) := by
  unfold aZip at e
  split at e
  · rename_i e1 e2
    cases e
    obtain ⟨xs, rfl, h1, h2, h3⟩ := vA_ok e1 i
    obtain ⟨ys, rfl, h4, h5, h6⟩ := vA_ok e2 j
    refine ⟨xs, ys, items_sq _ _, items_sq _ _, _, rfl, by rw [zipD_len]; omega, by rw [zipD_len]; omega, fun z hz => ?_⟩
    obtain ⟨a, b, rfl, g1, g2⟩ := zipD_mem xs ys z hz
    exact ⟨_, rfl, _, _, rfl, h3 a g1, b, [], rfl, h6 b g2, rfl⟩
  · cases e
theorem aNot_ok {t : T} {x : D} (i : In N t x) : In N (aNot t) (.bool (!tru x)) := by
  unfold aNot
  split
  · rename_i b e
    rw [aTru_ok e i]; rfl
  · exact tb_bl
theorem fls_ok {t : T} {x : D} (i : In N t x) (h : tru x = false) : In N (fls t) x := by
  unfold fls
  split
  · obtain ⟨b, rfl⟩ := i
    cases b
    · rfl
    · cases h
  · cases (show x = _ from i); cases h
  · exact i
theorem trs_ok {t : T} {x : D} (i : In N t x) (h : tru x = true) : In N (trs t) x := by
  unfold trs
  split
  · obtain ⟨b, rfl⟩ := i
    cases b
    · cases h
    · rfl
  · cases (show x = _ from i); cases h
  · exact i
theorem repT_split {u : T} {lo hi : Nat} {xs : List D} (h1 : lo ≤ xs.length) (h2 : xs.length ≤ hi) (h3 : ∀ x ∈ xs, In N u x) : ∃ ys zs, xs = ys ++ zs ∧ InL N (repT u lo) ys ∧ zs.length ≤ hi - lo ∧ ∀ z ∈ zs, In N u z :=
  ⟨xs.take lo, xs.drop lo, (List.take_append_drop lo xs).symm, repT_ok (by rw [List.length_take]; omega) (fun x hx => h3 x (List.mem_of_mem_take hx)), by rw [List.length_drop]; omega, fun z hz => h3 z (List.mem_of_mem_drop hz)⟩
theorem tIt_ok {t us u : T} {n : Nat} (e : tIt t = some (us, n, u)) {x : D} (i : In N t x) : ∃ ys zs, items x = some (ys ++ zs) ∧ InL N us ys ∧ zs.length ≤ n ∧ ∀ z ∈ zs, In N u z := by
  unfold tIt at e
  split at e
  · cases e; obtain ⟨xs, rfl, h⟩ := i; exact ⟨xs, [], by rw [List.append_nil]; rfl, h, Nat.le_refl _, fun z hz => by cases hz⟩
  · cases e; obtain ⟨xs, rfl, h⟩ := i; exact ⟨xs, [], by rw [List.append_nil]; rfl, h, Nat.le_refl _, fun z hz => by cases hz⟩
  · split at e
    · rename_i e1
      split at e
      · cases e
        obtain ⟨xs, rfl, h1, h2, h3⟩ := vA_ok e1 i
        obtain ⟨ys, zs, rfl, g⟩ := repT_split h1 h2 h3
        exact ⟨ys, zs, items_sq _ _, g⟩
      · cases e
    · split at e
      · rename_i e1
        split at e
        · cases e
          obtain ⟨s, rfl, h1, h2⟩ := vR_ok e1 i
          have hl : s.cps.toList.length = s.length := by simp [Str.length]
          obtain ⟨ys, zs, h, g⟩ := repT_split (N := N) (u := .str 1 1) (xs := s.cps.toList.map fun c => .str ⟨#[c]⟩) (by simpa using hl ▸ h1) (by simpa using hl ▸ h2) (fun x hx => by
            obtain ⟨c, _, rfl⟩ := List.mem_map.mp hx
            exact ⟨_, rfl, Nat.le_refl _, Nat.le_refl _⟩)
          exact ⟨ys, zs, by rw [← h]; rfl, g⟩
        · cases e
      · cases e
end
end BV
set_option Elab.async false
set_option linter.all false
set_option maxRecDepth 100000
set_option maxHeartbeats 8000000
/-! BT8: expressions over types: they are right. -/
namespace BV
open PySem
structure CallOk (call : Nat → List D → FRes) (ac acd : Nat → T → Nat → Option (T × Nat)) (tk : Nat) : Prop where
  c : ∀ f ts N t N', ac f ts N = some (t, N') → N ≤ N' ∧ ∀ ds, InL N ts ds → ∃ d o, call f ds = .ret d o ∧ In N' t d
  cd : ∀ f ts N t N', acd f ts N = some (t, N') → N ≤ N' ∧ ∀ dk ds, DkN N dk → InL N ts ds → ∃ d o, call f (dk :: ds) = .ret d o ∧ In N' t d ∧ DkN N' o
  t : ∀ N dk (many : Int), DkN N dk → N ≤ 1000000 → 0 < many → many < 1073741824 → ∃ (w : Nat) (d' : D), call tk [dk, .int many] = .ret (.int w) d' ∧ (w : Int) < many ∧ DkN (N + 1) d'
section
variable {call : Nat → List D → FRes} {hcall : Nat → D → FRes} {cur : D} {ac acd : Nat → T → Nat → Option (T × Nat)} {tk : Nat}
abbrev SE (call : Nat → List D → FRes) (hcall : Nat → D → FRes) (cur : D) (ac acd : Nat → T → Nat → Option (T × Nat)) (tk : Nat) (e : IE) : Prop := ∀ Γ N t N', aE ac acd tk e Γ N = some (t, N') → N ≤ N' ∧ ∀ ρ, InG N Γ ρ → ∃ d ρ', evE call hcall cur e ρ = .ok d ρ' ∧ In N' t d ∧ InG N' Γ ρ'
abbrev SA (call : Nat → List D → FRes) (hcall : Nat → D → FRes) (cur : D) (ac acd : Nat → T → Nat → Option (T × Nat)) (tk : Nat) (e : IE) : Prop := ∀ Γ N t N', aA ac acd tk e Γ N = some (t, N') → N ≤ N' ∧ ∀ ρ, InG N Γ ρ → ∃ ds ρ', evA call hcall cur e ρ = .ok ds ρ' ∧ InL N' t ds ∧ InG N' Γ ρ'
abbrev SN (call : Nat → List D → FRes) (hcall : Nat → D → FRes) (cur : D) (ac acd : Nat → T → Nat → Option (T × Nat)) (tk : Nat) (e : IE) : Prop := ∀ Γ N t N', aAnd ac acd tk e Γ N = some (t, N') → N ≤ N' ∧ ∀ ρ, InG N Γ ρ → ∃ d ρ', evAnd call hcall cur e ρ = .ok d ρ' ∧ In N' t d ∧ InG N' Γ ρ'
abbrev SO (call : Nat → List D → FRes) (hcall : Nat → D → FRes) (cur : D) (ac acd : Nat → T → Nat → Option (T × Nat)) (tk : Nat) (e : IE) : Prop := ∀ Γ N t N', aOr ac acd tk e Γ N = some (t, N') → N ≤ N' ∧ ∀ ρ, InG N Γ ρ → ∃ d ρ', evOr call hcall cur e ρ = .ok d ρ' ∧ In N' t d ∧ InG N' Γ ρ'
/-! comprehensions -/
abbrev FOk (Γw : TS) (f : T → Nat → Option (T × Bool × Nat)) (g : D → Ev → Out (Option D)) : Prop := ∀ u M te y M', f u M = some (te, y, M') → M ≤ M' ∧ ∀ x ρ, In M u x → InG M Γw ρ → ∃ o ρ', g x ρ = .ok o ρ' ∧ InG M' Γw ρ' ∧ (∀ z, o = some z → In M' te z) ∧ (y = true → ∃ z, o = some z)
theorem lc_step {g : D → Ev → Out (Option D)} {x : D} {xs : List D} {ρ ρ1 ρ2 : Ev} {o : Option D} {zs : List D} (h1 : g x ρ = .ok o ρ1) (h2 : lcLoop g xs ρ1 = .ok zs ρ2) : lcLoop g (x :: xs) ρ = .ok (o.toList ++ zs) ρ2 := by
  show (g x ρ).bind _ = _
  rw [h1, Out.bind_ok, h2]
  rfl
theorem lc_app {g : D → Ev → Out (Option D)} {ρ1 ρ2 : Ev} {ws ys : List D} : ∀ {xs : List D} {ρ : Ev} {zs : List D}, lcLoop g xs ρ = .ok zs ρ1 → lcLoop g ys ρ1 = .ok ws ρ2 → lcLoop g (xs ++ ys) ρ = .ok (zs ++ ws) ρ2
  | [], ρ, zs, h1, h2 => by cases h1; exact h2
  | x :: xs, ρ, zs, h1, h2 => by
    obtain ⟨o, ρ3, h3, h4⟩ := bind_ok_inv (show ((g x ρ).bind fun o ρ1 => (lcLoop g xs ρ1).bind fun r ρ2 => .ok (o.toList ++ r) ρ2) = _ from h1)
    obtain ⟨r, ρ4, h5, h6⟩ := bind_ok_inv h4
    cases h6
    rw [List.append_assoc]
    exact lc_step h3 (lc_app h5 h2)
theorem items_ok {Γw : TS} {f : T → Nat → Option (T × Bool × Nat)} {g : D → Ev → Out (Option D)} (hf : FOk Γw f g) : ∀ {us : T} {N N' : Nat} {ts : T} {all : Bool}, aItems f us N = some (ts, all, N') → N ≤ N' ∧ ∀ xs ρ, InL N us xs → InG N Γw ρ →
    ∃ zs ρ', lcLoop g xs ρ = .ok zs ρ' ∧ InG N' Γw ρ' ∧ (∀ z ∈ zs, In N' (joinL jn ts) z) ∧ zs.length ≤ tlen us ∧ (all = true → InL N' ts zs ∧ zs.length = tlen us) := by
  intro us
  induction us with
  | nil =>
    intro N N' ts all e
    cases e
    refine ⟨Nat.le_refl _, fun xs ρ i G => ?_⟩
    rw [show xs = [] from i]
    exact ⟨[], ρ, rfl, G, (fun z hz => by cases hz), Nat.le_refl _, fun _ => ⟨rfl, rfl⟩⟩
  | cons u r _ ih =>
    intro N N' ts all e
    obtain ⟨⟨te, y, M⟩, e1, e2⟩ := Option.bind_eq_some_iff.mp (show ((f u N).bind fun x => (aItems f r x.2.2).map fun y => (T.cons x.1 y.1, x.2.1 && y.2.1, y.2.2)) = some (ts, all, N') from e)
    obtain ⟨⟨ts', all', M'⟩, e3, e4⟩ := Option.map_eq_some_iff.mp e2
    cases e4
    obtain ⟨m1, k1⟩ := hf _ _ _ _ _ e1
    obtain ⟨m2, k2⟩ := ih e3
    refine ⟨Nat.le_trans m1 m2, fun xs ρ i G => ?_⟩
    obtain ⟨x, ys, rfl, i1, i2⟩ := i
    obtain ⟨o, ρ1, h1, G1, h2, h3⟩ := k1 x ρ i1 G
    obtain ⟨zs, ρ2, h4, G2, h5, h6, h7⟩ := k2 ys ρ1 (i2.mono m1) G1
    refine ⟨o.toList ++ zs, ρ2, lc_step h1 h4, G2, fun z hz => ?_, ?_, fun ha => ?_⟩
    · rcases List.mem_append.mp hz with hz | hz
      · refine jn_ok _ _ _ (.inl ((h2 z ?_).mono m2))
        cases o <;> simp_all
      · exact jn_ok _ _ _ (.inr (h5 z hz))
    · have : o.toList.length ≤ 1 := by cases o <;> simp
      rw [List.length_append]
      show _ ≤ tlen r + 1
      omega
    · obtain ⟨a1, a2'⟩ := a2 ha
      obtain ⟨z, rfl⟩ := h3 a1
      obtain ⟨g1, g2⟩ := h7 a2'
      refine ⟨⟨z, zs, rfl, (h2 z rfl).mono m2, g1⟩, ?_⟩
      show (z :: zs).length = tlen r + 1
      rw [List.length_cons, g2]
  | _ => intro N N' ts all e; cases e
theorem more_ok {Γw : TS} {f : T → Nat → Option (T × Bool × Nat)} {g : D → Ev → Out (Option D)} (hf : FOk Γw f g) {u : T} : ∀ {n : Nat} {N N' : Nat} {t : T}, aMore f u n N = some (t, N') → N ≤ N' ∧ ∀ xs ρ, xs.length ≤ n → (∀ x ∈ xs, In N u x) → InG N Γw ρ →
    ∃ zs ρ', lcLoop g xs ρ = .ok zs ρ' ∧ InG N' Γw ρ' ∧ (∀ z ∈ zs, In N' t z) ∧ zs.length ≤ xs.length := by
  intro n
  induction n with
  | zero =>
    intro N N' t e
    cases e
    refine ⟨Nat.le_refl _, fun xs ρ hl i G => ?_⟩
    have : xs = [] := List.length_eq_zero_iff.mp (by omega)
    subst this
    exact ⟨[], ρ, rfl, G, (fun z hz => by cases hz), Nat.le_refl _⟩
  | succ n ih =>
    intro N N' t e
    obtain ⟨⟨te, y, M⟩, e1, e2⟩ := Option.bind_eq_some_iff.mp (show ((f u N).bind fun x => (aMore f u n x.2.2).map fun y => (jn x.1 y.1, y.2)) = some (t, N') from e)
    obtain ⟨⟨t', M'⟩, e3, e4⟩ := Option.map_eq_some_iff.mp e2
    cases e4
    obtain ⟨m1, k1⟩ := hf _ _ _ _ _ e1
    obtain ⟨m2, k2⟩ := ih e3
    refine ⟨Nat.le_trans m1 m2, fun xs ρ hl i G => ?_⟩
    cases xs with
    | nil => exact ⟨[], ρ, rfl, G.mono (Nat.le_trans m1 m2), (fun z hz => by cases hz), Nat.le_refl _⟩
    | cons x ys =>
      obtain ⟨o, ρ1, h1, G1, h2, h3⟩ := k1 x ρ (i x List.mem_cons_self) G
      obtain ⟨zs, ρ2, h4, G2, h5, h6⟩ := k2 ys ρ1 (by simp only [List.length_cons] at hl; omega) (fun y hy => (i y (List.mem_cons_of_mem _ hy)).mono m1) G1
      refine ⟨o.toList ++ zs, ρ2, lc_step h1 h4, G2, fun z hz => ?_, ?_⟩
      · rcases List.mem_append.mp hz with hz | hz
        · refine jn_ok _ _ _ (.inl ((h2 z ?_).mono m2))
          cases o <;> simp_all
        · exact jn_ok _ _ _ (.inr (h5 z hz))
      · have : o.toList.length ≤ 1 := by cases o <;> simp
        rw [List.length_append, List.length_cons]
        omega
theorem aLc_ok {Γw : TS} {f : T → Nat → Option (T × Bool × Nat)} {g : D → Ev → Out (Option D)} (hf : FOk Γw f g) {us u t : T} {n N N' : Nat} (e : aLc f us n u N = some (t, N')) : N ≤ N' ∧ ∀ xs ys ρ, InL N us xs → ys.length ≤ n → (∀ y ∈ ys, In N u y) → InG N Γw ρ →
    ∃ zs ρ', lcLoop g (xs ++ ys) ρ = .ok zs ρ' ∧ InG N' Γw ρ' ∧ In N' t (.list zs) := by
  obtain ⟨⟨ts, all, M⟩, e1, e2⟩ := Option.bind_eq_some_iff.mp (show ((aItems f us N).bind fun x => if (Nat.beq n 0 && x.2.1) = true then some (.lst x.1, x.2.2) else
    (aMore f u n x.2.2).map fun y => (T.seq true (if x.2.1 = true then tlen us else 0) (tlen us + n) (jn (joinL jn x.1) y.1), y.2)) = some (t, N') from e)
  obtain ⟨m1, k1⟩ := items_ok hf e1
  dsimp only at e2
  split at e2
  · rename_i q
    cases e2
    obtain ⟨q1, q2⟩ := a2 q
    have q1 : n = 0 := Nat.eq_of_beq_eq_true q1
    refine ⟨m1, fun xs ys ρ i hl iy G => ?_⟩
    have : ys = [] := List.length_eq_zero_iff.mp (by omega)
    subst this
    obtain ⟨zs, ρ1, h1, G1, _, _, h2⟩ := k1 xs ρ i G
    exact ⟨zs, ρ1, by rw [List.append_nil]; exact h1, G1, zs, rfl, (h2 q2).1⟩
  · obtain ⟨⟨t', M'⟩, e3, e4⟩ := Option.map_eq_some_iff.mp e2
    cases e4
    obtain ⟨m2, k2⟩ := more_ok hf e3
    refine ⟨Nat.le_trans m1 m2, fun xs ys ρ i hl iy G => ?_⟩
    obtain ⟨zs, ρ1, h1, G1, h2, h3, h4⟩ := k1 xs ρ i G
    obtain ⟨ws, ρ2, h5, G2, h6, h7⟩ := k2 ys ρ1 hl (fun y hy => (iy y hy).mono m1) G1
    refine ⟨zs ++ ws, ρ2, lc_app h1 h5, G2, zs ++ ws, rfl, ?_, ?_, fun z hz => ?_⟩
    · rw [List.length_append]
      split
      · rename_i q; have := (h4 q).2; omega
      · omega
    · rw [List.length_append]; omega
    · rcases List.mem_append.mp hz with hz | hz
      · exact jn_ok _ _ _ (.inl ((h2 z hz).mono m2))
      · exact jn_ok _ _ _ (.inr (h6 z hz))
theorem bs {α β : Type} {o : Option α} {f : α → Option β} {b : β} (h : o.bind f = some b) : ∃ a, o = some a ∧ f a = some b := Option.bind_eq_some_iff.mp h
theorem ms {α β : Type} {o : Option α} {f : α → β} {b : β} (h : o.map f = some b) : ∃ a, o = some a ∧ f a = b := Option.map_eq_some_iff.mp h
theorem isDk_ok {N : Nat} {t : T} (h : isDk t = true) {d : D} (i : In N t d) : DkN N d := by
  cases t <;> first | (cases h; done) | exact i
theorem manyT_ok {N : Nat} {t : T} {h : Int} (e : manyT t = some h) {d : D} (i : In N t d) : ∃ k : Int, d = .int k ∧ 0 < k ∧ k ≤ h ∧ h < 1073741824 := by
  cases t <;> first | (cases e; done) | skip
  rename_i lo hi
  have e : (if (decide (0 < lo) && decide (hi < 1073741824)) = true then some hi else none) = some h := e
  split at e
  · rename_i q
    cases e
    obtain ⟨q1, q2⟩ := a2 q
    have q1 := of_decide_eq_true q1
    have q2 := of_decide_eq_true q2
    obtain ⟨k, rfl, h1, h2⟩ := i
    exact ⟨k, rfl, by omega, h2, q2⟩
  · cases e
theorem isInt1_ok {N : Nat} {t : T} {p : Int × Int} (e : isInt1 t = some p) {d : D} (i : In N t d) : ∃ k : Int, d = .int k ∧ p.1 ≤ k ∧ k ≤ p.2 := by
  cases t <;> first | (cases e; done) | skip
  cases e; exact i
theorem set_same {Γ : TS} {N : Nat} {ρ : Ev} {i : Nat} {u : T} (g : InG N Γ ρ) (e : gT Γ i = some u) (hu : isDk u = true) {d : D} (h : DkN N d) : InG N Γ (ρ.set i (some d)) := by
  refine ⟨by rw [List.length_set, g.len], fun j v q => ?_⟩
  rw [gV_set]
  split
  · rename_i z
    rw [← z.1, e] at q
    cases q
    refine ⟨d, rfl, ?_⟩
    cases u <;> first | (cases hu; done) | exact h
  · exact g.at_ j v q
theorem elemT_ok {N : Nat} {t r : T} (e : elemT t = some r) {x : D} (i : In N t x) : ∃ n : Nat, opBlt .len [x] = some (.int n) ∧ 0 < n ∧ n ≤ 1000000 ∧ ∀ w : Nat, w < n → ∃ v, opIdx x (.int w) = some v ∧ In N r v := by
  unfold elemT at e
  split at e
  · rename_i e1
    split at e
    · rename_i q
      cases e
      obtain ⟨q1, q2⟩ := a2 q
      have q1 := bleI q1
      have q2 := bleI q2
      obtain ⟨xs, rfl, h1, h2, h3⟩ := vA_ok e1 i
      refine ⟨xs.length, len_sq _ _, by omega, by omega, fun w hw => ?_⟩
      obtain ⟨k, h6, h7, h8⟩ := atIx_ok (n := xs.length) (i := (w : Int)) (.inl ⟨by omega, by omega⟩)
      exact ⟨xs[k], idx_sq h6 (List.getElem?_eq_getElem h7), h3 _ (List.getElem_mem h7)⟩
    · cases e
  · split at e
    · rename_i e1
      split at e
      · rename_i q
        cases e
        obtain ⟨q1, q2⟩ := a2 q
        have q1 := bleI q1
        have q2 := bleI q2
        obtain ⟨s, rfl, h1, h2⟩ := vR_ok e1 i
        refine ⟨s.length, rfl, by omega, by omega, fun w hw => ?_⟩
        obtain ⟨k, h6, h7, h8⟩ := atIx_ok (n := s.length) (i := (w : Int)) (.inl ⟨by omega, by omega⟩)
        obtain ⟨t, h9, h10⟩ := idx_str h6 h7
        exact ⟨_, h9, t, rfl, by omega, by omega⟩
      · cases e
    · cases e
theorem tkIdx_ok {a i : IE} {v j : Nat} (e : tkIdx tk a i = some (v, j)) : a = .var v ∧ i = .calld tk j (.econs (.blt .len (.econs (.var v) .enil)) .enil) := by
  unfold tkIdx at e
  split at e
  · split at e
    · rename_i q
      cases e
      obtain ⟨q1, q2⟩ := a2 q
      have q1 := of_decide_eq_true q1
      have q2 := of_decide_eq_true q2
      subst q1
      subst q2
      exact ⟨rfl, rfl⟩
    · cases e
  · cases e
theorem hasL_dk {N : Nat} {ρ : Ev} {i : Nat} {d : D} (e : getV ρ i = some d) (h : DkN N d) : hasL ρ i = true := by
  obtain ⟨xs, rfl⟩ := h.isL
  unfold hasL
  rw [e]
theorem idx_tk (hc : CallOk call ac acd tk) {v j N : Nat} {Γ : TS} {t u r : T} (e1 : gT Γ v = some t) (e2 : gT Γ j = some u) (hu : isDk u = true) (hN : N ≤ 1000000) (e3 : elemT t = some r) {ρ : Ev} (G : InG N Γ ρ) :
    ∃ d ρ', evE call hcall cur (.idx (.var v) (.calld tk j (.econs (.blt .len (.econs (.var v) .enil)) .enil))) ρ = .ok d ρ' ∧ In (N + 1) r d ∧ InG (N + 1) Γ ρ' := by
  obtain ⟨x, g1, i1⟩ := G.at_ v t e1
  obtain ⟨dk, g2, i2⟩ := G.at_ j u e2
  have hd := isDk_ok hu i2
  obtain ⟨n, h1, h2, h3, h4⟩ := elemT_ok e3 i1
  obtain ⟨w, dk', h5, h6, h7⟩ := hc.t N dk n hd hN (by omega) (by omega)
  obtain ⟨y, h8, h9⟩ := h4 w (by omega)
  refine ⟨y, ρ.set j (some dk'), ?_, h9.mono (Nat.le_succ _), set_same (G.mono (Nat.le_succ _)) e2 hu h7⟩
  simp only [evE, evA, g1, hasL_dk g2 hd, h1, g2, h5, backD, h8, Out.bind_ok, Out.lift_some, if_true]
theorem turn_ok {own : List Nat} {t : Tg} {c e : IE} {Γ : TS} (hs : t.slots.all (fun i => own.contains i) = true) (sc : SE call hcall cur ac acd tk c) (se : SE call hcall cur ac acd tk e) :
    FOk (wipeT Γ own) (fun u M => (aBind t u (wipeT Γ own)).bind fun Γ1 => (aE ac acd tk c Γ1 M).bind fun k => (match br true c k.1 Γ1 with
        | some Γ2 => aE ac acd tk e Γ2 k.2
        | none => some (.bot, k.2)).map fun (z : T × Nat) => (z.1, aTru k.1 == some true, z.2)) (turnE t own (evE call hcall cur c) (evE call hcall cur e)) := by
  intro u M te y M' q
  obtain ⟨Γ1, q1, q2⟩ := bs q
  obtain ⟨⟨kt, M1⟩, q3, q4⟩ := bs q2
  obtain ⟨⟨zt, M2⟩, q5, q6⟩ := ms q4
  cases q6
  obtain ⟨m1, k1⟩ := sc _ _ _ _ q3
  have m2 : M1 ≤ M2 := by
    dsimp only at q5
    split at q5
    · exact (se _ _ _ _ q5).1
    · cases q5; exact Nat.le_refl _
  refine ⟨Nat.le_trans m1 m2, fun x ρ ix G => ?_⟩
  obtain ⟨ρ1, h1, G1⟩ := aBind_ok q1 ix G
  obtain ⟨kv, ρ2, h2, ik, G2⟩ := k1 ρ1 G1
  cases hk : tru kv with
  | false =>
    refine ⟨none, wipeE ρ2 own, ?_, wipe_bind q1 hs (G2.mono m2), (fun z hz => by cases hz), fun hy => ?_⟩
    · unfold turnE
      rw [h1, Out.lift_some, Out.bind_ok, h2, Out.bind_ok, if_neg (by rw [hk]; simp)]
    · have : aTru kt = some true := by simpa using hy
      rw [aTru_ok this ik] at hk
      cases hk
  | true =>
    obtain ⟨Γ2, h3, G3⟩ := br_ok (b := true) h2 ik hk G1 G2 m1
    dsimp only at q5
    rw [h3] at q5
    obtain ⟨_, k2⟩ := se _ _ _ _ q5
    obtain ⟨zv, ρ3, h4, iz, G4⟩ := k2 ρ2 G3
    refine ⟨some zv, wipeE ρ3 own, ?_, wipe_bind q1 hs (br_sub h3 G4), (fun z hz => by cases hz; exact iz), fun _ => ⟨zv, rfl⟩⟩
    unfold turnE
    rw [h1, Out.lift_some, Out.bind_ok, h2, Out.bind_ok, if_pos hk, h4, Out.bind_ok]
end
end BV
set_option Elab.async false
set_option linter.all false
set_option maxRecDepth 100000
set_option maxHeartbeats 8000000
/-! BT9: expressions over types: the induction. -/
namespace BV
open PySem
section
variable {call : Nat → List D → FRes} {hcall : Nat → D → FRes} {cur : D} {ac acd : Nat → T → Nat → Option (T × Nat)} {tk : Nat}
abbrev S4 (call : Nat → List D → FRes) (hcall : Nat → D → FRes) (cur : D) (ac acd : Nat → T → Nat → Option (T × Nat)) (tk : Nat) (e : IE) : Prop := SE call hcall cur ac acd tk e ∧ SA call hcall cur ac acd tk e ∧ SN call hcall cur ac acd tk e ∧ SO call hcall cur ac acd tk e
/-- of an expression alone -/
theorem s4 {e : IE} (h : SE call hcall cur ac acd tk e) (ha : ∀ Γ N, aA ac acd tk e Γ N = none) (hn : ∀ Γ N, aAnd ac acd tk e Γ N = none) (ho : ∀ Γ N, aOr ac acd tk e Γ N = none) : S4 call hcall cur ac acd tk e :=
  ⟨h, fun Γ N t N' q => (by rw [ha] at q; cases q), fun Γ N t N' q => (by rw [hn] at q; cases q), fun Γ N t N' q => (by rw [ho] at q; cases q)⟩
theorem op1 {a : IE} {f : T → Option T} {g : D → Option D} {e : IE} (h : SE call hcall cur ac acd tk a) (hf : ∀ N, Op1 N f g) (he : ∀ Γ N, aE ac acd tk e Γ N = (aE ac acd tk a Γ N).bind fun x => (f x.1).map fun t => (t, x.2))
    (hv : ∀ ρ, evE call hcall cur e ρ = (evE call hcall cur a ρ).bind fun x ρ => Out.lift (g x) ρ) : SE call hcall cur ac acd tk e := by
  intro Γ N t N' q
  rw [he] at q
  obtain ⟨⟨ta, M⟩, q1, q2⟩ := bs q
  obtain ⟨r, q3, q4⟩ := ms q2
  cases q4
  obtain ⟨m, k⟩ := h _ _ _ _ q1
  refine ⟨m, fun ρ G => ?_⟩
  obtain ⟨d, ρ1, h1, i1, G1⟩ := k ρ G
  obtain ⟨v, h2, i2⟩ := hf _ _ _ q3 d i1
  exact ⟨v, ρ1, by rw [hv, h1, Out.bind_ok, h2, Out.lift_some], i2, G1⟩
theorem op2 {a b : IE} {f : T → T → Option T} {g : D → D → Option D} {e : IE} (ha : SE call hcall cur ac acd tk a) (hb : SE call hcall cur ac acd tk b) (hf : ∀ N, Op2 N f g) (he : ∀ Γ N, aE ac acd tk e Γ N = (aE ac acd tk a Γ N).bind fun x => (aE ac acd tk b Γ x.2).bind fun y => (f x.1 y.1).map fun t => (t, y.2))
    (hv : ∀ ρ, evE call hcall cur e ρ = (evE call hcall cur a ρ).bind fun x ρ => (evE call hcall cur b ρ).bind fun y ρ => Out.lift (g x y) ρ) : SE call hcall cur ac acd tk e := by
  intro Γ N t N' q
  rw [he] at q
  obtain ⟨⟨ta, M⟩, q1, q2⟩ := bs q
  obtain ⟨⟨tb, M'⟩, q3, q4⟩ := bs q2
  obtain ⟨r, q5, q6⟩ := ms q4
  cases q6
  obtain ⟨m1, k1⟩ := ha _ _ _ _ q1
  obtain ⟨m2, k2⟩ := hb _ _ _ _ q3
  refine ⟨Nat.le_trans m1 m2, fun ρ G => ?_⟩
  obtain ⟨x, ρ1, h1, i1, G1⟩ := k1 ρ G
  obtain ⟨y, ρ2, h2, i2, G2⟩ := k2 ρ1 G1
  obtain ⟨v, h3, i3⟩ := hf _ _ _ _ q5 x y (i1.mono m2) i2
  exact ⟨v, ρ2, by rw [hv, h1, Out.bind_ok, h2, Out.bind_ok, h3, Out.lift_some], i3, G2⟩
/-- an optional part of a slice -/
theorem part_ok {e : IE} (h : SE call hcall cur ac acd tk e) {Γ : TS} {N N' : Nat} {r : Option T} (q : (if isNop e = true then some (none, N) else (aE ac acd tk e Γ N).bind fun y => (isInt1 y.1).map fun p => (some (T.int p.1 p.2), y.2)) = some (r, N')) :
    N ≤ N' ∧ ∀ ρ, InG N Γ ρ → ∃ o ρ', (if isNop e = true then .ok none ρ else (evE call hcall cur e ρ).bind fun y ρ => Out.lift (partOf y) ρ) = Out.ok o ρ' ∧ InO N' r o ∧ InG N' Γ ρ' := by
  split at q
  · rename_i hn
    cases q
    refine ⟨Nat.le_refl _, fun ρ G => ⟨none, ρ, by rw [if_pos hn], trivial, G⟩⟩
  · rename_i hn
    obtain ⟨⟨ty, M⟩, q1, q2⟩ := bs q
    obtain ⟨p, q3, q4⟩ := ms q2
    cases q4
    obtain ⟨m, k⟩ := h _ _ _ _ q1
    refine ⟨m, fun ρ G => ?_⟩
    obtain ⟨y, ρ1, h1, i1, G1⟩ := k ρ G
    obtain ⟨j, rfl, h2, h3⟩ := isInt1_ok q3 i1
    exact ⟨some j, ρ1, by rw [if_neg hn, h1, Out.bind_ok]; rfl, ⟨j, rfl, h2, h3⟩, G1⟩
theorem slc_op {tl th : Option T} {lo hi : Option Int} {N : Nat} (il : InO N tl lo) (ih : InO N th hi) : Op1 N (fun t => aSlc t tl th) (fun x => opSlc x lo hi) := fun a r e d i => aSlc_ok e i il ih
theorem aE_ok (hc : CallOk call ac acd tk) : ∀ e : IE, S4 call hcall cur ac acd tk e := by
  intro e
  induction e with
  | var i =>
    refine s4 (fun Γ N t N' q => ?_) (fun _ _ => rfl) (fun _ _ => rfl) (fun _ _ => rfl)
    obtain ⟨u, q1, q2⟩ := ms (show ((gT Γ i).map fun t => (t, N)) = some (t, N') from q)
    cases q2
    refine ⟨Nat.le_refl _, fun ρ G => ?_⟩
    obtain ⟨d, h1, h2⟩ := G.at_ i _ q1
    exact ⟨d, ρ, by rw [evE, h1, Out.lift_some], h2, G⟩
  | cst d =>
    refine s4 (fun Γ N t N' q => ?_) (fun _ _ => rfl) (fun _ _ => rfl) (fun _ _ => rfl)
    obtain ⟨u, q1, q2⟩ := ms (show ((ofD d).map fun t => (t, N)) = some (t, N') from q)
    cases q2
    exact ⟨Nat.le_refl _, fun ρ G => ⟨d, ρ, rfl, ofD_ok d q1, G⟩⟩
  | glb x d =>
    refine s4 (fun Γ N t N' q => ?_) (fun _ _ => rfl) (fun _ _ => rfl) (fun _ _ => rfl)
    obtain ⟨u, q1, q2⟩ := ms (show ((ofD d).map fun t => (t, N)) = some (t, N') from q)
    cases q2
    exact ⟨Nat.le_refl _, fun ρ G => ⟨d, ρ, rfl, ofD_ok d q1, G⟩⟩
  | enil =>
    refine ⟨fun Γ N t N' q => (by cases q), fun Γ N t N' q => ?_, fun Γ N t N' q => (by cases q), fun Γ N t N' q => (by cases q)⟩
    cases q
    exact ⟨Nat.le_refl _, fun ρ G => ⟨[], ρ, rfl, rfl, G⟩⟩
  | econs a r iha ihr =>
    refine ⟨fun Γ N t N' q => (by cases q), fun Γ N t N' q => ?_, ?_, ?_⟩
    · obtain ⟨⟨ta, M⟩, q1, q2⟩ := bs (show ((aE ac acd tk a Γ N).bind fun x => (aA ac acd tk r Γ x.2).map fun y => (T.cons x.1 y.1, y.2)) = some (t, N') from q)
      obtain ⟨⟨tr, M'⟩, q3, q4⟩ := ms q2
      cases q4
      obtain ⟨m1, k1⟩ := iha.1 _ _ _ _ q1
      obtain ⟨m2, k2⟩ := ihr.2.1 _ _ _ _ q3
      refine ⟨Nat.le_trans m1 m2, fun ρ G => ?_⟩
      obtain ⟨x, ρ1, h1, i1, G1⟩ := k1 ρ G
      obtain ⟨ys, ρ2, h2, i2, G2⟩ := k2 ρ1 G1
      exact ⟨x :: ys, ρ2, by rw [evA, h1, Out.bind_ok, h2]; rfl, ⟨x, ys, rfl, i1.mono m2, i2⟩, G2⟩
    · by_cases hr : r = .enil
      · subst hr
        intro Γ N t N' q
        exact iha.1 Γ N t N' (by rw [aAnd] at q; exact q)
      · intro Γ N t N' q
        have e1 : aAnd ac acd tk (.econs a r) Γ N = (aE ac acd tk a Γ N).bind fun x => (match br true a x.1 Γ with
          | some Γ' => aAnd ac acd tk r Γ' x.2
          | none => some (.bot, x.2)).map fun (y : T × Nat) => (if aTru x.1 = some true then y.1 else jn (fls x.1) y.1, y.2) := by
          cases r <;> first | exact absurd rfl hr | rfl
        have e2 : ∀ ρ, evAnd call hcall cur (.econs a r) ρ = (evE call hcall cur a ρ).bind fun x ρ => if tru x = true then evAnd call hcall cur r ρ else .ok x ρ := by
          cases r <;> first | exact absurd rfl hr | exact fun _ => rfl
        rw [e1] at q
        obtain ⟨⟨ta, M⟩, q1, q2⟩ := bs q
        obtain ⟨⟨tr, M'⟩, q3, q4⟩ := ms q2
        cases q4
        obtain ⟨m1, k1⟩ := iha.1 _ _ _ _ q1
        dsimp only at q3
        have m2 : M ≤ M' := by
          split at q3
          · exact (ihr.2.2.1 _ _ _ _ q3).1
          · cases q3; exact Nat.le_refl _
        refine ⟨Nat.le_trans m1 m2, fun ρ G => ?_⟩
        obtain ⟨x, ρ1, h1, i1, G1⟩ := k1 ρ G
        cases hx : tru x with
        | true =>
          obtain ⟨Γ', h2, G2⟩ := br_ok (b := true) h1 i1 hx G G1 m1
          rw [h2] at q3
          obtain ⟨_, k2⟩ := ihr.2.2.1 _ _ _ _ q3
          obtain ⟨y, ρ2, h3, i3, G3⟩ := k2 ρ1 G2
          refine ⟨y, ρ2, by rw [e2, h1, Out.bind_ok, if_pos hx, h3], ?_, br_sub h2 G3⟩
          split
          · exact i3
          · exact jn_ok _ _ _ (.inr i3)
        | false =>
          refine ⟨x, ρ1, by rw [e2, h1, Out.bind_ok, if_neg (by rw [hx]; simp)], ?_, G1.mono m2⟩
          split
          · rename_i z
            rw [aTru_ok z i1] at hx
            cases hx
          · exact jn_ok _ _ _ (.inl ((fls_ok i1 hx).mono m2))
    · by_cases hr : r = .enil
      · subst hr
        intro Γ N t N' q
        exact iha.1 Γ N t N' (by rw [aOr] at q; exact q)
      · intro Γ N t N' q
        have e1 : aOr ac acd tk (.econs a r) Γ N = (aE ac acd tk a Γ N).bind fun x => (match br false a x.1 Γ with
          | some Γ' => aOr ac acd tk r Γ' x.2
          | none => some (.bot, x.2)).map fun (y : T × Nat) => (if aTru x.1 = some false then y.1 else jn (trs x.1) y.1, y.2) := by
          cases r <;> first | exact absurd rfl hr | rfl
        have e2 : ∀ ρ, evOr call hcall cur (.econs a r) ρ = (evE call hcall cur a ρ).bind fun x ρ => if tru x = true then .ok x ρ else evOr call hcall cur r ρ := by
          cases r <;> first | exact absurd rfl hr | exact fun _ => rfl
        rw [e1] at q
        obtain ⟨⟨ta, M⟩, q1, q2⟩ := bs q
        obtain ⟨⟨tr, M'⟩, q3, q4⟩ := ms q2
        cases q4
        obtain ⟨m1, k1⟩ := iha.1 _ _ _ _ q1
        dsimp only at q3
        have m2 : M ≤ M' := by
          split at q3
          · exact (ihr.2.2.2 _ _ _ _ q3).1
          · cases q3; exact Nat.le_refl _
        refine ⟨Nat.le_trans m1 m2, fun ρ G => ?_⟩
        obtain ⟨x, ρ1, h1, i1, G1⟩ := k1 ρ G
        cases hx : tru x with
        | false =>
          obtain ⟨Γ', h2, G2⟩ := br_ok (b := false) h1 i1 hx G G1 m1
          rw [h2] at q3
          obtain ⟨_, k2⟩ := ihr.2.2.2 _ _ _ _ q3
          obtain ⟨y, ρ2, h3, i3, G3⟩ := k2 ρ1 G2
          refine ⟨y, ρ2, by rw [e2, h1, Out.bind_ok, if_neg (by rw [hx]; simp), h3], ?_, br_sub h2 G3⟩
          split
          · exact i3
          · exact jn_ok _ _ _ (.inr i3)
        | true =>
          refine ⟨x, ρ1, by rw [e2, h1, Out.bind_ok, if_pos hx], ?_, G1.mono m2⟩
          split
          · rename_i z
            rw [aTru_ok z i1] at hx
            cases hx
          · exact jn_ok _ _ _ (.inl ((trs_ok i1 hx).mono m2))
  | tup es ih =>
    refine s4 (fun Γ N t N' q => ?_) (fun _ _ => rfl) (fun _ _ => rfl) (fun _ _ => rfl)
    obtain ⟨⟨ts, M⟩, q1, q2⟩ := ms (show ((aA ac acd tk es Γ N).map fun r => (T.tup r.1, r.2)) = some (t, N') from q)
    cases q2
    obtain ⟨m, k⟩ := ih.2.1 _ _ _ _ q1
    refine ⟨m, fun ρ G => ?_⟩
    obtain ⟨xs, ρ1, h1, i1, G1⟩ := k ρ G
    exact ⟨.tuple xs, ρ1, by rw [evE, h1, Out.bind_ok], ⟨xs, rfl, i1⟩, G1⟩
  | lst es ih =>
    refine s4 (fun Γ N t N' q => ?_) (fun _ _ => rfl) (fun _ _ => rfl) (fun _ _ => rfl)
    obtain ⟨⟨ts, M⟩, q1, q2⟩ := ms (show ((aA ac acd tk es Γ N).map fun r => (T.lst r.1, r.2)) = some (t, N') from q)
    cases q2
    obtain ⟨m, k⟩ := ih.2.1 _ _ _ _ q1
    refine ⟨m, fun ρ G => ?_⟩
    obtain ⟨xs, ρ1, h1, i1, G1⟩ := k ρ G
    exact ⟨.list xs, ρ1, by rw [evE, h1, Out.bind_ok], ⟨xs, rfl, i1⟩, G1⟩
  | bin o a b iha ihb => exact s4 (op2 iha.1 ihb.1 (fun N => map2_ok (aBin_ok o)) (fun _ _ => rfl) (fun _ => rfl)) (fun _ _ => rfl) (fun _ _ => rfl) (fun _ _ => rfl)
  | neg a ih =>
    refine s4 (op1 (g := fun x => match x with
      | .int i => some (.int (-i))
      | _ => none) ih.1 (fun N => map1_ok (f := aNeg) fun a r e d i => ?_) (fun _ _ => rfl) (fun ρ => ?_)) (fun _ _ => rfl) (fun _ _ => rfl) (fun _ _ => rfl)
    · cases a <;> first | (cases e; done) | skip
      cases e
      obtain ⟨k, rfl, h1, h2⟩ := i
      exact ⟨_, rfl, _, rfl, by omega, by omega⟩
    · rw [evE]
      congr 1
      funext x ρ
      cases x <;> rfl
  | cmp o a b iha ihb =>
    refine s4 (op2 (g := fun x y => (opCmp o x y).map PyData.bool) iha.1 ihb.1 (fun N => map2_ok (opC2 (aCmp_ok o))) (fun _ _ => rfl) (fun _ => rfl)) (fun _ _ => rfl) (fun _ _ => rfl) (fun _ _ => rfl)
  | cmp3 o p a b c iha ihb ihc =>
    refine s4 (fun Γ N t N' q => ?_) (fun _ _ => rfl) (fun _ _ => rfl) (fun _ _ => rfl)
    obtain ⟨⟨ta, M⟩, q1, q⟩ := bs (show ((aE ac acd tk a Γ N).bind fun x => (aE ac acd tk b Γ x.2).bind fun y => (map2 (aCmp o) x.1 y.1).bind fun _ => (aE ac acd tk c Γ y.2).bind fun z => (map2 (aCmp p) y.1 z.1).map fun _ => (T.bl, z.2)) = some (t, N') from q)
    obtain ⟨⟨tb, M1⟩, q2, q⟩ := bs q
    obtain ⟨r1, q3, q⟩ := bs q
    obtain ⟨⟨tc, M2⟩, q4, q⟩ := bs q
    obtain ⟨r2, q5, q6⟩ := ms q
    cases q6
    obtain ⟨m1, k1⟩ := iha.1 _ _ _ _ q1
    obtain ⟨m2, k2⟩ := ihb.1 _ _ _ _ q2
    obtain ⟨m3, k3⟩ := ihc.1 _ _ _ _ q4
    refine ⟨Nat.le_trans m1 (Nat.le_trans m2 m3), fun ρ G => ?_⟩
    obtain ⟨x, ρ1, h1, i1, G1⟩ := k1 ρ G
    obtain ⟨y, ρ2, h2, i2, G2⟩ := k2 ρ1 G1
    obtain ⟨z, ρ3, h3, i3, G3⟩ := k3 ρ2 G2
    obtain ⟨v, e1, _⟩ := map2_ok (opC2 (aCmp_ok o)) _ _ _ q3 x y (i1.mono m2) i2
    obtain ⟨w, e2, _⟩ := map2_ok (opC2 (aCmp_ok p)) _ _ _ q5 y z (i2.mono m3) i3
    obtain ⟨v', e3, rfl⟩ := ms e1
    obtain ⟨w', e4, rfl⟩ := ms e2
    cases v' with
    | true => exact ⟨.bool w', ρ3, by rw [evE, h1, Out.bind_ok, h2, Out.bind_ok, e3, Out.lift_some, Out.bind_ok, if_pos rfl, h3, Out.bind_ok, e4]; rfl, tb_bl, G3⟩
    | false => exact ⟨.bool false, ρ2, by rw [evE, h1, Out.bind_ok, h2, Out.bind_ok, e3, Out.lift_some, Out.bind_ok, if_neg (by simp)], tb_bl, G2.mono m3⟩
  | and es ih => exact s4 (fun Γ N t N' q => ih.2.2.1 Γ N t N' q) (fun _ _ => rfl) (fun _ _ => rfl) (fun _ _ => rfl)
  | or es ih => exact s4 (fun Γ N t N' q => ih.2.2.2 Γ N t N' q) (fun _ _ => rfl) (fun _ _ => rfl) (fun _ _ => rfl)
  | not a ih =>
    refine s4 (fun Γ N t N' q => ?_) (fun _ _ => rfl) (fun _ _ => rfl) (fun _ _ => rfl)
    obtain ⟨⟨ta, M⟩, q1, q2⟩ := ms (show ((aE ac acd tk a Γ N).map fun x => (aNot x.1, x.2)) = some (t, N') from q)
    cases q2
    obtain ⟨m, k⟩ := ih.1 _ _ _ _ q1
    refine ⟨m, fun ρ G => ?_⟩
    obtain ⟨x, ρ1, h1, i1, G1⟩ := k ρ G
    exact ⟨_, ρ1, by rw [evE, h1, Out.bind_ok], aNot_ok i1, G1⟩
  | ife c a b ihc iha ihb =>
    refine s4 (fun Γ N t N' q => ?_) (fun _ _ => rfl) (fun _ _ => rfl) (fun _ _ => rfl)
    rw [aE] at q
    obtain ⟨⟨tc, M⟩, q1, q⟩ := bs q
    obtain ⟨⟨ta, M1⟩, q2, q⟩ := bs q
    obtain ⟨⟨tb, M2⟩, q3, q4⟩ := ms q
    cases q4
    obtain ⟨m1, k1⟩ := ihc.1 _ _ _ _ q1
    dsimp only at q2 q3
    have m2 : M ≤ M1 := by
      split at q2
      · exact (iha.1 _ _ _ _ q2).1
      · cases q2; exact Nat.le_refl _
    have m3 : M1 ≤ M2 := by
      split at q3
      · exact (ihb.1 _ _ _ _ q3).1
      · cases q3; exact Nat.le_refl _
    refine ⟨Nat.le_trans m1 (Nat.le_trans m2 m3), fun ρ G => ?_⟩
    obtain ⟨x, ρ1, h1, i1, G1⟩ := k1 ρ G
    cases hx : tru x with
    | true =>
      obtain ⟨Γ', h2, G2⟩ := br_ok (b := true) h1 i1 hx G G1 m1
      rw [h2] at q2
      obtain ⟨_, k2⟩ := iha.1 _ _ _ _ q2
      obtain ⟨y, ρ2, h3, i3, G3⟩ := k2 ρ1 G2
      exact ⟨y, ρ2, by rw [evE, h1, Out.bind_ok, if_pos hx, h3], jn_ok _ _ _ (.inl (i3.mono m3)), (br_sub h2 G3).mono m3⟩
    | false =>
      obtain ⟨Γ', h2, G2⟩ := br_ok (b := false) h1 i1 hx G G1 m1
      rw [h2] at q3
      obtain ⟨_, k2⟩ := ihb.1 _ _ _ _ q3
      obtain ⟨y, ρ2, h3, i3, G3⟩ := k2 ρ1 (G2.mono m2)
      exact ⟨y, ρ2, by rw [evE, h1, Out.bind_ok, if_neg (by rw [hx]; simp), h3], jn_ok _ _ _ (.inr i3), br_sub h2 G3⟩
  | idx a i iha ihi =>
    refine s4 (fun Γ N t N' q => ?_) (fun _ _ => rfl) (fun _ _ => rfl) (fun _ _ => rfl)
    cases h : tkIdx tk a i with
    | some p =>
      obtain ⟨v, j⟩ := p
      have q : ((gT Γ v).bind fun t => (gT Γ j).bind fun u => if (isDk u && Nat.ble N 1000000) = true then (elemT t).map fun e => (e, N + 1) else none) = some (t, N') := by
        rw [aE, h] at q; exact q
      obtain ⟨t1, q1, q⟩ := bs q
      obtain ⟨u, q2, q⟩ := bs q
      split at q
      · rename_i c
        obtain ⟨e, q3, q4⟩ := ms q
        cases q4
        obtain ⟨c3, c2⟩ := a2 c
        obtain ⟨e1, e2⟩ := tkIdx_ok h
        subst e1
        subst e2
        exact ⟨Nat.le_succ _, fun ρ G => idx_tk hc q1 q2 c3 (bleI c2) q3 G⟩
      · cases q
    | none =>
      have e1 : ∀ Γ N, aE ac acd tk (.idx a i) Γ N = (aE ac acd tk a Γ N).bind fun x => (aE ac acd tk i Γ x.2).bind fun y => (map2 aIdx x.1 y.1).map fun t => (t, y.2) := fun Γ N => by
        rw [aE, h]
      exact op2 (f := map2 aIdx) (g := opIdx) (e := .idx a i) iha.1 ihi.1 (fun N => map2_ok aIdx_ok) e1 (fun _ => rfl) Γ N t N' q
  | slc a lo hi iha ihl ihh =>
    refine s4 (fun Γ N t N' q => ?_) (fun _ _ => rfl) (fun _ _ => rfl) (fun _ _ => rfl)
    obtain ⟨⟨ta, M⟩, q1, q⟩ := bs (show ((aE ac acd tk a Γ N).bind fun x => (if isNop lo = true then some (none, x.2) else (aE ac acd tk lo Γ x.2).bind fun y => (isInt1 y.1).map fun p => (some (T.int p.1 p.2), y.2)).bind fun l =>
      (if isNop hi = true then some (none, l.2) else (aE ac acd tk hi Γ l.2).bind fun y => (isInt1 y.1).map fun p => (some (T.int p.1 p.2), y.2)).bind fun h => (map1 (fun t => aSlc t l.1 h.1) x.1).map fun t => (t, h.2)) = some (t, N') from q)
    obtain ⟨⟨tl, M1⟩, q2, q⟩ := bs q
    obtain ⟨⟨th, M2⟩, q3, q⟩ := bs q
    obtain ⟨r, q4, q5⟩ := ms q
    cases q5
    obtain ⟨m1, k1⟩ := iha.1 _ _ _ _ q1
    obtain ⟨m2, k2⟩ := part_ok ihl.1 q2
    obtain ⟨m3, k3⟩ := part_ok ihh.1 q3
    refine ⟨Nat.le_trans m1 (Nat.le_trans m2 m3), fun ρ G => ?_⟩
    obtain ⟨x, ρ1, h1, i1, G1⟩ := k1 ρ G
    obtain ⟨l, ρ2, h2, i2, G2⟩ := k2 ρ1 G1
    obtain ⟨h, ρ3, h3, i3, G3⟩ := k3 ρ2 G2
    have i2' : InO M2 tl l := by
      cases tl <;> cases l <;> first | exact i2 | exact In.mono i2 m3
    obtain ⟨v, e1, e2⟩ := map1_ok (slc_op i2' i3) _ _ q4 x (i1.mono (Nat.le_trans m2 m3))
    have e1 : opSlc x l h = some v := e1
    exact ⟨v, ρ3, by rw [evE, h1, Out.bind_ok, h2, Out.bind_ok, h3, Out.bind_ok, e1, Out.lift_some], e2, G3⟩
  | rev a ih => exact s4 (op1 ih.1 (fun N => map1_ok aRev_ok) (fun _ _ => rfl) (fun _ => rfl)) (fun _ _ => rfl) (fun _ _ => rfl) (fun _ _ => rfl)
  | nop =>
    refine s4 (fun Γ N t N' q => ?_) (fun _ _ => rfl) (fun _ _ => rfl) (fun _ _ => rfl)
    cases q
    exact ⟨Nat.le_refl _, fun ρ G => ⟨.none, ρ, rfl, rfl, G⟩⟩
  | dct =>
    refine s4 (fun Γ N t N' q => ?_) (fun _ _ => rfl) (fun _ _ => rfl) (fun _ _ => rfl)
    cases q
    exact ⟨Nat.le_refl _, fun ρ G => ⟨.dict [], ρ, rfl, rfl, G⟩⟩
  | bad => exact s4 (fun Γ N t N' q => (by cases q)) (fun _ _ => rfl) (fun _ _ => rfl) (fun _ _ => rfl)
  | blt b es ih =>
    refine s4 (fun Γ N t N' q => ?_) (fun _ _ => rfl) (fun _ _ => rfl) (fun _ _ => rfl)
    obtain ⟨⟨ts, M⟩, q1, q⟩ := bs (show ((aA ac acd tk es Γ N).bind fun r => (aBlt b r.1).map fun t => (t, r.2)) = some (t, N') from q)
    obtain ⟨r, q2, q3⟩ := ms q
    cases q3
    obtain ⟨m, k⟩ := ih.2.1 _ _ _ _ q1
    refine ⟨m, fun ρ G => ?_⟩
    obtain ⟨xs, ρ1, h1, i1, G1⟩ := k ρ G
    obtain ⟨v, e1, e2⟩ := aBlt_ok q2 i1
    exact ⟨v, ρ1, by rw [evE, h1, Out.bind_ok, e1, Out.lift_some], e2, G1⟩
  | mth m o es iho ihes =>
    refine s4 (fun Γ N t N' q => ?_) (fun _ _ => rfl) (fun _ _ => rfl) (fun _ _ => rfl)
    obtain ⟨⟨to, M⟩, q1, q⟩ := bs (show ((aE ac acd tk o Γ N).bind fun x => (aA ac acd tk es Γ x.2).bind fun r => (aMth m x.1 r.1).map fun t => (t, r.2)) = some (t, N') from q)
    obtain ⟨⟨ts, M1⟩, q2, q⟩ := bs q
    obtain ⟨r, q3, q4⟩ := ms q
    cases q4
    obtain ⟨m1, k1⟩ := iho.1 _ _ _ _ q1
    obtain ⟨m2, k2⟩ := ihes.2.1 _ _ _ _ q2
    refine ⟨Nat.le_trans m1 m2, fun ρ G => ?_⟩
    obtain ⟨x, ρ1, h1, i1, G1⟩ := k1 ρ G
    obtain ⟨xs, ρ2, h2, i2, G2⟩ := k2 ρ1 G1
    obtain ⟨hT, v, e1, e2⟩ := aMth_ok q3 (i1.mono m2) i2
    exact ⟨v, ρ2, by rw [evE, h1, Out.bind_ok, if_pos hT, h2, Out.bind_ok, e1, Out.lift_some], e2, G2⟩
  | isi a ts ih =>
    refine s4 (op1 (f := map1 (aIsi ts)) (g := fun d => some (.bool (ts.any fun y => isTy y d))) ih.1 (fun N => map1_ok fun a r e d i => ?_) (fun _ _ => rfl) (fun _ => rfl)) (fun _ _ => rfl) (fun _ _ => rfl) (fun _ _ => rfl)
    obtain ⟨v, e1, e2⟩ := aIsi_ok ts a .non r e d .none i rfl
    cases e1
    exact ⟨_, rfl, e2⟩
  | isx c => exact s4 (fun Γ N t N' q => (by cases q)) (fun _ _ => rfl) (fun _ _ => rfl) (fun _ _ => rfl)
  | fld x => exact s4 (fun Γ N t N' q => (by cases q)) (fun _ _ => rfl) (fun _ _ => rfl) (fun _ _ => rfl)
  | hot f => exact s4 (fun Γ N t N' q => (by cases q)) (fun _ _ => rfl) (fun _ _ => rfl) (fun _ _ => rfl)
  | call f es ih =>
    refine s4 (fun Γ N t N' q => ?_) (fun _ _ => rfl) (fun _ _ => rfl) (fun _ _ => rfl)
    obtain ⟨⟨ts, M⟩, q1, q2⟩ := bs (show ((aA ac acd tk es Γ N).bind fun r => ac f r.1 r.2) = some (t, N') from q)
    obtain ⟨m, k⟩ := ih.2.1 _ _ _ _ q1
    obtain ⟨m2, k2⟩ := hc.c _ _ _ _ _ q2
    refine ⟨Nat.le_trans m m2, fun ρ G => ?_⟩
    obtain ⟨xs, ρ1, h1, i1, G1⟩ := k ρ G
    obtain ⟨d, o, h2, i2⟩ := k2 xs i1
    exact ⟨d, ρ1, by rw [evE, h1, Out.bind_ok, h2]; rfl, i2, G1.mono m2⟩
  | calld f i es ih =>
    refine s4 (fun Γ N t N' q => ?_) (fun _ _ => rfl) (fun _ _ => rfl) (fun _ _ => rfl)
    obtain ⟨u, q1, qa⟩ := bs (show ((gT Γ i).bind fun u => if isDk u = true then (aA ac acd tk es Γ N).bind fun r => (if f = tk then (match r.1 with
      | .cons m .nil => if Nat.ble r.2 1000000 = true then (manyT m).map fun h => (T.int 0 (h - 1), r.2 + 1) else none
      | _ => none) else acd f r.1 r.2) else none) = some (t, N') from q)
    clear q
    split at qa
    · rename_i hu
      obtain ⟨⟨ts, M⟩, q2, qb⟩ := bs qa
      clear qa
      obtain ⟨m, k⟩ := ih.2.1 _ _ _ _ q2
      dsimp only at qb
      have st : ∀ {ρ : Ev} {xs : List D} {ρ1 : Ev} {d o : D}, InG N Γ ρ → evA call hcall cur es ρ = .ok xs ρ1 → InG M Γ ρ1 → (∀ dk, getV ρ1 i = some dk → call f (dk :: xs) = .ret d o) → evE call hcall cur (.calld f i es) ρ = .ok d (ρ1.set i (some o)) := by
        intro ρ xs ρ1 d o G h1 G1 hcall'
        obtain ⟨dk0, g0, i0⟩ := G.at_ i u q1
        obtain ⟨dk1, g1, i1⟩ := G1.at_ i u q1
        rw [evE, if_pos (hasL_dk g0 (isDk_ok hu i0)), h1, Out.bind_ok, g1, Out.lift_some, Out.bind_ok, hcall' dk1 g1]
        rfl
      split at qb
      · rename_i hf
        subst hf
        split at qb
        · split at qb
          · rename_i hM
            obtain ⟨h, q3, q4⟩ := ms qb
            cases q4
            refine ⟨Nat.le_trans m (Nat.le_succ _), fun ρ G => ?_⟩
            obtain ⟨xs, ρ1, h1, i1, G1⟩ := k ρ G
            obtain ⟨x, ys, rfl, j1, j2⟩ := i1
            rw [show ys = [] from j2] at h1
            obtain ⟨mm, rfl, g1, g2, g3⟩ := manyT_ok q3 j1
            obtain ⟨dk1, g4, i4⟩ := G1.at_ i u q1
            obtain ⟨w, dk2, h5, h6, h7⟩ := hc.t M dk1 mm (isDk_ok hu i4) (bleI hM) g1 (by omega)
            exact ⟨_, _, st G h1 G1 (fun dk e => by rw [g4] at e; cases e; exact h5), ⟨w, rfl, by omega, by omega⟩, set_same (G1.mono (Nat.le_succ _)) q1 hu h7⟩
          · cases qb
        · cases qb
      · obtain ⟨m2, k2⟩ := hc.cd _ _ _ _ _ qb
        refine ⟨Nat.le_trans m m2, fun ρ G => ?_⟩
        obtain ⟨xs, ρ1, h1, i1, G1⟩ := k ρ G
        obtain ⟨dk1, g4, i4⟩ := G1.at_ i u q1
        obtain ⟨d, o, h5, h6, h7⟩ := k2 dk1 xs (isDk_ok hu i4) i1
        exact ⟨d, _, st G h1 G1 (fun dk e => by rw [g4] at e; cases e; exact h5), h6, set_same (G1.mono m2) q1 hu h7⟩
    · cases qa
  | rng es ih =>
    refine s4 (fun Γ N t N' q => ?_) (fun _ _ => rfl) (fun _ _ => rfl) (fun _ _ => rfl)
    obtain ⟨⟨ts, M⟩, q1, q⟩ := bs (show ((aA ac acd tk es Γ N).bind fun r => (aRng r.1).map fun t => (t, r.2)) = some (t, N') from q)
    obtain ⟨r, q2, q3⟩ := ms q
    cases q3
    obtain ⟨m, k⟩ := ih.2.1 _ _ _ _ q1
    refine ⟨m, fun ρ G => ?_⟩
    obtain ⟨xs, ρ1, h1, i1, G1⟩ := k ρ G
    obtain ⟨v, e1, e2⟩ := aRng_ok q2 i1
    exact ⟨v, ρ1, by rw [evE, h1, Out.bind_ok, e1, Out.lift_some], e2, G1⟩
  | enm a ih =>
    refine s4 (op1 (f := aEnm) (g := fun x => (items x).map fun xs => .list (enumD 0 xs)) ih.1 (fun N a r e d i => ?_) (fun _ _ => rfl) (fun _ => rfl)) (fun _ _ => rfl) (fun _ _ => rfl) (fun _ _ => rfl)
    obtain ⟨xs, h1, h2⟩ := aEnm_ok e i
    exact ⟨_, by show (items d).map _ = _; rw [h1]; rfl, h2⟩
  | zip a b iha ihb =>
    refine s4 (op2 (f := aZip) (g := fun x y => (items x).bind fun xs => (items y).map fun ys => .list (zipD xs ys)) iha.1 ihb.1 (fun N a b r e x y i j => ?_) (fun _ _ => rfl) (fun _ => rfl)) (fun _ _ => rfl) (fun _ _ => rfl) (fun _ _ => rfl)
    obtain ⟨xs, ys, h1, h2, h3⟩ := aZip_ok e i j
    exact ⟨_, by show (items x).bind _ = _; rw [h1, Option.bind_some, h2]; rfl, h3⟩
  | lc own t it c e ihit ihc ihe =>
    refine s4 (fun Γ N r N' q => ?_) (fun _ _ => rfl) (fun _ _ => rfl) (fun _ _ => rfl)
    rw [aE] at q
    split at q
    · rename_i hs
      obtain ⟨⟨tt, M⟩, q1, q⟩ := bs q
      obtain ⟨⟨us, n, u⟩, q2, q3⟩ := bs q
      obtain ⟨m1, k1⟩ := ihit.1 _ _ _ _ q1
      have hf := turn_ok (Γ := Γ) hs ihc.1 ihe.1
      obtain ⟨m2, k2⟩ := aLc_ok hf q3
      refine ⟨Nat.le_trans m1 m2, fun ρ G => ?_⟩
      obtain ⟨x, ρ1, h1, i1, G1⟩ := k1 ρ G
      obtain ⟨ys, zs, h2, i2, h3, i3⟩ := tIt_ok q2 i1
      obtain ⟨ws, ρ2, h4, G2, i4⟩ := k2 ys zs (wipeE ρ1 own) i2 h3 i3 (G1.wipe own)
      refine ⟨.list ws, backE ρ1 ρ2 own, ?_, i4, InG.back (G1.mono m2) G2⟩
      rw [evE, h1, Out.bind_ok, h2, Out.lift_some, Out.bind_ok, h4]
      rfl
    · cases q
end
end BV
set_option Elab.async false
set_option linter.all false
set_option maxRecDepth 100000
set_option maxHeartbeats 8000000
/-! BTA: statements and defs over types. -/
namespace BV
open PySem
structure AO where
  nx : Option TS
  rt : T
  N : Nat
def jTS : TS → TS → TS
  | a :: r, b :: s => (match a, b with
    | some x, some y => some (jn x y)
    | _, _ => none) :: jTS r s
  | _, _ => []
def jO : Option TS → Option TS → Option TS
  | none, y => y
  | x, none => x
  | some x, some y => some (jTS x y)
def thnA (o : AO) (f : TS → Nat → Option AO) : Option AO := match o.nx with
  | none => some o
  | some Γ => (f Γ o.N).map fun r => ⟨r.nx, jn o.rt r.rt, r.N⟩
def aApp (t x : T) : Option T := match vA t with
  | some (true, lo, hi, u) => if Nat.ble (hi + 1) LIM = true then some (.seq true (lo + 1) (hi + 1) (jn u x)) else none
  | _ => none
def aSeti (t k x : T) : Option T := match vA t, vI k with
  | some (true, lo, hi, u), some (l, h) => if (decide (0 ≤ l) && decide (h < lo)) = true then some (.seq true lo hi (jn u x)) else none
  | _, _ => none
def isLst (t : T) : Bool := match vA t with
  | some (true, _, _, _) => true
  | _ => false
def aForD (bd : TS → Nat → Option AO) (t : Tg) : T → TS → Nat → Option AO
  | .nil, Γ, N => some ⟨some Γ, .bot, N⟩
  | .cons u r, Γ, N => (aBind t u Γ).bind fun Γ1 => (bd Γ1 N).bind fun o => thnA o (aForD bd t r)
  | _, _, _ => none
def aForM (bd : TS → Nat → Option AO) (t : Tg) (u : T) : Nat → TS → Nat → Option AO
  | 0, Γ, N => some ⟨some Γ, .bot, N⟩
  | n + 1, Γ, N => (aBind t u Γ).bind fun Γ1 => (bd Γ1 N).bind fun o => (thnA o (aForM bd t u n)).map fun r => ⟨jO (some Γ) r.nx, r.rt, r.N⟩
def dk0 (io : Bool) (Γ : TS) : Bool := !io || (match gT Γ 0 with
  | some t => isDk t
  | none => false)
section
variable (ac acd : Nat → T → Nat → Option (T × Nat)) (tk : Nat) (io : Bool)
def aS : IS → TS → Nat → Option AO
  | .nil, Γ, N => some ⟨some Γ, .bot, N⟩
  | .cons s r, Γ, N => (aS s Γ N).bind fun o => thnA o (aS r)
  | .asg t e, Γ, N => (aE ac acd tk e Γ N).bind fun x => (aBind t x.1 Γ).map fun Γ' => ⟨some Γ', .bot, x.2⟩
  | .set i e, Γ, N => (aE ac acd tk e Γ N).map fun x => ⟨some (Γ.set i (some x.1)), .bot, x.2⟩
  | .own i e, Γ, N => (aE ac acd tk e Γ N).bind fun x => if isLst x.1 = true then some ⟨some (Γ.set i (some x.1)), .bot, x.2⟩ else none
  | .frz _, Γ, N => some ⟨some Γ, .bot, N⟩
  | .app i e, Γ, N => (gT Γ i).bind fun t => (aE ac acd tk e Γ N).bind fun x => (aApp t x.1).map fun r => ⟨some (Γ.set i (some r)), .bot, x.2⟩
  | .seti i k e, Γ, N => (gT Γ i).bind fun t => (aE ac acd tk e Γ N).bind fun x => (aE ac acd tk k Γ x.2).bind fun y => (aSeti t y.1 x.1).map fun r => ⟨some (Γ.set i (some r)), .bot, y.2⟩
  | .aug i o e, Γ, N => (gT Γ i).bind fun t => (aE ac acd tk e Γ N).bind fun x => (map2 (aBin o) t x.1).map fun r => ⟨some (Γ.set i (some r)), .bot, x.2⟩
  | .exp e, Γ, N => (aE ac acd tk e Γ N).map fun x => ⟨some Γ, .bot, x.2⟩
  | .par i j a b, Γ, N => (aE ac acd tk a Γ N).bind fun x => (aE ac acd tk b Γ x.2).map fun y => ⟨some ((Γ.set i (some x.1)).set j (some y.1)), .bot, y.2⟩
  | .ifs c a b, Γ, N => (aE ac acd tk c Γ N).bind fun x => (match br true c x.1 Γ with
      | some Γ' => aS a Γ' x.2
      | none => some ⟨none, .bot, x.2⟩).bind fun (y : AO) => (match br false c x.1 Γ with
        | some Γ' => aS b Γ' y.N
        | none => some ⟨none, .bot, y.N⟩).map fun (z : AO) => ⟨jO y.nx z.nx, jn y.rt z.rt, z.N⟩
  | .fors t it b, Γ, N => (aE ac acd tk it Γ N).bind fun x => (tIt x.1).bind fun p => (aForD (aS b) t p.1 Γ x.2).bind fun o => thnA o (aForM (aS b) t p.2.2 p.2.1)
  | .ret e, Γ, N => if dk0 io Γ = true then (aE ac acd tk e Γ N).map fun x => ⟨none, x.1, x.2⟩ else none
  | .rtn, Γ, N => if dk0 io Γ = true then some ⟨none, .non, N⟩ else none
  | _, _, _ => none
end
section
variable {N : Nat}
theorem jTS_ok : ∀ {a b : TS} {ρ : Ev}, a.length = b.length → InG N a ρ ∨ InG N b ρ → InG N (jTS a b) ρ := by
  intro a b ρ hl h
  have len : ∀ {a b : TS}, a.length = b.length → (jTS a b).length = a.length := by
    intro a
    induction a with
    | nil => intro b _; rfl
    | cons x r ih =>
      intro b h
      cases b with
      | nil => cases h
      | cons y s => show (jTS r s).length + 1 = r.length + 1; rw [ih (Nat.succ.inj h)]
  have get : ∀ {a b : TS} {i : Nat} {t : T}, gT (jTS a b) i = some t → ∃ x y, gT a i = some x ∧ gT b i = some y ∧ t = jn x y := by
    intro a
    induction a with
    | nil => intro b i t e; cases e
    | cons x r ih =>
      intro b i t e
      cases b with
      | nil => cases e
      | cons y s =>
        cases i with
        | zero =>
          cases x with
          | none => cases e
          | some x =>
            cases y with
            | none => cases e
            | some y => cases e; exact ⟨_, _, rfl, rfl, rfl⟩
        | succ i => exact ih (i := i) e
  refine ⟨?_, fun i t e => ?_⟩
  · rw [len hl]
    rcases h with h | h
    · exact h.len
    · rw [h.len, hl]
  · obtain ⟨x, y, e1, e2, rfl⟩ := get e
    rcases h with h | h
    · obtain ⟨d, h1, h2⟩ := h.at_ i x e1; exact ⟨d, h1, jn_ok _ _ _ (.inl h2)⟩
    · obtain ⟨d, h1, h2⟩ := h.at_ i y e2; exact ⟨d, h1, jn_ok _ _ _ (.inr h2)⟩
theorem aApp_ok {t x r : T} (e : aApp t x = some r) {l d : D} (i : In N t l) (j : In N x d) : ∃ xs, l = .list xs ∧ xs.length < LIM ∧ In N r (.list (xs ++ [d])) := by
  unfold aApp at e
  split at e
  · rename_i e1
    split at e
    · rename_i q
      cases e
      have q := bleI q
      obtain ⟨xs, rfl, h1, h2, h3⟩ := vA_ok e1 i
      refine ⟨xs, rfl, by omega, _, rfl, by rw [List.length_append]; simp; omega, by rw [List.length_append]; simp; omega, fun z hz => ?_⟩
      rcases List.mem_append.mp hz with hz | hz
      · exact jn_ok _ _ _ (.inl (h3 z hz))
      · rw [List.mem_singleton.mp hz]; exact jn_ok _ _ _ (.inr j)
    · cases e
  · cases e
theorem aSeti_ok {t k x r : T} (e : aSeti t k x = some r) {l y d : D} (i : In N t l) (ik : In N k y) (j : In N x d) : ∃ z, putIdx l y d = some z ∧ In N r z := by
  unfold aSeti at e
  split at e
  · rename_i e1 e2
    split at e
    · rename_i q
      cases e
      obtain ⟨q1, q2⟩ := a2 q
      have q1 := of_decide_eq_true q1
      have q2 := of_decide_eq_true q2
      obtain ⟨xs, rfl, h1, h2, h3⟩ := vA_ok e1 i
      obtain ⟨n, rfl, h4, h5⟩ := vI_ok e2 ik
      obtain ⟨m, h6, h7, _⟩ := atIx_ok (n := xs.length) (i := n) (.inl ⟨by omega, by omega⟩)
      refine ⟨.list (xs.set m d), ?_, _, rfl, by rw [List.length_set]; exact h1, by rw [List.length_set]; exact h2, fun z hz => ?_⟩
      · show (atIx xs.length n).map _ = _
        rw [h6]; rfl
      · rcases List.mem_or_eq_of_mem_set hz with hz | hz
        · exact jn_ok _ _ _ (.inl (h3 z hz))
        · rw [hz]; exact jn_ok _ _ _ (.inr j)
    · cases e
  · cases e
theorem isLst_ok {t : T} (e : isLst t = true) {d : D} (i : In N t d) : ∃ xs, d = .list xs := by
  unfold isLst at e
  split at e
  · rename_i e1
    obtain ⟨xs, rfl, _⟩ := vA_ok e1 i
    exact ⟨xs, rfl⟩
  · cases e
end
/-- what a statement comes to -/
def Res (io : Bool) (o : AO) (len : Nat) (r : SOut) : Prop := (∃ ρ' Γ', r = .next ρ' ∧ o.nx = some Γ' ∧ InG o.N Γ' ρ' ∧ Γ'.length = len) ∨ (∃ d ρ', r = .ret d ρ' ∧ In o.N o.rt d ∧ (io = true → ∃ dk, getV ρ' 0 = some dk ∧ DkN o.N dk))
section
variable {io : Bool}
theorem Res.mono {o : AO} {len : Nat} {r : SOut} (h : Res io o len r) {nx : Option TS} {rt : T} {M : Nat} (hM : o.N ≤ M) (hn : ∀ Γ' ρ', o.nx = some Γ' → Γ'.length = len → InG M Γ' ρ' → ∃ Γ2, nx = some Γ2 ∧ InG M Γ2 ρ' ∧ Γ2.length = len) (hr : ∀ d, In M o.rt d → In M rt d) : Res io ⟨nx, rt, M⟩ len r := by
  rcases h with ⟨ρ', Γ', e1, e2, G, l⟩ | ⟨d, ρ', e1, i, hk⟩
  · obtain ⟨Γ2, e3, G2, l2⟩ := hn Γ' ρ' e2 l (G.mono hM)
    exact .inl ⟨ρ', Γ2, e1, e3, G2, l2⟩
  · exact .inr ⟨d, ρ', e1, hr d (i.mono hM), fun z => by
      obtain ⟨dk, e2, h2⟩ := hk z
      exact ⟨dk, e2, h2.mono hM⟩⟩
abbrev SB (io : Bool) (f : TS → Nat → Option AO) (m : Ev → SOut) : Prop := ∀ Γ N o, f Γ N = some o → N ≤ o.N ∧ ∀ ρ, InG N Γ ρ → Res io o Γ.length (m ρ)
theorem thnA_ok {o r : AO} {f : TS → Nat → Option AO} {m : Ev → SOut} {s : SOut} {len : Nat} (e : thnA o f = some r) (hf : SB io f m) : o.N ≤ r.N ∧ (Res io o len s → Res io r len (s.thn m)) := by
  unfold thnA at e
  split at e
  · rename_i hn
    cases e
    refine ⟨Nat.le_refl _, fun h => ?_⟩
    rcases h with ⟨ρ', Γ', e1, e2, G, l⟩ | ⟨d, ρ', e1, i, hk⟩
    · rw [hn] at e2; cases e2
    · exact .inr ⟨d, ρ', by rw [e1]; rfl, i, hk⟩
  · rename_i Γ1 hn
    obtain ⟨r', q1, q2⟩ := ms e
    cases q2
    obtain ⟨m1, k1⟩ := hf _ _ _ q1
    refine ⟨m1, fun h => ?_⟩
    rcases h with ⟨ρ', Γ', e1, e2, G, l⟩ | ⟨d, ρ', e1, i, hk⟩
    · rw [hn] at e2
      cases e2
      have := k1 ρ' G
      rw [l] at this
      rw [e1, SOut.thn_next]
      exact this.mono (Nat.le_refl _) (fun Γ2 ρ2 h1 h2 h3 => ⟨Γ2, h1, h3, h2⟩) (fun d i => jn_ok _ _ _ (.inr i))
    · rw [e1]
      exact .inr ⟨d, ρ', rfl, jn_ok _ _ _ (.inl (i.mono m1)), fun z => by
        obtain ⟨dk, g1, g2⟩ := hk z
        exact ⟨dk, g1, g2.mono m1⟩⟩
theorem jO_l {x y : Option TS} {N len : Nat} {Γ : TS} {ρ : Ev} (e : x = some Γ) (h : InG N Γ ρ) (hl : Γ.length = len) (hy : ∀ Γ', y = some Γ' → Γ'.length = len) : ∃ Γ2, jO x y = some Γ2 ∧ InG N Γ2 ρ ∧ Γ2.length = len := by
  subst e
  cases y with
  | none => exact ⟨Γ, rfl, h, hl⟩
  | some Γ' =>
    have g := jTS_ok (by rw [hl, hy _ rfl]) (.inl h) (b := Γ')
    exact ⟨_, rfl, g, by rw [← g.len, h.len, hl]⟩
theorem jO_r {x y : Option TS} {N len : Nat} {Γ : TS} {ρ : Ev} (e : y = some Γ) (h : InG N Γ ρ) (hl : Γ.length = len) (hy : ∀ Γ', x = some Γ' → Γ'.length = len) : ∃ Γ2, jO x y = some Γ2 ∧ InG N Γ2 ρ ∧ Γ2.length = len := by
  subst e
  cases x with
  | none => exact ⟨Γ, rfl, h, hl⟩
  | some Γ' =>
    have g := jTS_ok (by rw [hl, hy _ rfl]) (.inr h) (a := Γ')
    exact ⟨_, rfl, g, by rw [← g.len, h.len, hl]⟩
end
/-! lengths of states -/
abbrev LB (f : TS → Nat → Option AO) : Prop := ∀ Γ N o Γ', f Γ N = some o → o.nx = some Γ' → Γ'.length = Γ.length
theorem thnA_len {o r : AO} {f : TS → Nat → Option AO} {len : Nat} (e : thnA o f = some r) (hf : LB f) (ho : ∀ Γ', o.nx = some Γ' → Γ'.length = len) : ∀ Γ', r.nx = some Γ' → Γ'.length = len := by
  intro Γ' h
  unfold thnA at e
  split at e
  · cases e; exact ho _ h
  · rename_i Γ1 hn
    obtain ⟨r', q1, q2⟩ := ms e
    cases q2
    rw [hf _ _ _ _ q1 h, ho _ hn]
theorem jO_len {x y : Option TS} {len : Nat} (hx : ∀ Γ', x = some Γ' → Γ'.length = len) (hy : ∀ Γ', y = some Γ' → Γ'.length = len) : ∀ Γ', jO x y = some Γ' → Γ'.length = len := by
  intro Γ' e
  cases x with
  | none => exact hy _ e
  | some a =>
    cases y with
    | none => exact hx _ e
    | some b =>
      cases e
      have len : ∀ {a b : TS}, a.length = b.length → (jTS a b).length = a.length := by
        intro a
        induction a with
        | nil => intro b _; rfl
        | cons x r ih =>
          intro b h
          cases b with
          | nil => cases h
          | cons y s => show (jTS r s).length + 1 = r.length + 1; rw [ih (Nat.succ.inj h)]
      rw [len (by rw [hx _ rfl, hy _ rfl]), hx _ rfl]
theorem bind_len : ∀ t : Tg, (∀ u Γ Γ', aBind t u Γ = some Γ' → Γ'.length = Γ.length) ∧ (∀ u Γ Γ', aBinds t u Γ = some Γ' → Γ'.length = Γ.length) := by
  intro t
  induction t with
  | s i => exact ⟨fun u Γ Γ' e => by cases e; rw [List.length_set], fun u Γ Γ' e => by cases e⟩
  | t ts ih =>
    refine ⟨fun u Γ Γ' e => ?_, fun u Γ Γ' e => by cases e⟩
    obtain ⟨us, e1, e2⟩ := bs (show ((asTup u).bind fun us => aBinds ts us Γ) = some Γ' from e)
    exact ih.2 _ _ _ e2
  | nil =>
    refine ⟨(fun u Γ Γ' e => by cases e), fun us Γ Γ' e => ?_⟩
    cases us <;> first | (cases e; done) | skip
    cases e; rfl
  | cons a r iha ihr =>
    refine ⟨(fun u Γ Γ' e => by cases e), fun us Γ Γ' e => ?_⟩
    cases us <;> first | (cases e; done) | skip
    rename_i u s
    obtain ⟨Γ1, e1, e2⟩ := bs (show ((aBind a u Γ).bind fun Γ' => aBinds r s Γ') = some Γ' from e)
    rw [ihr.2 _ _ _ e2, iha.1 _ _ _ e1]
theorem forD_len {bd : TS → Nat → Option AO} (h : LB bd) (t : Tg) : ∀ us : T, LB (aForD bd t us) := by
  intro us
  induction us with
  | nil => intro Γ N o Γ' e q; cases e; cases q; rfl
  | cons u r _ ih =>
    intro Γ N o Γ' e q
    obtain ⟨Γ1, e1, e2⟩ := bs (show ((aBind t u Γ).bind fun Γ1 => (bd Γ1 N).bind fun o => thnA o (aForD bd t r)) = some o from e)
    obtain ⟨o1, e3, e4⟩ := bs e2
    have := (bind_len t).1 _ _ _ e1
    exact thnA_len e4 ih (fun Γ2 h2 => by rw [h _ _ _ _ e3 h2, this]) _ q
  | _ => intro Γ N o Γ' e; cases e
theorem forM_len {bd : TS → Nat → Option AO} (h : LB bd) (t : Tg) (u : T) : ∀ n : Nat, LB (aForM bd t u n) := by
  intro n
  induction n with
  | zero => intro Γ N o Γ' e q; cases e; cases q; rfl
  | succ n ih =>
    intro Γ N o Γ' e q
    obtain ⟨Γ1, e1, e2⟩ := bs (show ((aBind t u Γ).bind fun Γ1 => (bd Γ1 N).bind fun o => (thnA o (aForM bd t u n)).map fun r => ⟨jO (some Γ) r.nx, r.rt, r.N⟩) = some o from e)
    obtain ⟨o1, e3, e4⟩ := bs e2
    obtain ⟨r, e5, e6⟩ := ms e4
    cases e6
    have := (bind_len t).1 _ _ _ e1
    exact jO_len (fun Γ2 h2 => by cases h2; rfl) (thnA_len e5 ih (fun Γ2 h2 => by rw [h _ _ _ _ e3 h2, this])) _ q
theorem br_len {b : Bool} {c : IE} {x : T} {Γ Γ' : TS} (e : br b c x Γ = some Γ') : Γ'.length = Γ.length := by
  have key : ∀ (c : IE) (b : Bool) (Γ : TS), (rf b c Γ).length = Γ.length := by
    intro c b Γ
    fun_induction rf b c Γ with
    | case1 b c Γ ih => exact ih
    | case2 x y Γ ihx ihy => rw [ihy, ihx]
    | case3 x y Γ ihx ihy => rw [ihy, ihx]
    | case4 => rw [List.length_set]
    | case5 => rfl
    | case6 => rfl
  unfold br at e
  by_cases h : aTru x = some (!b)
  · rw [if_pos h] at e; cases e
  · rw [if_neg h] at e
    have k2 : ∀ Γ2 : TS, Γ2.length = Γ.length → (if dead Γ2 = true then none else some Γ2) = some Γ' → Γ'.length = Γ.length := by
      intro Γ2 h e
      split at e
      · cases e
      · cases e; exact h
    refine k2 _ ?_ e
    split
    · exact key _ _ _
    · rfl
theorem aS_len {ac acd : Nat → T → Nat → Option (T × Nat)} {tk : Nat} {io : Bool} : ∀ s : IS, LB (aS ac acd tk io s) := by
  intro s
  induction s with
  | nil => intro Γ N o Γ' e q; cases e; cases q; rfl
  | frz _ => intro Γ N o Γ' e q; cases e; cases q; rfl
  | cons s r ihs ihr =>
    intro Γ N o Γ' e q
    obtain ⟨o1, e1, e2⟩ := bs (show ((aS ac acd tk io s Γ N).bind fun o => thnA o (aS ac acd tk io r)) = some o from e)
    exact thnA_len e2 ihr (fun Γ2 h2 => ihs _ _ _ _ e1 h2) _ q
  | asg t e1 =>
    intro Γ N o Γ' e q
    obtain ⟨x, h1, h2⟩ := bs (show ((aE ac acd tk e1 Γ N).bind fun x => (aBind t x.1 Γ).map fun Γ' => (⟨some Γ', .bot, x.2⟩ : AO)) = some o from e)
    obtain ⟨Γ1, h3, h4⟩ := ms h2
    cases h4; cases q
    exact (bind_len t).1 _ _ _ h3
  | set i e1 =>
    intro Γ N o Γ' e q
    obtain ⟨x, h1, h2⟩ := ms (show ((aE ac acd tk e1 Γ N).map fun x => (⟨some (Γ.set i (some x.1)), .bot, x.2⟩ : AO)) = some o from e)
    cases h2; cases q; rw [List.length_set]
  | own i e1 =>
    intro Γ N o Γ' e q
    obtain ⟨x, h1, h2⟩ := bs (show ((aE ac acd tk e1 Γ N).bind fun x => if isLst x.1 = true then some (⟨some (Γ.set i (some x.1)), .bot, x.2⟩ : AO) else none) = some o from e)
    split at h2
    · cases h2; cases q; rw [List.length_set]
    · cases h2
  | app i e1 =>
    intro Γ N o Γ' e q
    obtain ⟨t, h1, h2⟩ := bs (show ((gT Γ i).bind fun t => (aE ac acd tk e1 Γ N).bind fun x => (aApp t x.1).map fun r => (⟨some (Γ.set i (some r)), .bot, x.2⟩ : AO)) = some o from e)
    obtain ⟨x, h3, h4⟩ := bs h2
    obtain ⟨r, h5, h6⟩ := ms h4
    cases h6; cases q; rw [List.length_set]
  | seti i k e1 =>
    intro Γ N o Γ' e q
    obtain ⟨t, h1, h2⟩ := bs (show ((gT Γ i).bind fun t => (aE ac acd tk e1 Γ N).bind fun x => (aE ac acd tk k Γ x.2).bind fun y => (aSeti t y.1 x.1).map fun r => (⟨some (Γ.set i (some r)), .bot, y.2⟩ : AO)) = some o from e)
    obtain ⟨x, h3, h4⟩ := bs h2
    obtain ⟨y, h5, h6⟩ := bs h4
    obtain ⟨r, h7, h8⟩ := ms h6
    cases h8; cases q; rw [List.length_set]
  | aug i o1 e1 =>
    intro Γ N o Γ' e q
    obtain ⟨t, h1, h2⟩ := bs (show ((gT Γ i).bind fun t => (aE ac acd tk e1 Γ N).bind fun x => (map2 (aBin o1) t x.1).map fun r => (⟨some (Γ.set i (some r)), .bot, x.2⟩ : AO)) = some o from e)
    obtain ⟨x, h3, h4⟩ := bs h2
    obtain ⟨r, h5, h6⟩ := ms h4
    cases h6; cases q; rw [List.length_set]
  | exp e1 =>
    intro Γ N o Γ' e q
    obtain ⟨x, h1, h2⟩ := ms (show ((aE ac acd tk e1 Γ N).map fun x => (⟨some Γ, .bot, x.2⟩ : AO)) = some o from e)
    cases h2; cases q; rfl
  | par i j a b =>
    intro Γ N o Γ' e q
    obtain ⟨x, h1, h2⟩ := bs (show ((aE ac acd tk a Γ N).bind fun x => (aE ac acd tk b Γ x.2).map fun y => (⟨some ((Γ.set i (some x.1)).set j (some y.1)), .bot, y.2⟩ : AO)) = some o from e)
    obtain ⟨y, h3, h4⟩ := ms h2
    cases h4; cases q; rw [List.length_set, List.length_set]
  | ifs c a b iha ihb =>
    intro Γ N o Γ' e q
    rw [aS] at e
    obtain ⟨x, h1, h2⟩ := bs e
    obtain ⟨y, h3, h4⟩ := bs h2
    obtain ⟨z, h5, h6⟩ := ms h4
    cases h6
    refine jO_len (fun Γ2 h => ?_) (fun Γ2 h => ?_) _ q
    · split at h3
      · rename_i hb
        rw [iha _ _ _ _ h3 h, br_len hb]
      · cases h3; cases h
    · split at h5
      · rename_i hb
        rw [ihb _ _ _ _ h5 h, br_len hb]
      · cases h5; cases h
  | fors t it b ih =>
    intro Γ N o Γ' e q
    rw [aS] at e
    obtain ⟨x, h1, h2⟩ := bs e
    obtain ⟨p, h3, h4⟩ := bs h2
    obtain ⟨o1, h5, h6⟩ := bs h4
    exact thnA_len h6 (forM_len ih t _ _) (fun Γ2 h => forD_len ih t _ _ _ _ _ h5 h) _ q
  | ret e1 =>
    intro Γ N o Γ' e q
    rw [aS] at e
    split at e
    · obtain ⟨x, h1, h2⟩ := ms e
      cases h2; cases q
    · cases e
  | rtn =>
    intro Γ N o Γ' e q
    rw [aS] at e
    split at e
    · cases e; cases q
    · cases e
  | _ => intro Γ N o Γ' e; cases e
end BV
set_option Elab.async false
set_option linter.all false
set_option maxRecDepth 100000
set_option maxHeartbeats 8000000
/-! BTB: statements and defs over types are right. -/
namespace BV
open PySem
section
variable {call : Nat → List D → FRes} {hcall : Nat → D → FRes} {cur : D} {ac acd : Nat → T → Nat → Option (T × Nat)} {tk : Nat} {io : Bool}
/-- a state goes on -/
theorem res_next {o : AO} {len : Nat} {ρ : Ev} {Γ : TS} (e : o.nx = some Γ) (G : InG o.N Γ ρ) (h : Γ.length = len) : Res io o len (.next ρ) := .inl ⟨ρ, Γ, rfl, e, G, h⟩
theorem dk0_ok {Γ : TS} {N : Nat} {ρ : Ev} (h : dk0 io Γ = true) (G : InG N Γ ρ) : io = true → ∃ dk, getV ρ 0 = some dk ∧ DkN N dk := by
  intro z
  subst z
  unfold dk0 at h
  cases e : gT Γ 0 with
  | none => rw [e] at h; cases h
  | some t =>
    rw [e] at h
    obtain ⟨d, h1, h2⟩ := G.at_ 0 t e
    exact ⟨d, h1, isDk_ok h h2⟩
theorem forD_ok {bd : TS → Nat → Option AO} {m : Ev → SOut} (hb : SB io bd m) (t : Tg) : ∀ (us : T) {N : Nat} {Γ : TS} {o : AO}, aForD bd t us Γ N = some o → N ≤ o.N ∧ ∀ xs ρ, InL N us xs → InG N Γ ρ → Res io o Γ.length (forLoop (forT t m) xs ρ) := by
  intro us
  induction us with
  | nil =>
    intro N Γ o e
    cases e
    refine ⟨Nat.le_refl _, fun xs ρ i G => ?_⟩
    rw [show xs = [] from i]
    exact res_next rfl G rfl
  | cons u r _ ih =>
    intro N Γ o e
    obtain ⟨Γ1, e1, e2⟩ := bs (show ((aBind t u Γ).bind fun Γ1 => (bd Γ1 N).bind fun o => thnA o (aForD bd t r)) = some o from e)
    obtain ⟨o1, e3, e4⟩ := bs e2
    obtain ⟨m1, k1⟩ := hb _ _ _ e3
    have hl := (bind_len t).1 _ _ _ e1
    have m2 : o1.N ≤ o.N := by
      unfold thnA at e4
      split at e4
      · cases e4; exact Nat.le_refl _
      · obtain ⟨r', q1, q2⟩ := ms e4
        cases q2
        exact (ih q1).1
    refine ⟨Nat.le_trans m1 m2, fun xs ρ i G => ?_⟩
    obtain ⟨x, ys, rfl, i1, i2⟩ := i
    obtain ⟨ρ1, h1, G1⟩ := aBind_ok e1 i1 G
    have s1 := k1 ρ1 G1
    rw [hl] at s1
    have e5 : forLoop (forT t m) (x :: ys) ρ = (m ρ1).thn fun ρ => forLoop (forT t m) ys ρ := by
      show (forT t m x ρ).thn _ = _
      unfold forT
      rw [h1]
      rfl
    rw [e5]
    unfold thnA at e4
    split at e4
    · rename_i hn
      cases e4
      rcases s1 with ⟨ρ', Γ', q1, q2, G2, l⟩ | ⟨d, ρ', q1, j, hk⟩
      · rw [hn] at q2; cases q2
      · rw [q1]; exact .inr ⟨d, ρ', rfl, j, hk⟩
    · rename_i Γ2 hn
      obtain ⟨r', q1, q2⟩ := ms e4
      cases q2
      rcases s1 with ⟨ρ', Γ', q3, q4, G2, l⟩ | ⟨d, ρ', q3, j, hk⟩
      · rw [hn] at q4
        cases q4
        rw [q3, SOut.thn_next]
        have := (ih q1).2 ys ρ' (i2.mono m1) G2
        rw [l] at this
        exact this.mono (Nat.le_refl _) (fun Γ3 ρ3 g1 g2 g3 => ⟨Γ3, g1, g3, g2⟩) (fun d i => jn_ok _ _ _ (.inr i))
      · rw [q3]
        exact .inr ⟨d, ρ', rfl, jn_ok _ _ _ (.inl (j.mono m2)), fun z => by
          obtain ⟨dk, g1, g2⟩ := hk z
          exact ⟨dk, g1, g2.mono m2⟩⟩
  | _ => intro N Γ o e; cases e
theorem forM_ok {bd : TS → Nat → Option AO} {m : Ev → SOut} (hb : SB io bd m) (hbl : LB bd) (t : Tg) (u : T) : ∀ (n : Nat) {N : Nat} {Γ : TS} {o : AO}, aForM bd t u n Γ N = some o → N ≤ o.N ∧ ∀ xs ρ, xs.length ≤ n → (∀ x ∈ xs, In N u x) → InG N Γ ρ → Res io o Γ.length (forLoop (forT t m) xs ρ) := by
  intro n
  induction n with
  | zero =>
    intro N Γ o e
    cases e
    refine ⟨Nat.le_refl _, fun xs ρ hl i G => ?_⟩
    have : xs = [] := List.length_eq_zero_iff.mp (by omega)
    subst this
    exact res_next rfl G rfl
  | succ n ih =>
    intro N Γ o e
    obtain ⟨Γ1, e1, e2⟩ := bs (show ((aBind t u Γ).bind fun Γ1 => (bd Γ1 N).bind fun o => (thnA o (aForM bd t u n)).map fun r => ⟨jO (some Γ) r.nx, r.rt, r.N⟩) = some o from e)
    obtain ⟨o1, e3, e4⟩ := bs e2
    obtain ⟨r, e5, e6⟩ := ms e4
    cases e6
    obtain ⟨m1, k1⟩ := hb _ _ _ e3
    have hl := (bind_len t).1 _ _ _ e1
    have m2 : o1.N ≤ r.N := by
      unfold thnA at e5
      split at e5
      · cases e5; exact Nat.le_refl _
      · obtain ⟨r', q1, q2⟩ := ms e5
        cases q2
        exact (ih q1).1
    have lr : ∀ Γ', r.nx = some Γ' → Γ'.length = Γ.length := thnA_len e5 (forM_len hbl t u n) (fun Γ2 h2 => by rw [hbl _ _ _ _ e3 h2, hl])
    refine ⟨Nat.le_trans m1 m2, fun xs ρ hxs i G => ?_⟩
    cases xs with
    | nil =>
      obtain ⟨Γ2, g1, g2, g3⟩ := jO_l (x := some Γ) (y := r.nx) rfl (G.mono (Nat.le_trans m1 m2)) rfl lr
      exact res_next g1 g2 g3
    | cons x ys =>
      obtain ⟨ρ1, h1, G1⟩ := aBind_ok e1 (i x List.mem_cons_self) G
      have s1 := k1 ρ1 G1
      rw [hl] at s1
      have e7 : forLoop (forT t m) (x :: ys) ρ = (m ρ1).thn fun ρ => forLoop (forT t m) ys ρ := by
        show (forT t m x ρ).thn _ = _
        unfold forT
        rw [h1]
        rfl
      rw [e7]
      have main : Res io r Γ.length ((m ρ1).thn fun ρ => forLoop (forT t m) ys ρ) := by
        unfold thnA at e5
        split at e5
        · rename_i hn
          cases e5
          rcases s1 with ⟨ρ', Γ', q1, q2, G2, l⟩ | ⟨d, ρ', q1, j, hk⟩
          · rw [hn] at q2; cases q2
          · rw [q1]; exact .inr ⟨d, ρ', rfl, j, hk⟩
        · rename_i Γ2 hn
          obtain ⟨r', q1, q2⟩ := ms e5
          cases q2
          rcases s1 with ⟨ρ', Γ', q3, q4, G2, l⟩ | ⟨d, ρ', q3, j, hk⟩
          · rw [hn] at q4
            cases q4
            rw [q3, SOut.thn_next]
            have := (ih q1).2 ys ρ' (by simp only [List.length_cons] at hxs; omega) (fun y hy => (i y (List.mem_cons_of_mem _ hy)).mono m1) G2
            rw [l] at this
            exact this.mono (Nat.le_refl _) (fun Γ3 ρ3 g1 g2 g3 => ⟨Γ3, g1, g3, g2⟩) (fun d i => jn_ok _ _ _ (.inr i))
          · rw [q3]
            exact .inr ⟨d, ρ', rfl, jn_ok _ _ _ (.inl (j.mono m2)), fun z => by
              obtain ⟨dk, g1, g2⟩ := hk z
              exact ⟨dk, g1, g2.mono m2⟩⟩
      exact main.mono (Nat.le_refl _) (fun Γ3 ρ3 g1 g2 g3 => jO_r (x := some Γ) g1 g3 g2 (fun Γ' e => by cases e; rfl)) (fun d i => i)
  
theorem aS_ok (hc : CallOk call ac acd tk) : ∀ s : IS, SB io (aS ac acd tk io s) (evS call hcall cur s) := by
  have E : ∀ e : IE, SE call hcall cur ac acd tk e := fun e => (aE_ok hc e).1
  intro s
  induction s with
  | nil => intro Γ N o e; cases e; exact ⟨Nat.le_refl _, fun ρ G => res_next rfl G rfl⟩
  | frz _ => intro Γ N o e; cases e; exact ⟨Nat.le_refl _, fun ρ G => res_next rfl G rfl⟩
  | cons s r ihs ihr =>
    intro Γ N o e
    obtain ⟨o1, e1, e2⟩ := bs (show ((aS ac acd tk io s Γ N).bind fun o => thnA o (aS ac acd tk io r)) = some o from e)
    obtain ⟨m1, k1⟩ := ihs _ _ _ e1
    have t := fun s => thnA_ok (s := s) (len := Γ.length) e2 ihr
    exact ⟨Nat.le_trans m1 (t .stk).1, fun ρ G => (t _).2 (k1 ρ G)⟩
  | asg t e1 =>
    intro Γ N o e
    obtain ⟨⟨x, M⟩, h1, h2⟩ := bs (show ((aE ac acd tk e1 Γ N).bind fun x => (aBind t x.1 Γ).map fun Γ' => (⟨some Γ', .bot, x.2⟩ : AO)) = some o from e)
    obtain ⟨Γ1, h3, h4⟩ := ms h2
    cases h4
    obtain ⟨m, k⟩ := E _ _ _ _ _ h1
    refine ⟨m, fun ρ G => ?_⟩
    obtain ⟨d, ρ1, g1, i1, G1⟩ := k ρ G
    obtain ⟨ρ2, g2, G2⟩ := aBind_ok h3 i1 G1
    rw [evS, g1, Out.toS_ok, g2, Out.lift_some, Out.toS_ok]
    exact res_next rfl G2 ((bind_len t).1 _ _ _ h3)
  | set i e1 =>
    intro Γ N o e
    obtain ⟨⟨x, M⟩, h1, h2⟩ := ms (show ((aE ac acd tk e1 Γ N).map fun x => (⟨some (Γ.set i (some x.1)), .bot, x.2⟩ : AO)) = some o from e)
    cases h2
    obtain ⟨m, k⟩ := E _ _ _ _ _ h1
    refine ⟨m, fun ρ G => ?_⟩
    obtain ⟨d, ρ1, g1, i1, G1⟩ := k ρ G
    rw [evS, g1, Out.toS_ok]
    exact res_next rfl (G1.set i i1) (List.length_set ..)
  | own i e1 =>
    intro Γ N o e
    obtain ⟨⟨x, M⟩, h1, h2⟩ := bs (show ((aE ac acd tk e1 Γ N).bind fun x => if isLst x.1 = true then some (⟨some (Γ.set i (some x.1)), .bot, x.2⟩ : AO) else none) = some o from e)
    split at h2
    · rename_i hL
      cases h2
      obtain ⟨m, k⟩ := E _ _ _ _ _ h1
      refine ⟨m, fun ρ G => ?_⟩
      obtain ⟨d, ρ1, g1, i1, G1⟩ := k ρ G
      obtain ⟨xs, rfl⟩ := isLst_ok hL i1
      rw [evS, g1, Out.toS_ok]
      exact res_next rfl (G1.set i i1) (List.length_set ..)
    · cases h2
  | app i e1 =>
    intro Γ N o e
    obtain ⟨t, h1, h2⟩ := bs (show ((gT Γ i).bind fun t => (aE ac acd tk e1 Γ N).bind fun x => (aApp t x.1).map fun r => (⟨some (Γ.set i (some r)), .bot, x.2⟩ : AO)) = some o from e)
    obtain ⟨⟨x, M⟩, h3, h4⟩ := bs h2
    obtain ⟨r, h5, h6⟩ := ms h4
    cases h6
    obtain ⟨m, k⟩ := E _ _ _ _ _ h3
    refine ⟨m, fun ρ G => ?_⟩
    obtain ⟨d, ρ1, g1, i1, G1⟩ := k ρ G
    obtain ⟨l0, f1, j0⟩ := G.at_ i t h1
    obtain ⟨l, f2, j⟩ := G1.at_ i t h1
    have hL : hasL ρ i = true := by
      obtain ⟨xs, rfl, _⟩ := aApp_ok h5 (j0.mono m) i1
      unfold hasL; rw [f1]
    obtain ⟨xs, rfl, q1, q2⟩ := aApp_ok h5 j i1
    have e2 : appD i d ρ1 = .next (ρ1.set i (some (.list (xs ++ [d])))) := by
      unfold appD
      rw [f2]
      exact if_pos q1
    rw [evS, if_pos hL, g1, Out.toS_ok, e2]
    exact res_next rfl (G1.set i q2) (List.length_set ..)
  | seti i kk e1 =>
    intro Γ N o e
    obtain ⟨t, h1, h2⟩ := bs (show ((gT Γ i).bind fun t => (aE ac acd tk e1 Γ N).bind fun x => (aE ac acd tk kk Γ x.2).bind fun y => (aSeti t y.1 x.1).map fun r => (⟨some (Γ.set i (some r)), .bot, y.2⟩ : AO)) = some o from e)
    obtain ⟨⟨x, M⟩, h3, h4⟩ := bs h2
    obtain ⟨⟨y, M'⟩, h5, h6⟩ := bs h4
    obtain ⟨r, h7, h8⟩ := ms h6
    cases h8
    obtain ⟨m, k⟩ := E _ _ _ _ _ h3
    obtain ⟨m', k'⟩ := E _ _ _ _ _ h5
    refine ⟨Nat.le_trans m m', fun ρ G => ?_⟩
    obtain ⟨d, ρ1, g1, i1, G1⟩ := k ρ G
    obtain ⟨yv, ρ2, g2, i2, G2⟩ := k' ρ1 G1
    obtain ⟨l, f2, j⟩ := G2.at_ i t h1
    obtain ⟨l1, f1, j1⟩ := G1.at_ i t h1
    obtain ⟨z, q1, q2⟩ := aSeti_ok h7 j i2 (i1.mono m')
    have hL : hasL ρ1 i = true := by
      obtain ⟨z', q1', _⟩ := aSeti_ok h7 (j1.mono m') i2 (i1.mono m')
      cases l1 <;> first | (cases q1'; done) | skip
      unfold hasL; rw [f1]
    have e2 : setD i yv d ρ2 = .next (ρ2.set i (some z)) := by
      unfold setD
      rw [f2]
      dsimp only
      rw [q1]
    rw [evS, g1, Out.toS_ok, if_pos hL, g2, Out.toS_ok, e2]
    exact res_next rfl (G2.set i q2) (List.length_set ..)
  | aug i op e1 =>
    intro Γ N o e
    obtain ⟨t, h1, h2⟩ := bs (show ((gT Γ i).bind fun t => (aE ac acd tk e1 Γ N).bind fun x => (map2 (aBin op) t x.1).map fun r => (⟨some (Γ.set i (some r)), .bot, x.2⟩ : AO)) = some o from e)
    obtain ⟨⟨x, M⟩, h3, h4⟩ := bs h2
    obtain ⟨r, h5, h6⟩ := ms h4
    cases h6
    obtain ⟨m, k⟩ := E _ _ _ _ _ h3
    refine ⟨m, fun ρ G => ?_⟩
    obtain ⟨d, ρ1, g1, i1, G1⟩ := k ρ G
    obtain ⟨l0, f1, j0⟩ := G.at_ i t h1
    obtain ⟨v, q1, q2⟩ := map2_ok (aBin_ok op) _ _ _ h5 l0 d (j0.mono m) i1
    rw [evS, f1]
    dsimp only
    rw [g1, Out.toS_ok, q1, Out.lift_some, Out.toS_ok]
    exact res_next rfl (G1.set i q2) (List.length_set ..)
  | exp e1 =>
    intro Γ N o e
    obtain ⟨⟨x, M⟩, h1, h2⟩ := ms (show ((aE ac acd tk e1 Γ N).map fun x => (⟨some Γ, .bot, x.2⟩ : AO)) = some o from e)
    cases h2
    obtain ⟨m, k⟩ := E _ _ _ _ _ h1
    refine ⟨m, fun ρ G => ?_⟩
    obtain ⟨d, ρ1, g1, i1, G1⟩ := k ρ G
    rw [evS, g1, Out.toS_ok]
    exact res_next rfl G1 rfl
  | par i j a b =>
    intro Γ N o e
    obtain ⟨⟨x, M⟩, h1, h2⟩ := bs (show ((aE ac acd tk a Γ N).bind fun x => (aE ac acd tk b Γ x.2).map fun y => (⟨some ((Γ.set i (some x.1)).set j (some y.1)), .bot, y.2⟩ : AO)) = some o from e)
    obtain ⟨⟨y, M'⟩, h3, h4⟩ := ms h2
    cases h4
    obtain ⟨m, k⟩ := E _ _ _ _ _ h1
    obtain ⟨m', k'⟩ := E _ _ _ _ _ h3
    refine ⟨Nat.le_trans m m', fun ρ G => ?_⟩
    obtain ⟨xv, ρ1, g1, i1, G1⟩ := k ρ G
    obtain ⟨yv, ρ2, g2, i2, G2⟩ := k' ρ1 G1
    rw [evS, g1, Out.toS_ok, g2, Out.toS_ok]
    exact res_next rfl ((G2.set i (i1.mono m')).set j i2) (by rw [List.length_set, List.length_set])
  | ifs c a b iha ihb =>
    intro Γ N o e
    rw [aS] at e
    obtain ⟨⟨x, M⟩, h1, h2⟩ := bs e
    obtain ⟨y, h3, h4⟩ := bs h2
    obtain ⟨z, h5, h6⟩ := ms h4
    cases h6
    obtain ⟨m, k⟩ := E _ _ _ _ _ h1
    dsimp only at h3 h5
    have m2 : M ≤ y.N := by
      split at h3
      · exact (iha _ _ _ h3).1
      · cases h3; exact Nat.le_refl _
    have m3 : y.N ≤ z.N := by
      split at h5
      · exact (ihb _ _ _ h5).1
      · cases h5; exact Nat.le_refl _
    have ly : ∀ Γ', y.nx = some Γ' → Γ'.length = Γ.length := fun Γ2 h => by
      split at h3
      · rename_i hb
        rw [aS_len a _ _ _ _ h3 h, br_len hb]
      · cases h3; cases h
    have lz : ∀ Γ', z.nx = some Γ' → Γ'.length = Γ.length := fun Γ2 h => by
      split at h5
      · rename_i hb
        rw [aS_len b _ _ _ _ h5 h, br_len hb]
      · cases h5; cases h
    refine ⟨Nat.le_trans m (Nat.le_trans m2 m3), fun ρ G => ?_⟩
    obtain ⟨v, ρ1, g1, i1, G1⟩ := k ρ G
    rw [evS, g1, Out.toS_ok]
    cases hv : tru v with
    | true =>
      obtain ⟨Γ', q1, G2⟩ := br_ok (b := true) g1 i1 hv G G1 m
      rw [q1] at h3
      have s := (iha _ _ _ h3).2 ρ1 G2
      rw [br_len q1] at s
      rw [if_pos rfl]
      exact s.mono m3 (fun Γ2 ρ2 f1 f2 f3 => jO_l f1 f3 f2 lz) (fun d i => jn_ok _ _ _ (.inl i))
    | false =>
      obtain ⟨Γ', q1, G2⟩ := br_ok (b := false) g1 i1 hv G G1 m
      rw [q1] at h5
      have s := (ihb _ _ _ h5).2 ρ1 (G2.mono m2)
      rw [br_len q1] at s
      rw [if_neg (by simp)]
      exact s.mono (Nat.le_refl _) (fun Γ2 ρ2 f1 f2 f3 => jO_r f1 f3 f2 ly) (fun d i => jn_ok _ _ _ (.inr i))
  | fors t it b ih =>
    intro Γ N o e
    rw [aS] at e
    obtain ⟨⟨x, M⟩, h1, h2⟩ := bs e
    obtain ⟨⟨us, n, u⟩, h3, h4⟩ := bs h2
    obtain ⟨o1, h5, h6⟩ := bs h4
    obtain ⟨m, k⟩ := E _ _ _ _ _ h1
    obtain ⟨m1, k1⟩ := forD_ok ih t us h5
    have m2 : o1.N ≤ o.N := by
      unfold thnA at h6
      split at h6
      · cases h6; exact Nat.le_refl _
      · obtain ⟨r', q1, q2⟩ := ms h6
        cases q2
        exact (forM_ok ih (aS_len b) t u n q1).1
    refine ⟨Nat.le_trans m (Nat.le_trans m1 m2), fun ρ G => ?_⟩
    obtain ⟨v, ρ1, g1, i1, G1⟩ := k ρ G
    obtain ⟨ys, zs, g2, i2, g3, i3⟩ := tIt_ok h3 i1
    have e7 : evS call hcall cur (.fors t it b) ρ = forLoop (forT t (evS call hcall cur b)) (ys ++ zs) ρ1 := by
      rw [evS, evW, g1, Out.bind_ok, g2, Out.lift_some, Out.toS_ok]
    have e8 : ∀ (f : D → Ev → SOut) (xs ys : List D) (ρ : Ev), forLoop f (xs ++ ys) ρ = (forLoop f xs ρ).thn fun ρ => forLoop f ys ρ := by
      intro f xs
      induction xs with
      | nil => intro ys ρ; rfl
      | cons x xs ih =>
        intro ys ρ
        show (f x ρ).thn (fun ρ => forLoop f (xs ++ ys) ρ) = ((f x ρ).thn fun ρ => forLoop f xs ρ).thn _
        cases f x ρ with
        | next ρ1 => rw [SOut.thn_next, SOut.thn_next, ih]
        | ret d ρ1 => rfl
        | exc d ρ1 => rfl
        | stk => rfl
    rw [e7, e8]
    have s1 := k1 ys ρ1 i2 G1
    rcases s1 with ⟨ρ', Γ', q3, q4, G2, l⟩ | ⟨d, ρ', q3, j, hk⟩
    · rw [q3, SOut.thn_next]
      unfold thnA at h6
      rw [q4] at h6
      obtain ⟨r', q5, q6⟩ := ms h6
      cases q6
      have := (forM_ok ih (aS_len b) t u n q5).2 zs ρ' g3 (fun z hz => (i3 z hz).mono m1) G2
      rw [l] at this
      exact this.mono (Nat.le_refl _) (fun Γ3 ρ3 g1 g2 g3 => ⟨Γ3, g1, g3, g2⟩) (fun d i => jn_ok _ _ _ (.inr i))
    · rw [q3]
      refine .inr ⟨d, ρ', rfl, ?_, fun z => by
        obtain ⟨dk, g1, g2⟩ := hk z
        exact ⟨dk, g1, g2.mono m2⟩⟩
      unfold thnA at h6
      split at h6
      · cases h6; exact j
      · obtain ⟨r', q5, q6⟩ := ms h6
        cases q6
        exact jn_ok _ _ _ (.inl (j.mono m2))
  | ret e1 =>
    intro Γ N o e
    rw [aS] at e
    split at e
    · rename_i hd
      obtain ⟨⟨x, M⟩, h1, h2⟩ := ms e
      cases h2
      obtain ⟨m, k⟩ := E _ _ _ _ _ h1
      refine ⟨m, fun ρ G => ?_⟩
      obtain ⟨d, ρ1, g1, i1, G1⟩ := k ρ G
      rw [evS, g1, Out.toS_ok]
      exact .inr ⟨d, ρ1, rfl, i1, dk0_ok hd G1⟩
    · cases e
  | rtn =>
    intro Γ N o e
    rw [aS] at e
    split at e
    · rename_i hd
      cases e
      exact ⟨Nat.le_refl _, fun ρ G => .inr ⟨.none, ρ, rfl, rfl, dk0_ok hd G⟩⟩
    · cases e
  | _ => intro Γ N o e; cases e
end
/-! defs -/
def toTS : T → TS
  | .cons a r => some a :: toTS r
  | _ => []
theorem toTS_ok {N : Nat} : ∀ {ts : T} {xs : List D}, InL N ts xs → xs.length = (toTS ts).length ∧ ∀ i t, gT (toTS ts) i = some t → ∃ d, getV (xs.map some) i = some d ∧ In N t d := by
  intro ts
  induction ts with
  | nil => intro xs i; rw [show xs = [] from i]; exact ⟨rfl, fun i t e => by cases e⟩
  | cons a r _ ih =>
    intro xs i
    obtain ⟨x, ys, rfl, i1, i2⟩ := i
    obtain ⟨h1, h2⟩ := ih i2
    refine ⟨congrArg (· + 1) h1, fun i t e => ?_⟩
    cases i with
    | zero => cases e; exact ⟨x, rfl, i1⟩
    | succ i => exact h2 i t e
  | _ => intro xs i; exact i.elim
def initT (fn : Fn) (ts : T) : TS := toTS ts ++ List.replicate (fn.ns - fn.np) none
theorem init_ok {N : Nat} {fn : Fn} {ts : T} {xs : List D} (i : InL N ts xs) : InG N (initT fn ts) (xs.map some ++ List.replicate (fn.ns - fn.np) none) := by
  obtain ⟨h1, h2⟩ := toTS_ok i
  refine ⟨by simp [initT, h1], fun j t e => ?_⟩
  by_cases hj : j < (toTS ts).length
  · have e1 : gT (initT fn ts) j = gT (toTS ts) j := by
      unfold gT initT
      rw [List.getElem?_append_left hj]
    obtain ⟨d, h3, h4⟩ := h2 j t (e1 ▸ e)
    refine ⟨d, ?_, h4⟩
    unfold getV at h3 ⊢
    rw [List.getElem?_append_left (by simpa [h1] using hj)]
    exact h3
  · exfalso
    unfold gT initT at e
    rw [List.getElem?_append_right (by omega), List.getElem?_replicate] at e
    split at e <;> cases e
def retT (o : AO) : T := match o.nx with
  | some _ => jn o.rt .non
  | none => o.rt
def endB (io : Bool) (o : AO) : Bool := match o.nx with
  | some Γ => dk0 io Γ
  | none => true
/-- a def over types, out of those that it calls -/
def aFn (P : Nat → Option Fn) (tk : Nat) (io : Bool) (p : (Nat → T → Nat → Option (T × Nat)) × (Nat → T → Nat → Option (T × Nat))) (f : Nat) (ts : T) (N : Nat) : Option (T × Nat) := match P f with
  | some fn => if (decide (tlen ts = fn.np) && !fn.hot && (fn.io == io) && !fn.fr) = true then (aS p.1 p.2 tk io fn.body (initT fn ts) N).bind fun o => if endB io o = true then some (retT o, o.N) else none else none
  | none => none
/-- alternatives of an argument, each by itself -/
def spl1 : T → Option (T × T)
  | .cons (.or a b) r => some (.cons a r, .cons b r)
  | .cons a r => (spl1 r).map fun p => (.cons a p.1, .cons a p.2)
  | _ => none
def spl (g : T → Nat → Option (T × Nat)) : Nat → T → Nat → Option (T × Nat)
  | 0, ts, N => g ts N
  | n + 1, ts, N => match spl1 ts with
    | some (t1, t2) => (spl g n t1 N).bind fun x => (spl g n t2 x.2).map fun y => (jn x.1 y.1, y.2)
    | none => g ts N
theorem spl1_ok {N : Nat} : ∀ {ts t1 t2 : T}, spl1 ts = some (t1, t2) → ∀ {xs : List D}, InL N ts xs → InL N t1 xs ∨ InL N t2 xs := by
  intro ts
  fun_induction spl1 ts with
  | case1 a b r =>
    intro t1 t2 e xs i
    cases e
    obtain ⟨x, ys, rfl, i1, i2⟩ := i
    exact i1.elim (fun z => .inl ⟨x, ys, rfl, z, i2⟩) (fun z => .inr ⟨x, ys, rfl, z, i2⟩)
  | case2 a r _ ih =>
    intro t1 t2 e xs i
    obtain ⟨p, e1, e2⟩ := ms e
    cases e2
    obtain ⟨x, ys, rfl, i1, i2⟩ := i
    exact (ih e1 i2).elim (fun z => .inl ⟨x, ys, rfl, i1, z⟩) (fun z => .inr ⟨x, ys, rfl, i1, z⟩)
  | case3 => intro t1 t2 e; cases e
/-- what is known of some defs otherwise, from a level on -/
abbrev Sm := Nat → Option (Nat × (T → Nat → Option (T × Nat)))
def acJ (P : Nat → Option Fn) (tk : Nat) (sm : Sm) : Nat → (Nat → T → Nat → Option (T × Nat)) × (Nat → T → Nat → Option (T × Nat))
  | 0 => (fun _ _ _ => none, fun _ _ _ => none)
  | j + 1 => (fun f ts N => spl (aFn P tk false (acJ P tk sm j) f) 12 ts N, fun f ts N => match sm f with
    | some (m, g) => if Nat.ble m j = true then g ts N else none
    | none => spl (aFn P tk true (acJ P tk sm j) f) 12 (.cons .dk ts) N)
structure SmOk (P : Nat → Option Fn) (tk : Nat) (sm : Sm) : Prop where
  t : ∀ (j N : Nat) (dk : D) (many : Int), DkN N dk → N ≤ 1000000 → 0 < many → many < 1073741824 → ∃ (w : Nat) (d' : D), run P (j + 2) tk [dk, .int many] = .ret (.int w) d' ∧ (w : Int) < many ∧ DkN (N + 1) d'
  s : ∀ f m g, sm f = some (m, g) → ∀ j, m ≤ j → ∀ ts N t N', g ts N = some (t, N') → N ≤ N' ∧ ∀ dk ds, DkN N dk → InL N ts ds → ∃ d o, run P (j + 3) f (dk :: ds) = .ret d o ∧ In N' t d ∧ DkN N' o
theorem aFn_ok {P : Nat → Option Fn} {tk : Nat} {io : Bool} {k : Nat} {p : (Nat → T → Nat → Option (T × Nat)) × (Nat → T → Nat → Option (T × Nat))} (hc : CallOk (run P k) p.1 p.2 tk) {f : Nat} {ts : T} {N : Nat} {t : T} {N' : Nat} (e : aFn P tk io p f ts N = some (t, N')) :
    N ≤ N' ∧ ∀ ds, InL N ts ds → ∃ d o, run P (k + 1) f ds = .ret d o ∧ In N' t d ∧ (io = true → DkN N' o) := by
  unfold aFn at e
  split at e
  · rename_i fn hP
    split at e
    · rename_i q
      obtain ⟨q, q4⟩ := a2 q
      obtain ⟨q, q3⟩ := a2 q
      obtain ⟨q1, q2⟩ := a2 q
      have q1 := of_decide_eq_true q1
      have q2 : fn.hot = false := by simpa using q2
      have q3 : fn.io = io := eq_of_beq q3
      have q4 : fn.fr = false := by simpa using q4
      obtain ⟨o, e1, e2⟩ := bs e
      split at e2
      · rename_i he
        cases e2
        obtain ⟨m, k1⟩ := aS_ok (hcall := runH P k) (cur := .none) hc fn.body _ _ _ e1
        refine ⟨m, fun ds i => ?_⟩
        rw [run_ret hP (by rw [InL.len i, q1]) q2]
        rcases k1 _ (init_ok (fn := fn) i) with ⟨ρ', Γ', h1, h2, G, l⟩ | ⟨d, ρ', h1, h2, hk⟩
        · have h1 : evS (runB P k).1 (runB P k).2 .none fn.body (ds.map some ++ List.replicate (fn.ns - fn.np) none) = .next ρ' := h1
          rw [h1]
          have hr : retT o = jn o.rt .non := by unfold retT; rw [h2]
          have hn : In o.N (retT o) .none := by rw [hr]; exact jn_ok _ _ _ (.inr rfl)
          unfold Fn.endS
          dsimp only
          rw [if_neg (by rw [q4]; simp)]
          unfold Fn.endS.outS
          cases io with
          | false => rw [if_neg (by rw [q3]; simp)]; exact ⟨.none, .none, rfl, hn, fun z => nomatch z⟩
          | true =>
            rw [if_pos q3]
            unfold endB at he
            rw [h2] at he
            obtain ⟨dk, g1, g2⟩ := dk0_ok he G rfl
            rw [g1]
            exact ⟨.none, dk, rfl, hn, fun _ => g2⟩
        · have h1 : evS (runB P k).1 (runB P k).2 .none fn.body (ds.map some ++ List.replicate (fn.ns - fn.np) none) = .ret d ρ' := h1
          rw [h1]
          have hn : In o.N (retT o) d := by
            unfold retT
            split
            · exact jn_ok _ _ _ (.inl h2)
            · exact h2
          unfold Fn.endS
          dsimp only
          unfold Fn.endS.outS
          cases io with
          | false => rw [if_neg (by rw [q3]; simp)]; exact ⟨d, .none, rfl, hn, fun z => nomatch z⟩
          | true =>
            rw [if_pos q3]
            obtain ⟨dk, g1, g2⟩ := hk rfl
            rw [g1]
            exact ⟨d, dk, rfl, hn, fun _ => g2⟩
      · cases e2
    · cases e
  · cases e
theorem spl_ok {P : Nat → Option Fn} {io : Bool} {k f : Nat} {g : T → Nat → Option (T × Nat)} (hg : ∀ {ts : T} {N : Nat} {t : T} {N' : Nat}, g ts N = some (t, N') → N ≤ N' ∧ ∀ ds, InL N ts ds → ∃ d o, run P k f ds = .ret d o ∧ In N' t d ∧ (io = true → DkN N' o)) :
    ∀ (n : Nat) {ts : T} {N : Nat} {t : T} {N' : Nat}, spl g n ts N = some (t, N') → N ≤ N' ∧ ∀ ds, InL N ts ds → ∃ d o, run P k f ds = .ret d o ∧ In N' t d ∧ (io = true → DkN N' o)
  | 0, _, _, _, _, e => hg e
  | n + 1, ts, N, t, N', e => by
    unfold spl at e
    split at e
    · rename_i t1 t2 h
      obtain ⟨⟨x, M⟩, e1, e2⟩ := bs e
      obtain ⟨⟨y, M'⟩, e3, e4⟩ := ms e2
      cases e4
      obtain ⟨m1, k1⟩ := spl_ok hg n e1
      obtain ⟨m2, k2⟩ := spl_ok hg n e3
      refine ⟨Nat.le_trans m1 m2, fun ds i => ?_⟩
      rcases spl1_ok h i with i | i
      · obtain ⟨d, o, h1, h2, h3⟩ := k1 ds i
        exact ⟨d, o, h1, jn_ok _ _ _ (.inl (h2.mono m2)), fun z => (h3 z).mono m2⟩
      · obtain ⟨d, o, h1, h2, h3⟩ := k2 ds (i.mono m1)
        exact ⟨d, o, h1, jn_ok _ _ _ (.inr h2), h3⟩
    · exact hg e
theorem acJ_ok {P : Nat → Option Fn} {tk : Nat} {sm : Sm} (hs : SmOk P tk sm) : ∀ j, CallOk (run P (j + 2)) (acJ P tk sm j).1 (acJ P tk sm j).2 tk
  | 0 => ⟨fun f ts N t N' e => (by cases e), fun f ts N t N' e => (by cases e), hs.t 0⟩
  | j + 1 => by
    have ih := acJ_ok hs j
    refine ⟨fun f ts N t N' e => ?_, fun f ts N t N' e => ?_, hs.t (j + 1)⟩
    · obtain ⟨m, k⟩ := spl_ok (aFn_ok ih) 12 (show spl (aFn P tk false (acJ P tk sm j) f) 12 ts N = some (t, N') from e)
      exact ⟨m, fun ds i => by
        obtain ⟨d, o, h1, h2, _⟩ := k ds i
        exact ⟨d, o, h1, h2⟩⟩
    · have e : (match sm f with
        | some (m, g) => if Nat.ble m j = true then g ts N else none
        | none => spl (aFn P tk true (acJ P tk sm j) f) 12 (.cons .dk ts) N) = some (t, N') := e
      split at e
      · rename_i m g hm
        split at e
        · rename_i q
          exact hs.s f m g hm j (bleI q) ts N t N' e
        · cases e
      · obtain ⟨m, k⟩ := spl_ok (aFn_ok ih) 12 e
        refine ⟨m, fun dk ds hd i => ?_⟩
        obtain ⟨d, o, h1, h2, h3⟩ := k (dk :: ds) ⟨dk, ds, rfl, hd, i⟩
        exact ⟨d, o, h1, h2, h3 rfl⟩
end BV
set_option Elab.async false
set_option linter.all false
set_option maxRecDepth 100000
set_option maxHeartbeats 4000000
/-! BTC: how much a type shows. -/
namespace BV
open PySem
/-- a bound of repr's length, where all shows -/
def shwT : T → Option Nat
  | .bot => some 0
  | .non => some 4
  | .int l h => if (decide (-(10 ^ 40) < l) && decide (h < 10 ^ 40)) = true then some 41 else none
  | .bl => some 5
  | .cb _ => some 5
  | .cs s => if PyData.strOk s = true then some (10 * s.length + 8) else none
  | .dg => some 138
  | .tup t => (shwT t).map fun n => n + 2 * tlen t + 3
  | .lst t => (shwT t).map fun n => n + 2 * tlen t + 3
  | .seq _ _ hi t => (shwT t).map fun n => hi * n + 2 * hi + 3
  | .nil => some 0
  | .cons a r => (shwT a).bind fun x => (shwT r).map fun y => x + y
  | .or a b => (shwT a).bind fun x => (shwT b).map fun y => max x y
  | .dc => some 2
  | _ => none
/-- a bound of the depth -/
def dpT : T → Nat
  | .dc => 1
  | .tup t => dpT t + 1
  | .lst t => dpT t + 1
  | .seq _ _ _ t => dpT t + 1
  | .cons a r => max (dpT a) (dpT r)
  | .or a b => max (dpT a) (dpT b)
  | _ => 0
section
variable {N : Nat}
theorem str_shown {x : Str} (h : PyData.strOk x = true) : (PyData.shown (.str x)).length ≤ 10 * x.length + 8 := by
  have h1 : PyData.leavesShort 8 (.str x) = true := by
    simp only [PyData.leavesShort, List.all_eq_true, decide_eq_true_eq]
    intro c hc
    have := ok_iff.mp h c hc
    have : (0x110000 : Nat) < 16 ^ 8 := by decide
    omega
  have h2 := PyData.shown_le 8 (Nat.le_refl 8) (.str x) h1
  have h3 : PyData.weight (.str x) = x.length := by simp [PyData.weight, Str.length]
  rw [h3] at h2
  exact h2
theorem int_shown {i : Int} (h : i.natAbs < 10 ^ 40) : (PyData.shown (.int i)).length ≤ 41 ∧ i.natAbs.log2 < 1920 := by
  have e := int_text_length_le10 (k := 40) (by decide) h
  refine ⟨?_, ?_⟩
  · show (Str.ofString (toString i)).length ≤ 41
    rw [ofString_length]; exact e
  · by_cases h0 : i.natAbs = 0
    · rw [h0]; decide
    · exact (Nat.log2_lt h0).mpr (Nat.lt_of_lt_of_le h (by decide +kernel))
/-- what is wanted of a datum -/
def Sh1 (n : Nat) (d : D) : Prop := d.showable = true ∧ d.shown.length ≤ n
theorem all_show {xs : List D} : (∀ x ∈ xs, x.showable = true) → PyData.showableAll xs = true := by
  induction xs with
  | nil => intro _; rfl
  | cons x xs ih =>
    intro h
    simp only [PyData.showableAll, Bool.and_eq_true]
    exact ⟨h x List.mem_cons_self, ih fun y hy => h y (List.mem_cons_of_mem _ hy)⟩
theorem shownAll_len : ∀ xs : List D, (PyData.shownAll xs).length = xs.length
  | [] => rfl
  | x :: xs => by simp only [PyData.shownAll, List.length_cons, shownAll_len xs]
theorem sum_seq {n : Nat} : ∀ xs : List D, (∀ x ∈ xs, x.shown.length ≤ n) → ((PyData.shownAll xs).map (·.length)).sum ≤ xs.length * n
  | [], _ => by simp [PyData.shownAll]
  | x :: xs, h => by
    have h1 := h x List.mem_cons_self
    have h2 := sum_seq xs fun y hy => h y (List.mem_cons_of_mem _ hy)
    simp only [PyData.shownAll, List.map_cons, List.sum_cons, List.length_cons, Nat.add_mul]
    omega
theorem list_shown (xs : List D) : (PyData.shown (.list xs)).length ≤ ((PyData.shownAll xs).map (·.length)).sum + 2 * xs.length + 3 := by
  have := listText_len_le (PyData.shownAll xs)
  rw [shownAll_len] at this
  simpa only [PyData.shown] using this
theorem tup_shown (xs : List D) : (PyData.shown (.tuple xs)).length ≤ ((PyData.shownAll xs).map (·.length)).sum + 2 * xs.length + 3 := by
  have := tupleText_len_le (PyData.shownAll xs)
  rw [shownAll_len] at this
  simpa only [PyData.shown] using this
theorem shw_ok : ∀ t : T, (∀ n, shwT t = some n → ∀ d, In N t d → Sh1 n d) ∧ (∀ n, shwT t = some n → ∀ xs, InL N t xs → (∀ x ∈ xs, x.showable = true) ∧ ((PyData.shownAll xs).map (·.length)).sum ≤ n) := by
  intro t
  induction t with
  | bot => exact ⟨fun n e d z => z.elim, fun n e d z => z.elim⟩
  | non => exact ⟨fun n e d z => by cases e; cases (show d = _ from z); exact ⟨rfl, by decide +kernel⟩, fun n e d z => z.elim⟩
  | int l h =>
    refine ⟨fun n e d z => ?_, fun n e d z => z.elim⟩
    have e : (if (decide (-(10 ^ 40) < l) && decide (h < 10 ^ 40)) = true then some 41 else none) = some n := e
    split at e
    · rename_i q
      cases e
      obtain ⟨q1, q2⟩ := a2 q
      have q1 := of_decide_eq_true q1
      have q2 := of_decide_eq_true q2
      obtain ⟨i, rfl, h1, h2⟩ := z
      have := int_shown (i := i) (by omega)
      exact ⟨by simpa [PyData.showable] using this.2, this.1⟩
    · cases e
  | bl => exact ⟨fun n e d ⟨b, z⟩ => by cases e; subst z; cases b <;> exact ⟨rfl, by decide +kernel⟩, fun n e d z => z.elim⟩
  | cb b => exact ⟨fun n e d z => by cases e; cases (show d = _ from z); cases b <;> exact ⟨rfl, by decide +kernel⟩, fun n e d z => z.elim⟩
  | str _ _ => exact ⟨(fun n e => by cases e), fun n e => by cases e⟩
  | cs s =>
    refine ⟨fun n e d z => ?_, fun n e d z => z.elim⟩
    have e : (if PyData.strOk s = true then some (10 * s.length + 8) else none) = some n := e
    split at e
    · rename_i q
      cases e
      cases (show d = _ from z)
      exact ⟨rfl, str_shown q⟩
    · cases e
  | dg =>
    refine ⟨fun n e d z => ?_, fun n e d z => z.elim⟩
    cases e
    obtain ⟨i, rfl, h1, h2⟩ := z
    have := str_shown (x := toString i) (ok_ofString _)
    exact ⟨rfl, by omega⟩
  | tup ts ih =>
    refine ⟨fun n e d z => ?_, fun n e d z => z.elim⟩
    obtain ⟨m, e1, rfl⟩ := ms (show (shwT ts).map (fun n => n + 2 * tlen ts + 3) = some n from e)
    obtain ⟨xs, rfl, i⟩ := z
    obtain ⟨h1, h2⟩ := ih.2 m e1 xs i
    have := tup_shown xs
    have := InL.len i
    exact ⟨by simpa [PyData.showable] using all_show h1, by omega⟩
  | lst ts ih =>
    refine ⟨fun n e d z => ?_, fun n e d z => z.elim⟩
    obtain ⟨m, e1, rfl⟩ := ms (show (shwT ts).map (fun n => n + 2 * tlen ts + 3) = some n from e)
    obtain ⟨xs, rfl, i⟩ := z
    obtain ⟨h1, h2⟩ := ih.2 m e1 xs i
    have := list_shown xs
    have := InL.len i
    exact ⟨by simpa [PyData.showable] using all_show h1, by omega⟩
  | seq l lo hi t ih =>
    refine ⟨fun n e d z => ?_, fun n e d z => z.elim⟩
    obtain ⟨m, e1, rfl⟩ := ms (show (shwT t).map (fun n => hi * n + 2 * hi + 3) = some n from e)
    obtain ⟨xs, rfl, i1, i2, i3⟩ := z
    have h1 : ∀ x ∈ xs, x.showable = true := fun x hx => (ih.1 m e1 x (i3 x hx)).1
    have h2 := sum_seq xs fun x hx => (ih.1 m e1 x (i3 x hx)).2
    have h3 : xs.length * m ≤ hi * m := Nat.mul_le_mul_right _ i2
    cases l
    · have := tup_shown xs
      exact ⟨by simpa [PyData.showable, sq] using all_show h1, by simp only [sq]; simp; omega⟩
    · have := list_shown xs
      exact ⟨by simpa [PyData.showable, sq] using all_show h1, by simp only [sq]; simp; omega⟩
  | nil =>
    refine ⟨fun n e d z => z.elim, fun n e xs z => ?_⟩
    rw [show xs = [] from z]
    exact ⟨(fun x hx => by cases hx), by simp [PyData.shownAll]⟩
  | cons a r iha ihr =>
    refine ⟨fun n e d z => z.elim, fun n e xs z => ?_⟩
    obtain ⟨x, e1, e2⟩ := bs (show ((shwT a).bind fun x => (shwT r).map fun y => x + y) = some n from e)
    obtain ⟨y, e3, rfl⟩ := ms e2
    obtain ⟨v, vs, rfl, i1, i2⟩ := z
    obtain ⟨h1, h2⟩ := iha.1 x e1 v i1
    obtain ⟨h3, h4⟩ := ihr.2 y e3 vs i2
    refine ⟨fun w hw => ?_, ?_⟩
    · rcases List.mem_cons.mp hw with rfl | hw
      · exact h1
      · exact h3 w hw
    · simp only [PyData.shownAll, List.map_cons, List.sum_cons]
      omega
  | or a b iha ihb =>
    refine ⟨fun n e d z => ?_, fun n e d z => z.elim⟩
    obtain ⟨x, e1, e2⟩ := bs (show ((shwT a).bind fun x => (shwT b).map fun y => max x y) = some n from e)
    obtain ⟨y, e3, rfl⟩ := ms e2
    rcases z with z | z
    · have := iha.1 x e1 d z; exact ⟨this.1, by have := this.2; omega⟩
    · have := ihb.1 y e3 d z; exact ⟨this.1, by have := this.2; omega⟩
  | dk => exact ⟨(fun n e => by cases e), fun n e => by cases e⟩
  | dc => exact ⟨fun n e d z => by cases e; cases (show d = _ from z); exact ⟨rfl, by decide +kernel⟩, fun n e d z => z.elim⟩
theorem all_dep2 {xs : List D} {n : Nat} (h : ∀ x ∈ xs, x.depth ≤ n) : PyData.depthAll xs ≤ n := all_dep h
theorem dp_ok : ∀ t : T, (∀ n, shwT t = some n → ∀ d, In N t d → d.depth ≤ dpT t) ∧ (∀ n, shwT t = some n → ∀ xs, InL N t xs → ∀ x ∈ xs, x.depth ≤ dpT t) := by
  intro t
  induction t with
  | bot => exact ⟨fun n e d z => z.elim, fun n e d z => z.elim⟩
  | non => exact ⟨fun n e d z => by cases (show d = _ from z); simp [PyData.depth], fun n e d z => z.elim⟩
  | int l h => exact ⟨fun n e d ⟨i, z, _⟩ => by subst z; simp [PyData.depth], fun n e d z => z.elim⟩
  | bl => exact ⟨fun n e d ⟨i, z⟩ => by subst z; simp [PyData.depth], fun n e d z => z.elim⟩
  | cb b => exact ⟨fun n e d z => by cases (show d = _ from z); simp [PyData.depth], fun n e d z => z.elim⟩
  | str _ _ => exact ⟨fun n e d ⟨i, z, _⟩ => by subst z; simp [PyData.depth], fun n e d z => z.elim⟩
  | cs s => exact ⟨fun n e d z => by cases (show d = _ from z); simp [PyData.depth], fun n e d z => z.elim⟩
  | dg => exact ⟨fun n e d ⟨i, z, _⟩ => by subst z; simp [PyData.depth], fun n e d z => z.elim⟩
  | tup ts ih =>
    refine ⟨fun n e d ⟨xs, z, i⟩ => ?_, fun n e d z => z.elim⟩
    subst z
    obtain ⟨m, e1, rfl⟩ := ms (show (shwT ts).map (fun n => n + 2 * tlen ts + 3) = some n from e)
    have := all_dep2 (ih.2 m e1 xs i)
    simp only [PyData.depth, dpT]; omega
  | lst ts ih =>
    refine ⟨fun n e d ⟨xs, z, i⟩ => ?_, fun n e d z => z.elim⟩
    subst z
    obtain ⟨m, e1, rfl⟩ := ms (show (shwT ts).map (fun n => n + 2 * tlen ts + 3) = some n from e)
    have := all_dep2 (ih.2 m e1 xs i)
    simp only [PyData.depth, dpT]; omega
  | seq l lo hi t ih =>
    refine ⟨fun n e d ⟨xs, z, _, _, i⟩ => ?_, fun n e d z => z.elim⟩
    obtain ⟨m, e1, rfl⟩ := ms (show (shwT t).map (fun n => hi * n + 2 * hi + 3) = some n from e)
    have := all_dep2 fun x hx => ih.1 m e1 x (i x hx)
    subst z
    cases l <;> simp only [sq] <;> simp [PyData.depth, dpT] <;> omega
  | nil => exact ⟨fun n e d z => z.elim, fun n e xs z x hx => by rw [show xs = [] from z] at hx; cases hx⟩
  | cons a r iha ihr =>
    refine ⟨fun n e d z => z.elim, fun n e xs z w hw => ?_⟩
    obtain ⟨x, e1, e2⟩ := bs (show ((shwT a).bind fun x => (shwT r).map fun y => x + y) = some n from e)
    obtain ⟨y, e3, rfl⟩ := ms e2
    obtain ⟨v, vs, rfl, i1, i2⟩ := z
    show _ ≤ max (dpT a) (dpT r)
    rcases List.mem_cons.mp hw with rfl | hw
    · have := iha.1 x e1 _ i1; omega
    · have := ihr.2 y e3 vs i2 w hw; omega
  | or a b iha ihb =>
    refine ⟨fun n e d z => ?_, fun n e d z => z.elim⟩
    obtain ⟨x, e1, e2⟩ := bs (show ((shwT a).bind fun x => (shwT b).map fun y => max x y) = some n from e)
    obtain ⟨y, e3, rfl⟩ := ms e2
    show _ ≤ max (dpT a) (dpT b)
    rcases z with z | z
    · have := iha.1 x e1 d z; omega
    · have := ihb.1 y e3 d z; omega
  | dk => exact ⟨(fun n e => by cases e), fun n e => by cases e⟩
  | dc => exact ⟨fun n e d z => by cases (show d = _ from z); simp [PyData.depth, PyData.depthKv, dpT], fun n e d z => z.elim⟩
/-- a type that repr takes -/
def repB (t : T) : Bool := match shwT t with
  | some n => Nat.ble n LIM && Nat.ble (dpT t) 64
  | none => false
theorem repr_ok {t : T} (h : repB t = true) {d : D} (i : In N t d) : opBlt .repr [d] = some (.str d.shown) := by
  unfold repB at h
  split at h
  · rename_i n e
    obtain ⟨h1, h2⟩ := a2 h
    have h1 := bleI h1
    have h2 := bleI h2
    obtain ⟨s1, s2⟩ := (shw_ok t).1 n e d i
    have s3 := (dp_ok t).1 n e d i
    exact if_pos ⟨s1, by omega, by omega⟩
  · cases h
end
end BV
set_option Elab.async false
set_option linter.all false
set_option maxRecDepth 100000
set_option maxHeartbeats 4000000
/-! BTD: how an evaluation over types is used. -/
namespace BV
open PySem
/-- the result is of that type, and not more draws -/
def chk (r : Option (T × Nat)) (t : T) (n : Nat) : Bool := match r with
  | some (u, m) => T.le FL u t && Nat.ble m n
  | none => false
/-- .. of a type that repr takes -/
def chkR (r : Option (T × Nat)) (n : Nat) : Bool := match r with
  | some (u, m) => repB u && Nat.ble m n
  | none => false
/-- states -/
def leTS : TS → TS → Bool
  | _, [] => true
  | a :: r, b :: s => (match b with
    | none => true
    | some t => (match a with
      | some u => T.le FL u t
      | none => false)) && leTS r s
  | _, _ => false
def chkS (r : Option AO) (Γ : TS) (n : Nat) : Bool := match r with
  | some o => (match o.nx with
    | some Γ' => leTS Γ' Γ && decide (Γ'.length = Γ.length)
    | none => false) && isBot o.rt && Nat.ble o.N n
  | none => false
theorem leTS_ok : ∀ {a b : TS}, leTS a b = true → ∀ i t, gT b i = some t → ∃ u, gT a i = some u ∧ T.le FL u t = true
  | _, [], _, i, t, e => by cases e
  | [], b :: s, h, i, t, e => by cases h
  | a :: r, b :: s, h, 0, t, e => by
    obtain ⟨h1, _⟩ := a2 h
    have e : b = some t := e
    subst e
    cases a with
    | none => cases h1
    | some u => exact ⟨u, rfl, h1⟩
  | a :: r, b :: s, h, i + 1, t, e => leTS_ok (a := r) (b := s) (a2 h).2 i t e
theorem InG.le {N : Nat} {a b : TS} {ρ : Ev} (g : InG N a ρ) (h : leTS a b = true) (hl : a.length = b.length) : InG N b ρ := ⟨by rw [g.len, hl], fun i t e => by
  obtain ⟨u, e1, e2⟩ := leTS_ok h i t e
  obtain ⟨d, h1, h2⟩ := g.at_ i u e1
  exact ⟨d, h1, le_ok _ _ _ e2 d h2⟩⟩
theorem io_spec {P : Nat → Option Fn} {tk : Nat} {sm : Sm} (hs : SmOk P tk sm) {j f : Nat} {ts t : T} {N M : Nat} (h : chk ((acJ P tk sm j).2 f ts N) t M = true) {dk : D} {ds : List D} (hd : DkN N dk) (i : InL N ts ds) : ∃ d o, run P (j + 2) f (dk :: ds) = .ret d o ∧ In M t d ∧ DkN M o := by
  unfold chk at h
  split at h
  · rename_i u m e
    obtain ⟨h1, h2⟩ := a2 h
    obtain ⟨_, k⟩ := (acJ_ok hs j).cd _ _ _ _ _ e
    obtain ⟨d, o, e1, e2, e3⟩ := k dk ds hd i
    exact ⟨d, o, e1, le_ok _ _ _ h1 d (e2.mono (bleI h2)), e3.mono (bleI h2)⟩
  · cases h
theorem io_repr {P : Nat → Option Fn} {tk : Nat} {sm : Sm} (hs : SmOk P tk sm) {j f : Nat} {ts : T} {N M : Nat} (h : chkR ((acJ P tk sm j).2 f ts N) M = true) {dk : D} {ds : List D} (hd : DkN N dk) (i : InL N ts ds) : ∃ d o, run P (j + 2) f (dk :: ds) = .ret d o ∧ (∃ s : Str, opBlt .repr [d] = some (.str s)) ∧ DkN M o := by
  unfold chkR at h
  split at h
  · rename_i u m e
    obtain ⟨h1, h2⟩ := a2 h
    obtain ⟨_, k⟩ := (acJ_ok hs j).cd _ _ _ _ _ e
    obtain ⟨d, o, e1, e2, e3⟩ := k dk ds hd i
    exact ⟨d, o, e1, ⟨_, repr_ok h1 e2⟩, e3.mono (bleI h2)⟩
  · cases h
theorem st_spec {P : Nat → Option Fn} {tk : Nat} {sm : Sm} (hs : SmOk P tk sm) {j : Nat} {hcall : Nat → D → FRes} {cur : D} {s : IS} {Γ Γ' : TS} {N M : Nat} (h : chkS (aS (acJ P tk sm j).1 (acJ P tk sm j).2 tk false s Γ N) Γ' M = true) {ρ : Ev} (g : InG N Γ ρ) : ∃ ρ', evS (run P (j + 2)) hcall cur s ρ = .next ρ' ∧ InG M Γ' ρ' := by
  unfold chkS at h
  split at h
  · rename_i o e
    obtain ⟨h1, h2⟩ := a2 h
    obtain ⟨h3, h4⟩ := a2 h1
    obtain ⟨_, k⟩ := aS_ok (hcall := hcall) (cur := cur) (acJ_ok hs j) s _ _ _ e
    rcases k ρ g with ⟨ρ', Γ1, e1, e2, g1, _⟩ | ⟨d, ρ', e1, e2, _⟩
    · rw [e2] at h3
      obtain ⟨h5, h6⟩ := a2 h3
      exact ⟨ρ', e1, (g1.mono (bleI h2)).le h5 (of_decide_eq_true h6)⟩
    · exact absurd e2 (isBot_ok h4)
  · cases h
/-- statements one behind the other -/
def appS : IS → IS → IS
  | .cons s r, q => .cons s (appS r q)
  | _, q => q
def listS : IS → Bool
  | .nil => true
  | .cons _ r => listS r
  | _ => false
theorem evS_app {call : Nat → List D → FRes} {hcall : Nat → D → FRes} {cur : D} {q : IS} : ∀ (p : IS) (ρ : Ev), listS p = true → evS call hcall cur (appS p q) ρ = (evS call hcall cur p ρ).thn (evS call hcall cur q) := by
  intro p
  induction p with
  | nil => intro ρ _; rfl
  | cons s r _ ih =>
    intro ρ h
    show (evS call hcall cur s ρ).thn (fun ρ => evS call hcall cur (appS r q) ρ) = ((evS call hcall cur s ρ).thn fun ρ => evS call hcall cur r ρ).thn _
    cases evS call hcall cur s ρ with
    | next ρ1 => rw [SOut.thn_next, SOut.thn_next, ih ρ1 h]
    | ret d ρ1 => rfl
    | exc d ρ1 => rfl
    | stk => rfl
  | _ => intro ρ h; cases h
end BV
set_option Elab.async false
set_option linter.all false
set_option maxRecDepth 100000
set_option maxHeartbeats 0
namespace LX
open PySem PySem.Spec L2 BV
open PyProof.Rows hiding St
def top (i : Nat) : Stmt := PySem.Challenge.pw_ledquestions_k06_ways_held.main.body.getD i (.Pass ⟨0, 0, 0, 0⟩)
def d_is_number : He.DefD := ⟨("is_number", none), "is_number", "is_number", defArgs (top 1), defBody (top 1), defScope (top 1), [], []⟩
def b_is_number : IS := (.cons (.ret (.and (.econs (.isi (.var 0) [.int]) (.econs (.not (.isi (.var 0) [.bool])) .enil)))) .nil)
def x_is_number : DX := ⟨d_is_number, ["thing"], ["thing"], { np := 1, ns := 1, body := b_is_number }⟩
def d_turned_round : He.DefD := ⟨("turned_round", none), "turned_round", "turned_round", defArgs (top 3), defBody (top 3), defScope (top 3), [], []⟩
def b_turned_round : IS := (.cons (.ret (.tup (.econs (.idx (.var 0) (.cst (.int 0))) (.econs (.bin .sub (.cst (.int 1)) (.idx (.var 0) (.cst (.int 1)))) .enil)))) .nil)
def x_turned_round : DX := ⟨d_turned_round, ["turn"], ["turn"], { np := 1, ns := 1, body := b_turned_round }⟩
def d_next_by : He.DefD := ⟨("next_by", none), "next_by", "next_by", defArgs (top 4), defBody (top 4), defScope (top 4), [], []⟩
def b_next_by : IS := (.cons (.asg (.t (.cons (.s 4) (.cons (.s 5) (.cons (.s 6) .nil)))) (.idx (.var 0) (.var 2))) (.cons (.ifs (.and (.econs (.cmp .eq (.var 4) (.cst (.str "along"))) (.econs (.cmp .eq (.var 3) (.cst (.int 1))) .enil))) (.cons (.par 5 6 (.call 1 (.econs (.var 5) .enil)) (.call 1 (.econs (.var 6) .enil))) .nil) .nil) (.cons (.ifs (.or (.econs (.cmp .notin (.var 4) (.tup (.econs (.cst (.str "within")) (.econs (.cst (.str "along")) .enil)))) (.econs (.and (.econs (.cmp .eq (.var 4) (.cst (.str "within"))) (.econs (.cmp .eq (.var 3) (.cst (.int 1))) .enil))) (.econs (.cmp .ne (.var 5) (.var 1)) .enil)))) (.cons (.ret (.cst .none)) .nil) .nil) (.cons (.ret (.var 6)) .nil))))
def x_next_by : DX := ⟨d_next_by, ["rules", "sort", "number", "turned", "word", "one", "other"], ["rules", "sort", "number", "turned"], { np := 4, ns := 7, body := b_next_by }⟩
def d_led_by : He.DefD := ⟨("led_by", none), "led_by", "led_by", defArgs (top 5), defBody (top 5), defScope (top 5), [], []⟩
def b_led_by : IS := (.cons (.ifs (.not (.isi (.var 2) [.tuple])) (.cons (.ret (.cst .none)) .nil) .nil) (.cons (.fors (.s 3) (.var 2) (.cons (.ifs (.or (.econs (.not (.isi (.var 3) [.tuple])) (.econs (.cmp .ne (.blt .len (.econs (.var 3) .enil)) (.cst (.int 2))) (.econs (.not (.blt .all (.econs (.lc [6] (.s 6) (.var 3) (.cst (.bool true)) (.call 0 (.econs (.var 6) .enil))) .enil))) .enil)))) (.cons (.ret (.cst .none)) .nil) .nil) (.cons (.asg (.t (.cons (.s 4) (.cons (.s 5) .nil))) (.var 3)) (.cons (.ifs (.or (.econs (.not (.cmp3 .le .lt (.cst (.int 0)) (.var 4) (.blt .len (.econs (.var 0) .enil)))) (.econs (.cmp .notin (.var 5) (.tup (.econs (.cst (.int 0)) (.econs (.cst (.int 1)) .enil)))) .enil))) (.cons (.ret (.cst .none)) .nil) .nil) (.cons (.set 1 (.call 2 (.econs (.var 0) (.econs (.var 1) (.econs (.var 4) (.econs (.var 5) .enil)))))) (.cons (.ifs (.cmp .is (.var 1) (.cst .none)) (.cons (.ret (.cst .none)) .nil) .nil) .nil)))))) (.cons (.ret (.var 1)) .nil)))
def x_led_by : DX := ⟨d_led_by, ["rules", "sort", "way", "step", "number", "turned", "part"], ["rules", "sort", "way"], { np := 3, ns := 7, body := b_led_by }⟩
def d_is_way : He.DefD := ⟨("is_way", none), "is_way", "is_way", defArgs (top 6), defBody (top 6), defScope (top 6), [], []⟩
def b_is_way : IS := (.cons (.ret (.cmp .eq (.call 3 (.econs (.var 0) (.econs (.var 1) (.econs (.var 3) .enil)))) (.var 2))) .nil)
def x_is_way : DX := ⟨d_is_way, ["rules", "one", "other", "thing"], ["rules", "one", "other", "thing"], { np := 4, ns := 4, body := b_is_way }⟩
def d_along_rules : He.DefD := ⟨("along_rules", none), "along_rules", "along_rules", defArgs (top 7), defBody (top 7), defScope (top 7), [], []⟩
def b_along_rules : IS := (.cons (.ret (.blt .tuple (.econs (.lc [1] (.s 1) (.var 0) (.cst (.bool true)) (.ife (.cmp .eq (.idx (.var 1) (.cst (.int 0))) (.cst (.str "along"))) (.var 1) (.tup (.econs (.cst (.str "none")) (.econs (.tup .enil) (.econs (.tup .enil) .enil)))))) .enil))) .nil)
def x_along_rules : DX := ⟨d_along_rules, ["rules", "rule"], ["rules"], { np := 1, ns := 2, body := b_along_rules }⟩
def d_is_turn_way : He.DefD := ⟨("is_turn_way", none), "is_turn_way", "is_turn_way", defArgs (top 8), defBody (top 8), defScope (top 8), [], []⟩
def b_is_turn_way : IS := (.cons (.ret (.cmp .eq (.call 3 (.econs (.call 5 (.econs (.var 0) .enil)) (.econs (.var 1) (.econs (.var 3) .enil)))) (.var 2))) .nil)
def x_is_turn_way : DX := ⟨d_is_turn_way, ["rules", "one", "other", "thing"], ["rules", "one", "other", "thing"], { np := 4, ns := 4, body := b_is_turn_way }⟩
def d__law_deck : He.DefD := ⟨("_law_deck", none), "_law_deck", "_law_deck", defArgs (top 10), defBody (top 10), defScope (top 10), [], []⟩
def b__law_deck : IS := (.cons (.set 1 (.bin .add (.lc [2] (.s 2) (.var 0) (.cst (.bool true)) (.blt .abs (.econs (.var 2) .enil))) (.bin .mul (.lst (.econs (.cst (.int 3)) .enil)) (.blt .int (.econs (.cmp .eq (.blt .len (.econs (.var 0) .enil)) (.cst (.int 0))) .enil))))) (.cons (.ret (.lst (.econs (.var 1) (.econs (.lc [2] (.s 2) (.var 1) (.cmp .ge (.var 2) (.bin .pow (.cst (.int 10)) (.cst (.int 18)))) (.var 2)) (.econs (.cst (.int 0)) (.econs (.cst (.int 0)) .enil)))))) .nil))
def x__law_deck : DX := ⟨d__law_deck, ["script", "cells", "cell"], ["script"], { np := 1, ns := 3, dk := true, body := b__law_deck }⟩
def d__law_take : He.DefD := ⟨("_law_take", none), "_law_take", "_law_take", defArgs (top 11), defBody (top 11), defScope (top 11), [], []⟩
def b__law_take : IS := (.cons (.whl (.cmp .lt (.idx (.var 0) (.cst (.int 2))) (.blt .len (.econs (.idx (.var 0) (.cst (.int 1))) .enil))) (.cons (.set 2 (.idx (.idx (.var 0) (.cst (.int 1))) (.idx (.var 0) (.cst (.int 2))))) (.cons (.ifs (.cmp .gt (.var 2) (.cst (.int 0))) (.cons (.dk1 0 (.idx (.var 0) (.cst (.int 2))) (.bin .fdiv (.var 2) (.var 1))) (.cons (.ret (.bin .mod (.var 2) (.var 1))) .nil)) .nil) (.cons (.seti 0 (.cst (.int 2)) (.bin .add (.idx (.var 0) (.cst (.int 2))) (.cst (.int 1)))) .nil)))) (.cons (.seti 0 (.cst (.int 3)) (.bin .add (.idx (.var 0) (.cst (.int 3))) (.cst (.int 1)))) (.cons (.set 2 (.bin .add (.bin .mod (.idx (.idx (.var 0) (.cst (.int 0))) (.bin .mod (.idx (.var 0) (.cst (.int 3))) (.blt .len (.econs (.idx (.var 0) (.cst (.int 0))) .enil)))) (.cst (.int 1000003))) (.cst (.int 5)))) (.cons (.ret (.bin .mod (.bin .fdiv (.bin .mod (.bin .pow (.bin .add (.bin .mul (.var 2) (.bin .add (.idx (.var 0) (.cst (.int 3))) (.cst (.int 2)))) (.bin .mul (.cst (.int 7919)) (.idx (.var 0) (.cst (.int 3))))) (.cst (.int 5))) (.cst (.int 2147483647))) (.cst (.int 13))) (.var 1))) .nil))))
def x__law_take : DX := ⟨d__law_take, ["deck", "many", "cell"], ["deck", "many"], { np := 2, ns := 3, io := true, body := b__law_take }⟩
def d__law_names : He.DefD := ⟨("_law_names", none), "_law_names", "_law_names", defArgs (top 12), defBody (top 12), defScope (top 12), [], []⟩
def b__law_names : IS := (.cons (.set 2 (.cst (.str "abcdefghijklmnopqrstuvwxyz"))) (.cons (.set 3 (.calld 8 0 (.econs (.cst (.int 26)) .enil))) (.cons (.set 4 (.idx (.lst (.econs (.cst (.int 1)) (.econs (.cst (.int 3)) (.econs (.cst (.int 5)) (.econs (.cst (.int 7)) .enil))))) (.calld 8 0 (.econs (.cst (.int 4)) .enil)))) (.cons (.set 5 (.cmp .eq (.calld 8 0 (.econs (.cst (.int 2)) .enil)) (.cst (.int 0)))) (.cons (.set 6 (.mth .join (.cst (.str "")) (.econs (.lc [9] (.s 9) (.rng (.econs (.calld 8 0 (.econs (.cst (.int 8)) .enil)) .enil)) (.cst (.bool true)) (.idx (.var 2) (.calld 8 0 (.econs (.cst (.int 26)) .enil)))) .enil))) (.cons (.set 7 (.calld 8 0 (.econs (.bin .add (.blt .len (.econs (.var 6) .enil)) (.cst (.int 1))) .enil))) (.cons (.own 8 (.lst .enil)) (.cons (.fors (.s 9) (.rng (.econs (.var 1) .enil)) (.cons (.set 10 (.idx (.var 2) (.bin .mod (.bin .add (.var 3) (.bin .mul (.var 4) (.var 9))) (.cst (.int 26))))) (.cons (.set 11 (.bin .add (.bin .add (.slc (.var 6) .nop (.var 7)) (.var 10)) (.slc (.var 6) (.var 7) .nop))) (.cons (.ifs (.not (.var 5)) (.cons (.set 11 (.bin .add (.var 10) (.slc (.var 6) .nop (.calld 8 0 (.econs (.bin .add (.blt .len (.econs (.var 6) .enil)) (.cst (.int 1))) .enil))))) .nil) .nil) (.cons (.ifs (.cmp .mem (.var 11) (.lst (.econs (.cst (.str "if")) (.econs (.cst (.str "and")) .enil)))) (.cons (.set 11 (.bin .add (.var 11) (.cst (.str "x")))) .nil) .nil) (.cons (.app 8 (.var 11)) .nil)))))) (.cons (.frz 8) (.cons (.ret (.var 8)) .nil))))))))))
def x__law_names : DX := ⟨d__law_names, ["deck", "many", "letters", "start", "step", "one_stem", "stem", "where", "found", "k", "sign", "name"], ["deck", "many"], { np := 2, ns := 12, io := true, body := b__law_names }⟩
def d__law_turn : He.DefD := ⟨("_law_turn", none), "_law_turn", "_law_turn", defArgs (top 13), defBody (top 13), defScope (top 13), [], []⟩
def b__law_turn : IS := (.cons (.ret (.tup (.econs (.idx (.var 1) (.calld 8 0 (.econs (.blt .len (.econs (.var 1) .enil)) .enil))) (.econs (.calld 8 0 (.econs (.cst (.int 2)) .enil)) .enil)))) .nil)
def x__law_turn : DX := ⟨d__law_turn, ["deck", "roles"], ["deck", "roles"], { np := 2, ns := 2, io := true, body := b__law_turn }⟩
def d__law_sort : He.DefD := ⟨("_law_sort", none), "_law_sort", "_law_sort", defArgs (top 14), defBody (top 14), defScope (top 14), [], []⟩
def b__law_sort : IS := (.cons (.ifs (.cmp .eq (.calld 8 0 (.econs (.cst (.int 2)) .enil)) (.cst (.int 0))) (.cons (.ret (.tup (.econs (.idx (.var 1) (.calld 8 0 (.econs (.blt .len (.econs (.var 1) .enil)) .enil))) .enil))) .nil) .nil) (.cons (.ret (.calld 10 0 (.econs (.var 2) .enil))) .nil))
def x__law_sort : DX := ⟨d__law_sort, ["deck", "kinds", "roles"], ["deck", "kinds", "roles"], { np := 3, ns := 3, io := true, body := b__law_sort }⟩
def d__law_rule : He.DefD := ⟨("_law_rule", none), "_law_rule", "_law_rule", defArgs (top 15), defBody (top 15), defScope (top 15), [], []⟩
def b__law_rule : IS := (.cons (.set 3 (.calld 8 0 (.econs (.cst (.int 7)) .enil))) (.cons (.ifs (.cmp .lt (.var 3) (.cst (.int 3))) (.cons (.ret (.tup (.econs (.cst (.str "within")) (.econs (.calld 11 0 (.econs (.var 1) (.econs (.var 2) .enil))) (.econs (.calld 11 0 (.econs (.var 1) (.econs (.var 2) .enil))) .enil))))) .nil) .nil) (.cons (.ifs (.cmp .lt (.var 3) (.cst (.int 5))) (.cons (.ret (.tup (.econs (.cst (.str "along")) (.econs (.calld 10 0 (.econs (.var 2) .enil)) (.econs (.calld 10 0 (.econs (.var 2) .enil)) .enil))))) .nil) .nil) (.cons (.ifs (.cmp .eq (.var 3) (.cst (.int 5))) (.cons (.ret (.tup (.econs (.cst (.str "apart")) (.econs (.calld 11 0 (.econs (.var 1) (.econs (.var 2) .enil))) (.econs (.calld 11 0 (.econs (.var 1) (.econs (.var 2) .enil))) .enil))))) .nil) .nil) (.cons (.ret (.tup (.econs (.cst (.str "away")) (.econs (.calld 10 0 (.econs (.var 2) .enil)) (.econs (.calld 10 0 (.econs (.var 2) .enil)) .enil))))) .nil)))))
def x__law_rule : DX := ⟨d__law_rule, ["deck", "kinds", "roles", "pick"], ["deck", "kinds", "roles"], { np := 3, ns := 4, io := true, body := b__law_rule }⟩
def d__law_rules : He.DefD := ⟨("_law_rules", none), "_law_rules", "_law_rules", defArgs (top 16), defBody (top 16), defScope (top 16), [], []⟩
def b__law_rules : IS := (.cons (.own 4 (.lst .enil)) (.cons (.fors (.s 5) (.rng (.econs (.var 3) .enil)) (.cons (.set 6 (.calld 12 0 (.econs (.var 1) (.econs (.slc (.var 2) .nop (.cst (.int 2))) .enil)))) (.cons (.ifs (.cmp .notin (.var 6) (.var 4)) (.cons (.app 4 (.var 6)) .nil) .nil) .nil))) (.cons (.frz 4) (.cons (.ret (.var 4)) .nil))))
def x__law_rules : DX := ⟨d__law_rules, ["deck", "kinds", "roles", "many", "found", "k", "rule"], ["deck", "kinds", "roles", "many"], { np := 4, ns := 7, io := true, body := b__law_rules }⟩
def d__law_round : He.DefD := ⟨("_law_round", none), "_law_round", "_law_round", defArgs (top 17), defBody (top 17), defScope (top 17), [], []⟩
def b__law_round : IS := (.cons (.ret (.tup (.econs (.idx (.var 0) (.cst (.int 0))) (.econs (.bin .sub (.cst (.int 1)) (.idx (.var 0) (.cst (.int 1)))) .enil)))) .nil)
def x__law_round : DX := ⟨d__law_round, ["turn"], ["turn"], { np := 1, ns := 1, body := b__law_round }⟩
def d__law_next : He.DefD := ⟨("_law_next", none), "_law_next", "_law_next", defArgs (top 18), defBody (top 18), defScope (top 18), [], []⟩
def b__law_next : IS := (.cons (.asg (.t (.cons (.s 4) (.cons (.s 5) (.cons (.s 6) .nil)))) (.idx (.var 0) (.var 2))) (.cons (.ifs (.and (.econs (.cmp .eq (.var 4) (.cst (.str "within"))) (.econs (.cmp .eq (.var 3) (.cst (.int 0))) (.econs (.cmp .eq (.var 1) (.var 5)) .enil)))) (.cons (.ret (.var 6)) .nil) .nil) (.cons (.ifs (.and (.econs (.cmp .eq (.var 4) (.cst (.str "along"))) (.econs (.cmp .eq (.var 3) (.cst (.int 0))) (.econs (.cmp .eq (.var 1) (.var 5)) .enil)))) (.cons (.ret (.var 6)) .nil) .nil) (.cons (.ifs (.and (.econs (.cmp .eq (.var 4) (.cst (.str "along"))) (.econs (.cmp .eq (.var 3) (.cst (.int 1))) (.econs (.cmp .eq (.var 1) (.call 14 (.econs (.var 5) .enil))) .enil)))) (.cons (.ret (.call 14 (.econs (.var 6) .enil))) .nil) .nil) (.cons (.ret (.cst .none)) .nil)))))
def x__law_next : DX := ⟨d__law_next, ["rules", "sort", "number", "turned", "word", "one", "other"], ["rules", "sort", "number", "turned"], { np := 4, ns := 7, body := b__law_next }⟩
def d__law_whole : He.DefD := ⟨("_law_whole", none), "_law_whole", "_law_whole", defArgs (top 19), defBody (top 19), defScope (top 19), [], []⟩
def b__law_whole : IS := (.cons (.ret (.and (.econs (.isi (.var 0) [.int]) (.econs (.not (.isi (.var 0) [.bool])) .enil)))) .nil)
def x__law_whole : DX := ⟨d__law_whole, ["thing"], ["thing"], { np := 1, ns := 1, body := b__law_whole }⟩
def d__law_end_of : He.DefD := ⟨("_law_end_of", none), "_law_end_of", "_law_end_of", defArgs (top 20), defBody (top 20), defScope (top 20), [], []⟩
def b__law_end_of : IS := (.cons (.ifs (.not (.isi (.var 2) [.tuple])) (.cons (.ret (.cst .none)) .nil) .nil) (.cons (.fors (.s 4) (.var 2) (.cons (.ifs (.or (.econs (.not (.isi (.var 4) [.tuple])) (.econs (.cmp .ne (.blt .len (.econs (.var 4) .enil)) (.cst (.int 2))) .enil))) (.cons (.ret (.cst .none)) .nil) .nil) (.cons (.ifs (.or (.econs (.not (.call 16 (.econs (.idx (.var 4) (.cst (.int 0))) .enil))) (.econs (.not (.call 16 (.econs (.idx (.var 4) (.cst (.int 1))) .enil))) (.econs (.cmp .lt (.idx (.var 4) (.cst (.int 0))) (.cst (.int 0))) (.econs (.cmp .ge (.idx (.var 4) (.cst (.int 0))) (.blt .len (.econs (.var 0) .enil))) .enil))))) (.cons (.ret (.cst .none)) .nil) .nil) (.cons (.ifs (.and (.econs (.var 3) (.econs (.cmp .ne (.idx (.idx (.var 0) (.idx (.var 4) (.cst (.int 0)))) (.cst (.int 0))) (.cst (.str "along"))) .enil))) (.cons (.ret (.cst .none)) .nil) .nil) (.cons (.set 1 (.call 15 (.econs (.var 0) (.econs (.var 1) (.econs (.idx (.var 4) (.cst (.int 0))) (.econs (.idx (.var 4) (.cst (.int 1))) .enil)))))) (.cons (.ifs (.cmp .is (.var 1) (.cst .none)) (.cons (.ret (.cst .none)) .nil) .nil) .nil)))))) (.cons (.ret (.var 1)) .nil)))
def x__law_end_of : DX := ⟨d__law_end_of, ["rules", "sort", "legs", "along_alone", "step"], ["rules", "sort", "legs", "along_alone"], { np := 4, ns := 5, body := b__law_end_of }⟩
def d__law_odd : He.DefD := ⟨("_law_odd", none), "_law_odd", "_law_odd", defArgs (top 21), defBody (top 21), defScope (top 21), [], []⟩
def b__law_odd : IS := (.cons (.set 1 (.lst (.econs (.cst .none) (.econs (.cst (.bool true)) (.econs (.cst (.bool false)) (.econs (.cst (.int 0)) (.econs (.cst (.int 1)) (.econs (.neg (.cst (.int 1))) (.econs (.cst (.int 24)) (.econs (.cst (.str "")) (.econs (.cst (.str "within")) (.econs (.tup .enil) (.econs (.lst .enil) (.econs .dct (.econs (.tup (.econs (.tup .enil) .enil)) (.econs (.lst (.econs (.tup .enil) .enil)) (.econs (.tup (.econs (.cst (.str "a")) .enil)) (.econs (.tup (.econs (.cst (.int 0)) (.econs (.cst (.int 0)) .enil))) (.econs (.tup (.econs (.tup (.econs (.cst (.int 0)) (.econs (.cst (.int 0)) .enil))) .enil)) (.econs (.bin .pow (.cst (.int 10)) (.cst (.int 30))) .enil)))))))))))))))))))) (.cons (.ret (.idx (.var 1) (.calld 8 0 (.econs (.blt .len (.econs (.var 1) .enil)) .enil)))) .nil))
def x__law_odd : DX := ⟨d__law_odd, ["deck", "some"], ["deck"], { np := 1, ns := 2, io := true, body := b__law_odd }⟩
def d__law_bend : He.DefD := ⟨("_law_bend", none), "_law_bend", "_law_bend", defArgs (top 22), defBody (top 22), defScope (top 22), [], []⟩
def b__law_bend : IS := (.cons (.set 3 (.calld 8 0 (.econs (.cst (.int 8)) .enil))) (.cons (.ifs (.and (.econs (.isi (.var 1) [.tuple]) (.econs (.cmp .gt (.blt .len (.econs (.var 1) .enil)) (.cst (.int 0))) .enil))) (.cons (.set 4 (.calld 8 0 (.econs (.blt .len (.econs (.var 1) .enil)) .enil))) (.cons (.ifs (.and (.econs (.cmp .gt (.var 2) (.cst (.int 0))) (.econs (.cmp .lt (.var 3) (.cst (.int 5))) .enil))) (.cons (.ret (.bin .add (.bin .add (.slc (.var 1) .nop (.var 4)) (.tup (.econs (.calld 19 0 (.econs (.idx (.var 1) (.var 4)) (.econs (.bin .sub (.var 2) (.cst (.int 1))) .enil))) .enil))) (.slc (.var 1) (.bin .add (.var 4) (.cst (.int 1))) .nop))) .nil) .nil) (.cons (.set 5 (.lst (.econs (.bin .add (.slc (.var 1) .nop (.var 4)) (.slc (.var 1) (.bin .add (.var 4) (.cst (.int 1))) .nop)) (.econs (.bin .add (.bin .add (.slc (.var 1) .nop (.var 4)) (.tup (.econs (.idx (.var 1) (.var 4)) .enil))) (.slc (.var 1) (.var 4) .nop)) (.econs (.rev (.var 1)) (.econs (.blt .list (.econs (.var 1) .enil)) .enil)))))) (.cons (.set 5 (.bin .add (.var 5) (.lst (.econs (.bin .add (.bin .add (.slc (.var 1) .nop (.var 4)) (.tup (.econs (.calld 18 0 .enil) .enil))) (.slc (.var 1) (.bin .add (.var 4) (.cst (.int 1))) .nop)) (.econs (.bin .add (.var 1) (.tup (.econs (.calld 18 0 .enil) .enil))) (.econs (.calld 18 0 .enil) .enil)))))) (.cons (.ret (.idx (.var 5) (.calld 8 0 (.econs (.blt .len (.econs (.var 5) .enil)) .enil)))) .nil))))) .nil) (.cons (.ifs (.and (.econs (.call 16 (.econs (.var 1) .enil)) (.econs (.cmp .lt (.var 3) (.cst (.int 6))) .enil))) (.cons (.ret (.idx (.lst (.econs (.bin .add (.var 1) (.cst (.int 1))) (.econs (.bin .sub (.var 1) (.cst (.int 1))) (.econs (.bin .sub (.cst (.int 1)) (.var 1)) (.econs (.bin .add (.var 1) (.cst (.int 1))) (.econs (.cst (.bool true)) (.econs (.blt .str (.econs (.var 1) .enil)) .enil))))))) (.var 3))) .nil) .nil) (.cons (.ifs (.and (.econs (.isi (.var 1) [.str]) (.econs (.cmp .lt (.var 3) (.cst (.int 4))) .enil))) (.cons (.ret (.idx (.lst (.econs (.bin .add (.var 1) (.cst (.str "a"))) (.econs (.slc (.var 1) .nop (.neg (.cst (.int 1)))) (.econs (.rev (.var 1)) (.econs (.tup (.econs (.var 1) .enil)) .enil))))) (.var 3))) .nil) .nil) (.cons (.ret (.calld 18 0 .enil)) .nil)))))
def x__law_bend : DX := ⟨d__law_bend, ["deck", "thing", "deep", "pick", "k", "some"], ["deck", "thing", "deep"], { np := 3, ns := 6, io := true, body := b__law_bend }⟩
def d__law_legs : He.DefD := ⟨("_law_legs", none), "_law_legs", "_law_legs", defArgs (top 23), defBody (top 23), defScope (top 23), [], []⟩
def b__law_legs : IS := (.cons (.set 4 (.tup .enil)) (.cons (.fors (.s 5) (.rng (.econs (.calld 8 0 (.econs (.cst (.int 6)) .enil)) .enil)) (.cons (.own 6 (.lst .enil)) (.cons (.fors (.s 7) (.rng (.econs (.blt .len (.econs (.var 1) .enil)) .enil)) (.cons (.fors (.s 8) (.tup (.econs (.cst (.int 0)) (.econs (.cst (.int 1)) .enil))) (.cons (.ifs (.cmp .isnot (.call 15 (.econs (.var 1) (.econs (.var 2) (.econs (.var 7) (.econs (.var 8) .enil))))) (.cst .none)) (.cons (.app 6 (.tup (.econs (.var 7) (.econs (.var 8) .enil)))) .nil) .nil) .nil)) .nil)) (.cons (.ifs (.var 3) (.cons (.frz 6) (.cons (.own 6 (.lc [9] (.s 9) (.var 6) (.cmp .eq (.idx (.idx (.var 1) (.idx (.var 9) (.cst (.int 0)))) (.cst (.int 0))) (.cst (.str "along"))) (.var 9))) .nil)) .nil) (.cons (.ifs (.cmp .ne (.var 6) (.lst .enil)) (.cons (.frz 6) (.cons (.set 9 (.idx (.var 6) (.calld 8 0 (.econs (.blt .len (.econs (.var 6) .enil)) .enil)))) (.cons (.set 2 (.call 15 (.econs (.var 1) (.econs (.var 2) (.econs (.idx (.var 9) (.cst (.int 0))) (.econs (.idx (.var 9) (.cst (.int 1))) .enil)))))) (.cons (.set 4 (.bin .add (.var 4) (.tup (.econs (.var 9) .enil)))) .nil)))) (.cons (.frz 6) .nil)) .nil))))) (.cons (.ret (.var 4)) .nil)))
def x__law_legs : DX := ⟨d__law_legs, ["deck", "rules", "sort", "along_alone", "found", "turn", "some", "number", "turned", "step"], ["deck", "rules", "sort", "along_alone"], { np := 4, ns := 10, io := true, body := b__law_legs }⟩
def d__law_held : He.DefD := ⟨("_law_held", none), "_law_held", "_law_held", defArgs (top 24), defBody (top 24), defScope (top 24), [], []⟩
def b__law_held : IS := (.cons (.ret (.and (.econs (.isi (.var 0) [.bool]) (.econs (.cmp .eq (.var 0) (.var 1)) .enil)))) .nil)
def x__law_held : DX := ⟨d__law_held, ["found", "due"], ["found", "due"], { np := 2, ns := 2, body := b__law_held }⟩
def d__law_alike : He.DefD := ⟨("_law_alike", none), "_law_alike", "_law_alike", defArgs (top 25), defBody (top 25), defScope (top 25), [], []⟩
def b__law_alike : IS := (.cons (.set 4 (.blt .repr (.econs (.var 3) .enil))) (.cons (.set 5 (.cmp .eq (.call 17 (.econs (.var 0) (.econs (.var 1) (.econs (.var 3) (.econs (.cst (.bool false)) .enil))))) (.var 2))) (.cons (.ifs (.or (.econs (.not (.call 21 (.econs (.call 4 (.econs (.var 0) (.econs (.var 1) (.econs (.var 2) (.econs (.var 3) .enil))))) (.econs (.var 5) .enil)))) (.econs (.cmp .ne (.blt .repr (.econs (.var 3) .enil)) (.var 4)) .enil))) (.cons (.ret (.cst (.bool false))) .nil) .nil) (.cons (.ret (.call 21 (.econs (.call 4 (.econs (.var 0) (.econs (.var 1) (.econs (.var 2) (.econs (.var 3) .enil))))) (.econs (.var 5) .enil)))) .nil))))
def x__law_alike : DX := ⟨d__law_alike, ["rules", "sort", "other", "legs", "kept", "due"], ["rules", "sort", "other", "legs"], { np := 4, ns := 6, body := b__law_alike }⟩
def d__law_turns_alike : He.DefD := ⟨("_law_turns_alike", none), "_law_turns_alike", "_law_turns_alike", defArgs (top 26), defBody (top 26), defScope (top 26), [], []⟩
def b__law_turns_alike : IS := (.cons (.set 4 (.cmp .eq (.call 17 (.econs (.var 0) (.econs (.var 1) (.econs (.var 3) (.econs (.cst (.bool true)) .enil))))) (.var 2))) (.cons (.ret (.call 21 (.econs (.call 6 (.econs (.var 0) (.econs (.var 1) (.econs (.var 2) (.econs (.var 3) .enil))))) (.econs (.var 4) .enil)))) .nil))
def x__law_turns_alike : DX := ⟨d__law_turns_alike, ["rules", "sort", "other", "legs", "due"], ["rules", "sort", "other", "legs"], { np := 4, ns := 5, body := b__law_turns_alike }⟩
def d_law : He.DefD := ⟨("law", none), "law", "law", defArgs (top 27), defBody (top 27), defScope (top 27), [], []⟩
def b_law : IS := (.cons (.deck 1 7 (.var 0)) (.cons (.set 2 (.cmp .gt (.calld 8 1 (.econs (.cst (.int 6)) .enil)) (.cst (.int 0)))) (.cons (.set 3 (.lst (.econs (.cmp .eq (.calld 8 1 (.econs (.cst (.int 4)) .enil)) (.cst (.int 0))) (.econs (.cmp .eq (.calld 8 1 (.econs (.cst (.int 4)) .enil)) (.cst (.int 0))) .enil)))) (.cons (.set 4 (.calld 8 1 (.econs (.cst (.int 3)) .enil))) (.cons (.set 5 (.calld 9 1 (.econs (.cst (.int 6)) .enil))) (.cons (.set 6 (.slc (.var 5) .nop (.cst (.int 3)))) (.cons (.set 7 (.slc (.slc (.var 5) (.bin .mul (.cst (.int 3)) (.calld 8 1 (.econs (.cst (.int 2)) .enil))) .nop) .nop (.cst (.int 2)))) (.cons (.set 8 (.blt .tuple (.econs (.calld 13 1 (.econs (.var 6) (.econs (.var 7) (.econs (.bin .add (.cst (.int 2)) (.calld 8 1 (.econs (.cst (.int 6)) .enil))) .enil)))) .enil))) (.cons (.fors (.s 9) (.rng (.econs (.cst (.int 3)) .enil)) (.cons (.set 10 (.calld 11 1 (.econs (.var 6) (.econs (.var 7) .enil)))) (.cons (.set 11 (.calld 20 1 (.econs (.var 8) (.econs (.var 10) (.econs (.cst (.bool false)) .enil))))) (.cons (.set 12 (.call 17 (.econs (.var 8) (.econs (.var 10) (.econs (.var 11) (.econs (.cst (.bool false)) .enil)))))) (.cons (.ifs (.idx (.var 3) (.cst (.int 0))) (.cons (.set 12 (.calld 11 1 (.econs (.var 6) (.econs (.var 7) .enil)))) .nil) .nil) (.cons (.set 13 (.var 11)) (.cons (.ifs (.var 2) (.cons (.set 13 (.calld 19 1 (.econs (.var 11) (.econs (.var 4) .enil)))) .nil) .nil) (.cons (.ifs (.or (.econs (.not (.call 22 (.econs (.var 8) (.econs (.var 10) (.econs (.var 12) (.econs (.var 13) .enil)))))) (.econs (.not (.call 22 (.econs (.var 8) (.econs (.var 10) (.econs (.var 12) (.econs (.var 11) .enil)))))) .enil))) (.cons (.ret (.cst (.bool false))) .nil) .nil) (.cons (.set 10 (.calld 10 1 (.econs (.var 7) .enil))) (.cons (.set 11 (.calld 20 1 (.econs (.var 8) (.econs (.var 10) (.econs (.idx (.var 3) (.cst (.int 1))) .enil))))) (.cons (.set 12 (.call 17 (.econs (.var 8) (.econs (.var 10) (.econs (.var 11) (.econs (.cst (.bool false)) .enil)))))) (.cons (.set 13 (.var 11)) (.cons (.ifs (.var 2) (.cons (.set 13 (.calld 19 1 (.econs (.var 11) (.econs (.var 4) .enil)))) .nil) .nil) (.cons (.fors (.s 14) (.lst (.econs (.var 13) (.econs (.var 11) .enil))) (.cons (.ifs (.and (.econs (.cmp .eq (.blt .len (.econs (.var 12) .enil)) (.cst (.int 2))) (.econs (.not (.call 23 (.econs (.var 8) (.econs (.var 10) (.econs (.var 12) (.econs (.var 14) .enil)))))) .enil))) (.cons (.ret (.cst (.bool false))) .nil) .nil) .nil)) .nil)))))))))))))) (.cons (.set 10 (.calld 10 1 (.econs (.var 7) .enil))) (.cons (.ret (.and (.econs (.call 21 (.econs (.call 4 (.econs (.var 8) (.econs (.var 10) (.econs (.var 10) (.econs (.tup .enil) .enil))))) (.econs (.cst (.bool true)) .enil))) (.econs (.call 21 (.econs (.call 6 (.econs (.var 8) (.econs (.var 10) (.econs (.var 10) (.econs (.tup .enil) .enil))))) (.econs (.cst (.bool true)) .enil))) .enil)))) .nil)))))))))))
def x_law : DX := ⟨d_law, ["script", "deck", "bent", "astray", "deep", "names", "kinds", "roles", "rules", "turn", "sort", "good", "other", "legs", "one"], ["script"], { np := 1, ns := 15, body := b_law }⟩
def px : PX := ⟨[x_is_number, x_turned_round, x_next_by, x_led_by, x_is_way, x_along_rules, x_is_turn_way, x__law_deck, x__law_take, x__law_names, x__law_turn, x__law_sort, x__law_rule, x__law_rules, x__law_round, x__law_next, x__law_whole, x__law_end_of, x__law_odd, x__law_bend, x__law_legs, x__law_held, x__law_alike, x__law_turns_alike, x_law], [], [], []⟩
theorem okAll : px.ds.all (fun dx => dx.ok px) = true := by kernel_rfl
theorem defsOk : defsB px = true := by kernel_rfl
theorem bd_is_number (kV doc pm : Value) (an : Option Addr) (cdv ct : Value) (us : List Value) (hl : us.length = x_is_number.ps.length) : bindArgs (PySem.W.fnOf d_is_number.name d_is_number.qual d_is_number.params d_is_number.body d_is_number.scope .none kV doc pm an cdv ct) ⟨us, []⟩ = pure (x_is_number.ps.zip us) := match us, hl with | [_], _ => rfl
theorem bd_turned_round (kV doc pm : Value) (an : Option Addr) (cdv ct : Value) (us : List Value) (hl : us.length = x_turned_round.ps.length) : bindArgs (PySem.W.fnOf d_turned_round.name d_turned_round.qual d_turned_round.params d_turned_round.body d_turned_round.scope .none kV doc pm an cdv ct) ⟨us, []⟩ = pure (x_turned_round.ps.zip us) := match us, hl with | [_], _ => rfl
theorem bd_next_by (kV doc pm : Value) (an : Option Addr) (cdv ct : Value) (us : List Value) (hl : us.length = x_next_by.ps.length) : bindArgs (PySem.W.fnOf d_next_by.name d_next_by.qual d_next_by.params d_next_by.body d_next_by.scope .none kV doc pm an cdv ct) ⟨us, []⟩ = pure (x_next_by.ps.zip us) := match us, hl with | [_, _, _, _], _ => rfl
theorem bd_led_by (kV doc pm : Value) (an : Option Addr) (cdv ct : Value) (us : List Value) (hl : us.length = x_led_by.ps.length) : bindArgs (PySem.W.fnOf d_led_by.name d_led_by.qual d_led_by.params d_led_by.body d_led_by.scope .none kV doc pm an cdv ct) ⟨us, []⟩ = pure (x_led_by.ps.zip us) := match us, hl with | [_, _, _], _ => rfl
theorem bd_is_way (kV doc pm : Value) (an : Option Addr) (cdv ct : Value) (us : List Value) (hl : us.length = x_is_way.ps.length) : bindArgs (PySem.W.fnOf d_is_way.name d_is_way.qual d_is_way.params d_is_way.body d_is_way.scope .none kV doc pm an cdv ct) ⟨us, []⟩ = pure (x_is_way.ps.zip us) := match us, hl with | [_, _, _, _], _ => rfl
theorem bd_along_rules (kV doc pm : Value) (an : Option Addr) (cdv ct : Value) (us : List Value) (hl : us.length = x_along_rules.ps.length) : bindArgs (PySem.W.fnOf d_along_rules.name d_along_rules.qual d_along_rules.params d_along_rules.body d_along_rules.scope .none kV doc pm an cdv ct) ⟨us, []⟩ = pure (x_along_rules.ps.zip us) := match us, hl with | [_], _ => rfl
theorem bd_is_turn_way (kV doc pm : Value) (an : Option Addr) (cdv ct : Value) (us : List Value) (hl : us.length = x_is_turn_way.ps.length) : bindArgs (PySem.W.fnOf d_is_turn_way.name d_is_turn_way.qual d_is_turn_way.params d_is_turn_way.body d_is_turn_way.scope .none kV doc pm an cdv ct) ⟨us, []⟩ = pure (x_is_turn_way.ps.zip us) := match us, hl with | [_, _, _, _], _ => rfl
theorem bd__law_deck (kV doc pm : Value) (an : Option Addr) (cdv ct : Value) (us : List Value) (hl : us.length = x__law_deck.ps.length) : bindArgs (PySem.W.fnOf d__law_deck.name d__law_deck.qual d__law_deck.params d__law_deck.body d__law_deck.scope .none kV doc pm an cdv ct) ⟨us, []⟩ = pure (x__law_deck.ps.zip us) := match us, hl with | [_], _ => rfl
theorem bd__law_take (kV doc pm : Value) (an : Option Addr) (cdv ct : Value) (us : List Value) (hl : us.length = x__law_take.ps.length) : bindArgs (PySem.W.fnOf d__law_take.name d__law_take.qual d__law_take.params d__law_take.body d__law_take.scope .none kV doc pm an cdv ct) ⟨us, []⟩ = pure (x__law_take.ps.zip us) := match us, hl with | [_, _], _ => rfl
theorem bd__law_names (kV doc pm : Value) (an : Option Addr) (cdv ct : Value) (us : List Value) (hl : us.length = x__law_names.ps.length) : bindArgs (PySem.W.fnOf d__law_names.name d__law_names.qual d__law_names.params d__law_names.body d__law_names.scope .none kV doc pm an cdv ct) ⟨us, []⟩ = pure (x__law_names.ps.zip us) := match us, hl with | [_, _], _ => rfl
theorem bd__law_turn (kV doc pm : Value) (an : Option Addr) (cdv ct : Value) (us : List Value) (hl : us.length = x__law_turn.ps.length) : bindArgs (PySem.W.fnOf d__law_turn.name d__law_turn.qual d__law_turn.params d__law_turn.body d__law_turn.scope .none kV doc pm an cdv ct) ⟨us, []⟩ = pure (x__law_turn.ps.zip us) := match us, hl with | [_, _], _ => rfl
theorem bd__law_sort (kV doc pm : Value) (an : Option Addr) (cdv ct : Value) (us : List Value) (hl : us.length = x__law_sort.ps.length) : bindArgs (PySem.W.fnOf d__law_sort.name d__law_sort.qual d__law_sort.params d__law_sort.body d__law_sort.scope .none kV doc pm an cdv ct) ⟨us, []⟩ = pure (x__law_sort.ps.zip us) := match us, hl with | [_, _, _], _ => rfl
theorem bd__law_rule (kV doc pm : Value) (an : Option Addr) (cdv ct : Value) (us : List Value) (hl : us.length = x__law_rule.ps.length) : bindArgs (PySem.W.fnOf d__law_rule.name d__law_rule.qual d__law_rule.params d__law_rule.body d__law_rule.scope .none kV doc pm an cdv ct) ⟨us, []⟩ = pure (x__law_rule.ps.zip us) := match us, hl with | [_, _, _], _ => rfl
theorem bd__law_rules (kV doc pm : Value) (an : Option Addr) (cdv ct : Value) (us : List Value) (hl : us.length = x__law_rules.ps.length) : bindArgs (PySem.W.fnOf d__law_rules.name d__law_rules.qual d__law_rules.params d__law_rules.body d__law_rules.scope .none kV doc pm an cdv ct) ⟨us, []⟩ = pure (x__law_rules.ps.zip us) := match us, hl with | [_, _, _, _], _ => rfl
theorem bd__law_round (kV doc pm : Value) (an : Option Addr) (cdv ct : Value) (us : List Value) (hl : us.length = x__law_round.ps.length) : bindArgs (PySem.W.fnOf d__law_round.name d__law_round.qual d__law_round.params d__law_round.body d__law_round.scope .none kV doc pm an cdv ct) ⟨us, []⟩ = pure (x__law_round.ps.zip us) := match us, hl with | [_], _ => rfl
theorem bd__law_next (kV doc pm : Value) (an : Option Addr) (cdv ct : Value) (us : List Value) (hl : us.length = x__law_next.ps.length) : bindArgs (PySem.W.fnOf d__law_next.name d__law_next.qual d__law_next.params d__law_next.body d__law_next.scope .none kV doc pm an cdv ct) ⟨us, []⟩ = pure (x__law_next.ps.zip us) := match us, hl with | [_, _, _, _], _ => rfl
theorem bd__law_whole (kV doc pm : Value) (an : Option Addr) (cdv ct : Value) (us : List Value) (hl : us.length = x__law_whole.ps.length) : bindArgs (PySem.W.fnOf d__law_whole.name d__law_whole.qual d__law_whole.params d__law_whole.body d__law_whole.scope .none kV doc pm an cdv ct) ⟨us, []⟩ = pure (x__law_whole.ps.zip us) := match us, hl with | [_], _ => rfl
theorem bd__law_end_of (kV doc pm : Value) (an : Option Addr) (cdv ct : Value) (us : List Value) (hl : us.length = x__law_end_of.ps.length) : bindArgs (PySem.W.fnOf d__law_end_of.name d__law_end_of.qual d__law_end_of.params d__law_end_of.body d__law_end_of.scope .none kV doc pm an cdv ct) ⟨us, []⟩ = pure (x__law_end_of.ps.zip us) := match us, hl with | [_, _, _, _], _ => rfl
theorem bd__law_odd (kV doc pm : Value) (an : Option Addr) (cdv ct : Value) (us : List Value) (hl : us.length = x__law_odd.ps.length) : bindArgs (PySem.W.fnOf d__law_odd.name d__law_odd.qual d__law_odd.params d__law_odd.body d__law_odd.scope .none kV doc pm an cdv ct) ⟨us, []⟩ = pure (x__law_odd.ps.zip us) := match us, hl with | [_], _ => rfl
theorem bd__law_bend (kV doc pm : Value) (an : Option Addr) (cdv ct : Value) (us : List Value) (hl : us.length = x__law_bend.ps.length) : bindArgs (PySem.W.fnOf d__law_bend.name d__law_bend.qual d__law_bend.params d__law_bend.body d__law_bend.scope .none kV doc pm an cdv ct) ⟨us, []⟩ = pure (x__law_bend.ps.zip us) := match us, hl with | [_, _, _], _ => rfl
theorem bd__law_legs (kV doc pm : Value) (an : Option Addr) (cdv ct : Value) (us : List Value) (hl : us.length = x__law_legs.ps.length) : bindArgs (PySem.W.fnOf d__law_legs.name d__law_legs.qual d__law_legs.params d__law_legs.body d__law_legs.scope .none kV doc pm an cdv ct) ⟨us, []⟩ = pure (x__law_legs.ps.zip us) := match us, hl with | [_, _, _, _], _ => rfl
theorem bd__law_held (kV doc pm : Value) (an : Option Addr) (cdv ct : Value) (us : List Value) (hl : us.length = x__law_held.ps.length) : bindArgs (PySem.W.fnOf d__law_held.name d__law_held.qual d__law_held.params d__law_held.body d__law_held.scope .none kV doc pm an cdv ct) ⟨us, []⟩ = pure (x__law_held.ps.zip us) := match us, hl with | [_, _], _ => rfl
theorem bd__law_alike (kV doc pm : Value) (an : Option Addr) (cdv ct : Value) (us : List Value) (hl : us.length = x__law_alike.ps.length) : bindArgs (PySem.W.fnOf d__law_alike.name d__law_alike.qual d__law_alike.params d__law_alike.body d__law_alike.scope .none kV doc pm an cdv ct) ⟨us, []⟩ = pure (x__law_alike.ps.zip us) := match us, hl with | [_, _, _, _], _ => rfl
theorem bd__law_turns_alike (kV doc pm : Value) (an : Option Addr) (cdv ct : Value) (us : List Value) (hl : us.length = x__law_turns_alike.ps.length) : bindArgs (PySem.W.fnOf d__law_turns_alike.name d__law_turns_alike.qual d__law_turns_alike.params d__law_turns_alike.body d__law_turns_alike.scope .none kV doc pm an cdv ct) ⟨us, []⟩ = pure (x__law_turns_alike.ps.zip us) := match us, hl with | [_, _, _, _], _ => rfl
theorem bd_law (kV doc pm : Value) (an : Option Addr) (cdv ct : Value) (us : List Value) (hl : us.length = x_law.ps.length) : bindArgs (PySem.W.fnOf d_law.name d_law.qual d_law.params d_law.body d_law.scope .none kV doc pm an cdv ct) ⟨us, []⟩ = pure (x_law.ps.zip us) := match us, hl with | [_], _ => rfl
theorem bdAll : ∀ (i : Nat) (dx : DX), px.ds[i]? = some dx → ∀ (kV doc pm : Value) (an : Option Addr) (cdv ct : Value) (us : List Value), us.length = dx.ps.length → bindArgs (PySem.W.fnOf dx.d.name dx.d.qual dx.d.params dx.d.body dx.d.scope .none kV doc pm an cdv ct) ⟨us, []⟩ = pure (dx.ps.zip us)
  | 0, dx, h => by cases h; exact bd_is_number
  | 1, dx, h => by cases h; exact bd_turned_round
  | 2, dx, h => by cases h; exact bd_next_by
  | 3, dx, h => by cases h; exact bd_led_by
  | 4, dx, h => by cases h; exact bd_is_way
  | 5, dx, h => by cases h; exact bd_along_rules
  | 6, dx, h => by cases h; exact bd_is_turn_way
  | 7, dx, h => by cases h; exact bd__law_deck
  | 8, dx, h => by cases h; exact bd__law_take
  | 9, dx, h => by cases h; exact bd__law_names
  | 10, dx, h => by cases h; exact bd__law_turn
  | 11, dx, h => by cases h; exact bd__law_sort
  | 12, dx, h => by cases h; exact bd__law_rule
  | 13, dx, h => by cases h; exact bd__law_rules
  | 14, dx, h => by cases h; exact bd__law_round
  | 15, dx, h => by cases h; exact bd__law_next
  | 16, dx, h => by cases h; exact bd__law_whole
  | 17, dx, h => by cases h; exact bd__law_end_of
  | 18, dx, h => by cases h; exact bd__law_odd
  | 19, dx, h => by cases h; exact bd__law_bend
  | 20, dx, h => by cases h; exact bd__law_legs
  | 21, dx, h => by cases h; exact bd__law_held
  | 22, dx, h => by cases h; exact bd__law_alike
  | 23, dx, h => by cases h; exact bd__law_turns_alike
  | 24, dx, h => by cases h; exact bd_law
  | n + 25, dx, h => by cases h
def loose : List Str := ([("__name__" : Str), ("_law_alike" : Str), ("_law_bend" : Str), ("_law_deck" : Str), ("_law_end_of" : Str), ("_law_held" : Str), ("_law_legs" : Str), ("_law_names" : Str), ("_law_next" : Str), ("_law_odd" : Str), ("_law_round" : Str), ("_law_rule" : Str), ("_law_rules" : Str), ("_law_sort" : Str), ("_law_take" : Str), ("_law_turn" : Str), ("_law_turns_alike" : Str), ("_law_whole" : Str), ("along_rules" : Str), ("is_number" : Str), ("is_turn_way" : Str), ("is_way" : Str), ("led_by" : Str), ("next_by" : Str), ("turned_round" : Str)])
abbrev R0 : PySem.W.OpenRow := PySem.W.OpenLaw.row PySem.Challenge.rw_ledquestions_k06_ways_held
abbrev hk : PySem.W.Hook := hookB 4 (ckP px) [] px.fn
def ob (s : PySem.W.SharedT) : Bool × He.AlD := obsB 4 (ckP px) [] px.fn (HandSHeadRun.getT s)
theorem ob_eq (s : PySem.W.SharedT) : ob s = hk.obs s.abs := obsB_eq (HandSHeadRun.getT_eq s)
theorem run0 (w : World) : HandSHeadRun.RunEq R0 (PySem.W.view R0.prog [27]) hk ob 20000 loose w := by
  intro os
  kernel_rfl
end LX
set_option Elab.async false
set_option linter.all false
set_option maxRecDepth 100000
set_option maxHeartbeats 4000000
namespace LX
open PySem BV
section
variable (a0 x : Option D)
theorem g1_0 : getV [a0] 0 = a0 := rfl
theorem z1_0 : List.set [a0] 0 x = [x] := rfl
end
section
variable (a0 a1 x : Option D)
theorem g2_0 : getV [a0, a1] 0 = a0 := rfl
theorem z2_0 : List.set [a0, a1] 0 x = [x, a1] := rfl
theorem g2_1 : getV [a0, a1] 1 = a1 := rfl
theorem z2_1 : List.set [a0, a1] 1 x = [a0, x] := rfl
end
section
variable (a0 a1 a2 a3 x : Option D)
theorem g4_0 : getV [a0, a1, a2, a3] 0 = a0 := rfl
theorem z4_0 : List.set [a0, a1, a2, a3] 0 x = [x, a1, a2, a3] := rfl
theorem g4_1 : getV [a0, a1, a2, a3] 1 = a1 := rfl
theorem z4_1 : List.set [a0, a1, a2, a3] 1 x = [a0, x, a2, a3] := rfl
theorem g4_2 : getV [a0, a1, a2, a3] 2 = a2 := rfl
theorem z4_2 : List.set [a0, a1, a2, a3] 2 x = [a0, a1, x, a3] := rfl
theorem g4_3 : getV [a0, a1, a2, a3] 3 = a3 := rfl
theorem z4_3 : List.set [a0, a1, a2, a3] 3 x = [a0, a1, a2, x] := rfl
end
section
variable (a0 a1 a2 a3 a4 x : Option D)
theorem g5_0 : getV [a0, a1, a2, a3, a4] 0 = a0 := rfl
theorem z5_0 : List.set [a0, a1, a2, a3, a4] 0 x = [x, a1, a2, a3, a4] := rfl
theorem g5_1 : getV [a0, a1, a2, a3, a4] 1 = a1 := rfl
theorem z5_1 : List.set [a0, a1, a2, a3, a4] 1 x = [a0, x, a2, a3, a4] := rfl
theorem g5_2 : getV [a0, a1, a2, a3, a4] 2 = a2 := rfl
theorem z5_2 : List.set [a0, a1, a2, a3, a4] 2 x = [a0, a1, x, a3, a4] := rfl
theorem g5_3 : getV [a0, a1, a2, a3, a4] 3 = a3 := rfl
theorem z5_3 : List.set [a0, a1, a2, a3, a4] 3 x = [a0, a1, a2, x, a4] := rfl
theorem g5_4 : getV [a0, a1, a2, a3, a4] 4 = a4 := rfl
theorem z5_4 : List.set [a0, a1, a2, a3, a4] 4 x = [a0, a1, a2, a3, x] := rfl
end
section
variable (a0 a1 a2 a3 a4 a5 x : Option D)
theorem g6_0 : getV [a0, a1, a2, a3, a4, a5] 0 = a0 := rfl
theorem z6_0 : List.set [a0, a1, a2, a3, a4, a5] 0 x = [x, a1, a2, a3, a4, a5] := rfl
theorem g6_1 : getV [a0, a1, a2, a3, a4, a5] 1 = a1 := rfl
theorem z6_1 : List.set [a0, a1, a2, a3, a4, a5] 1 x = [a0, x, a2, a3, a4, a5] := rfl
theorem g6_2 : getV [a0, a1, a2, a3, a4, a5] 2 = a2 := rfl
theorem z6_2 : List.set [a0, a1, a2, a3, a4, a5] 2 x = [a0, a1, x, a3, a4, a5] := rfl
theorem g6_3 : getV [a0, a1, a2, a3, a4, a5] 3 = a3 := rfl
theorem z6_3 : List.set [a0, a1, a2, a3, a4, a5] 3 x = [a0, a1, a2, x, a4, a5] := rfl
theorem g6_4 : getV [a0, a1, a2, a3, a4, a5] 4 = a4 := rfl
theorem z6_4 : List.set [a0, a1, a2, a3, a4, a5] 4 x = [a0, a1, a2, a3, x, a5] := rfl
theorem g6_5 : getV [a0, a1, a2, a3, a4, a5] 5 = a5 := rfl
theorem z6_5 : List.set [a0, a1, a2, a3, a4, a5] 5 x = [a0, a1, a2, a3, a4, x] := rfl
end
section
variable (a0 a1 a2 a3 a4 a5 a6 x : Option D)
theorem g7_0 : getV [a0, a1, a2, a3, a4, a5, a6] 0 = a0 := rfl
theorem z7_0 : List.set [a0, a1, a2, a3, a4, a5, a6] 0 x = [x, a1, a2, a3, a4, a5, a6] := rfl
theorem g7_1 : getV [a0, a1, a2, a3, a4, a5, a6] 1 = a1 := rfl
theorem z7_1 : List.set [a0, a1, a2, a3, a4, a5, a6] 1 x = [a0, x, a2, a3, a4, a5, a6] := rfl
theorem g7_2 : getV [a0, a1, a2, a3, a4, a5, a6] 2 = a2 := rfl
theorem z7_2 : List.set [a0, a1, a2, a3, a4, a5, a6] 2 x = [a0, a1, x, a3, a4, a5, a6] := rfl
theorem g7_3 : getV [a0, a1, a2, a3, a4, a5, a6] 3 = a3 := rfl
theorem z7_3 : List.set [a0, a1, a2, a3, a4, a5, a6] 3 x = [a0, a1, a2, x, a4, a5, a6] := rfl
theorem g7_4 : getV [a0, a1, a2, a3, a4, a5, a6] 4 = a4 := rfl
theorem z7_4 : List.set [a0, a1, a2, a3, a4, a5, a6] 4 x = [a0, a1, a2, a3, x, a5, a6] := rfl
theorem g7_5 : getV [a0, a1, a2, a3, a4, a5, a6] 5 = a5 := rfl
theorem z7_5 : List.set [a0, a1, a2, a3, a4, a5, a6] 5 x = [a0, a1, a2, a3, a4, x, a6] := rfl
theorem g7_6 : getV [a0, a1, a2, a3, a4, a5, a6] 6 = a6 := rfl
theorem z7_6 : List.set [a0, a1, a2, a3, a4, a5, a6] 6 x = [a0, a1, a2, a3, a4, a5, x] := rfl
end
theorem backC_ret (ρ : Ev) (d o : D) : backC ρ (.ret d o) = .ok d ρ := rfl
def TurnD (d : D) : Prop := ∃ s i, d = .tuple [.str s, .int i]
def FlatD (d : D) : Prop := noDict d = true ∧ d.depth ≤ 3
def rnd : D → D
  | .tuple [.str s, .int i] => .tuple [.str s, .int (1 - i)]
  | d => d
def stepR (w : Str) (x y sort : D) (t : Int) : D := if w = "within" then (if t = 0 then (if PyData.eqv x sort = true then y else .none) else .none) else if w = "along" then
  (if t = 0 then (if PyData.eqv x sort = true then y else .none) else if t = 1 then (if PyData.eqv (rnd x) sort = true then rnd y else .none) else .none) else .none
theorem flat_rnd {x : D} (h : TurnD x) : FlatD (rnd x) := by
  obtain ⟨s, i, rfl⟩ := h
  exact ⟨rfl, by simp [rnd, PyData.depth, PyData.depthAll]⟩
theorem flat_turn {x : D} (h : TurnD x) : FlatD x := by
  obtain ⟨s, i, rfl⟩ := h
  exact ⟨rfl, by simp [PyData.depth, PyData.depthAll]⟩
theorem eq_flat {x y : D} (hx : FlatD x) (hy : FlatD y) : opCmp .eq x y = some (PyData.eqv x y) := by
  refine if_pos ?_
  unfold eqOk
  rw [hx.1, hy.1, decide_eq_true (by have := hx.2; omega)]
  rfl
theorem ne_flat {x y : D} (hx : FlatD x) (hy : FlatD y) : opCmp .ne x y = some (!PyData.eqv x y) := by
  refine if_pos ?_
  unfold eqOk
  rw [hx.1, hy.1, decide_eq_true (by have := hx.2; omega)]
  rfl
theorem flat_none : FlatD .none := ⟨rfl, by simp [PyData.depth]⟩
theorem mem2 (w : Str) : opCmp .notin (.str w) (.tuple [.str "within", .str "along"]) = some (!(decide (w = "within") || decide (w = "along"))) := by
  have e : ∀ u : Str, PyData.eqv (.str u) (.str w) = decide (w = u) := fun u => by
    by_cases h : u = w
    · subst h; simp [PyData.eqv]
    · simp [PyData.eqv, h, Ne.symm h]
  show (opMem (.str w) (.tuple [.str "within", .str "along"])).map (!·) = _
  have : opMem (.str w) (.tuple [.str "within", .str "along"]) = some ([PyData.str "within", .str "along"].any fun z => PyData.eqv z (.str w)) := by
    exact mem_sq (l := false) (ys := [.str "within", .str "along"]) (x := .str w) rfl rfl (by simp [PyData.depth])
  rw [this]
  simp [e]
theorem idx_t {xs : List D} {n : Nat} {x : D} (h : xs[n]? = some x) : opIdx (.tuple xs) (.int (n : Int)) = some x := opIdx_nat (xs := xs) h
section
variable {P : Nat → Option Fn} (hP : P = px.P)
include hP
theorem round_run (k : Nat) {x : D} (h : TurnD x) : run P (k + 1) 1 [x] = .ret (rnd x) .none := by
  rw [run_ret (fn := x_turned_round.fn) (by rw [hP]; rfl) rfl rfl]
  show (x_turned_round.fn).endS (evS (runB P k).1 (runB P k).2 .none b_turned_round [some x]) = _
  obtain ⟨s, i, rfl⟩ := h
  have i0 : opIdx (.tuple [.str s, .int i]) (.int 0) = some (.str s) := rfl
  have i1 : opIdx (.tuple [.str s, .int i]) (.int 1) = some (.int i) := rfl
  have sb : opBin .sub (.int 1) (.int i) = some (.int (1 - i)) := rfl
  simp -implicitDefEqProofs only [b_turned_round, g1_0, z1_0, i0, i1, sb, evS, evE, evA, evAnd, evOr, evH, Option.map_some, Out.bind_ok, Out.lift_some, Out.toS_ok, SOut.thn_next, SOut.thn_ret, tru_b, backC_ret, if_true, Bool.false_eq_true, if_false, Bool.not_true, Bool.not_false]
  rfl
theorem lround_run (k : Nat) {x : D} (h : TurnD x) : run P (k + 1) 14 [x] = .ret (rnd x) .none := by
  rw [run_ret (fn := x__law_round.fn) (by rw [hP]; rfl) rfl rfl]
  show (x__law_round.fn).endS (evS (runB P k).1 (runB P k).2 .none b__law_round [some x]) = _
  obtain ⟨s, i, rfl⟩ := h
  have i0 : opIdx (.tuple [.str s, .int i]) (.int 0) = some (.str s) := rfl
  have i1 : opIdx (.tuple [.str s, .int i]) (.int 1) = some (.int i) := rfl
  have sb : opBin .sub (.int 1) (.int i) = some (.int (1 - i)) := rfl
  simp -implicitDefEqProofs only [b__law_round, g1_0, z1_0, i0, i1, sb, evS, evE, evA, evAnd, evOr, evH, Option.map_some, Out.bind_ok, Out.lift_some, Out.toS_ok, SOut.thn_next, SOut.thn_ret, tru_b, backC_ret, if_true, Bool.false_eq_true, if_false, Bool.not_true, Bool.not_false]
  rfl
theorem next_run (k : Nat) {rs : List D} {n : Nat} {w : Str} {x y sort : D} {t : Int} (hr : rs[n]? = some (.tuple [.str w, x, y])) (hx : FlatD x) (hs : FlatD sort) (hw : w = "along" → TurnD x ∧ TurnD y) (ht : t = 0 ∨ t = 1) :
    run P (k + 2) 2 [.tuple rs, sort, .int n, .int t] = .ret (stepR w x y sort t) .none := by
  rw [run_ret (fn := x_next_by.fn) (by rw [hP]; rfl) rfl rfl]
  show (x_next_by.fn).endS (evS (runB P (k + 1)).1 (runB P (k + 1)).2 .none b_next_by [some (.tuple rs), some sort, some (.int n), some (.int t), none, none, none]) = _
  have hb : ∀ a0 a1 a2 a3 a4 a5 a6 : Option D, bindT (.t (.cons (.s 4) (.cons (.s 5) (.cons (.s 6) .nil)))) (.tuple [.str w, x, y]) [a0, a1, a2, a3, a4, a5, a6] = some [a0, a1, a2, a3, some (.str w), some x, some y] := fun _ _ _ _ _ _ _ => rfl
  have hne := ne_flat hx hs
  have ht1 : decide (t = 1) = !decide (t = 0) := by rcases ht with h | h <;> subst h <;> rfl
  by_cases hA : w = "along"
  · obtain ⟨h1, h2⟩ := hw hA
    have dA : decide (w = "along") = true := decide_eq_true hA
    have dW : decide (w = "within") = false := decide_eq_false (by rw [hA]; decide +kernel)
    have r1 : (runB P (k + 1)).1 1 [x] = .ret (rnd x) .none := round_run hP k h1
    have r2 : (runB P (k + 1)).1 1 [y] = .ret (rnd y) .none := round_run hP k h2
    have hne2 := ne_flat (flat_rnd h1) hs
    have hst : stepR w x y sort t = if t = 0 then (if PyData.eqv x sort = true then y else .none) else if t = 1 then (if PyData.eqv (rnd x) sort = true then rnd y else .none) else .none := by
      unfold stepR
      rw [if_neg (of_decide_eq_false dW), if_pos hA]
    rw [hst]
    rcases ht with h | h
    · have d0 : decide (t = 1) = false := decide_eq_false (by omega)
      rw [if_pos h]
      cases he : PyData.eqv x sort <;> rw [he] at hne <;>
      simp -implicitDefEqProofs only [b_next_by, g7_0, z7_0, g7_1, z7_1, g7_2, z7_2, g7_3, z7_3, g7_4, z7_4, g7_5, z7_5, g7_6, z7_6, idx_t hr, hb, cmpEq_str, cmpEq_int, mem2, dA, dW, d0, hne, r1, r2, Bool.or_true, Bool.false_or, Bool.or_false, evS, evE, evA, evAnd, evOr, evH, Option.map_some, Out.bind_ok, Out.lift_some, Out.toS_ok, SOut.thn_next, SOut.thn_ret, tru_b, backC_ret, if_true, Bool.false_eq_true, if_false, Bool.not_true, Bool.not_false] <;> rfl
    · have d0 : decide (t = 1) = true := decide_eq_true h
      rw [if_neg (by omega), if_pos h]
      cases he : PyData.eqv (rnd x) sort <;> rw [he] at hne2 <;>
      simp -implicitDefEqProofs only [b_next_by, g7_0, z7_0, g7_1, z7_1, g7_2, z7_2, g7_3, z7_3, g7_4, z7_4, g7_5, z7_5, g7_6, z7_6, idx_t hr, hb, cmpEq_str, cmpEq_int, mem2, dA, dW, d0, hne2, r1, r2, Bool.or_true, Bool.false_or, Bool.or_false, evS, evE, evA, evAnd, evOr, evH, Option.map_some, Out.bind_ok, Out.lift_some, Out.toS_ok, SOut.thn_next, SOut.thn_ret, tru_b, backC_ret, if_true, Bool.false_eq_true, if_false, Bool.not_true, Bool.not_false] <;> rfl
  · have dA : decide (w = "along") = false := decide_eq_false hA
    by_cases hW : w = "within"
    · have dW : decide (w = "within") = true := decide_eq_true hW
      have hst : stepR w x y sort t = if t = 0 then (if PyData.eqv x sort = true then y else .none) else .none := by
        unfold stepR
        rw [if_pos hW]
      rw [hst]
      rcases ht with h | h
      · have d0 : decide (t = 1) = false := decide_eq_false (by omega)
        rw [if_pos h]
        cases he : PyData.eqv x sort <;> rw [he] at hne <;>
        simp -implicitDefEqProofs only [b_next_by, g7_0, z7_0, g7_1, z7_1, g7_2, z7_2, g7_3, z7_3, g7_4, z7_4, g7_5, z7_5, g7_6, z7_6, idx_t hr, hb, cmpEq_str, cmpEq_int, mem2, dA, dW, d0, hne, Bool.or_true, Bool.true_or, Bool.false_or, Bool.or_false, evS, evE, evA, evAnd, evOr, evH, Option.map_some, Out.bind_ok, Out.lift_some, Out.toS_ok, SOut.thn_next, SOut.thn_ret, tru_b, backC_ret, if_true, Bool.false_eq_true, if_false, Bool.not_true, Bool.not_false] <;> rfl
      · have d0 : decide (t = 1) = true := decide_eq_true h
        rw [if_neg (by omega)]
        simp -implicitDefEqProofs only [b_next_by, g7_0, z7_0, g7_1, z7_1, g7_2, z7_2, g7_3, z7_3, g7_4, z7_4, g7_5, z7_5, g7_6, z7_6, idx_t hr, hb, cmpEq_str, cmpEq_int, mem2, dA, dW, d0, Bool.or_true, Bool.true_or, Bool.false_or, Bool.or_false, evS, evE, evA, evAnd, evOr, evH, Option.map_some, Out.bind_ok, Out.lift_some, Out.toS_ok, SOut.thn_next, SOut.thn_ret, tru_b, backC_ret, if_true, Bool.false_eq_true, if_false, Bool.not_true, Bool.not_false]
        rfl
    · have dW : decide (w = "within") = false := decide_eq_false hW
      have hst : stepR w x y sort t = .none := by
        unfold stepR
        rw [if_neg hW, if_neg hA]
      rw [hst]
      simp -implicitDefEqProofs only [b_next_by, g7_0, z7_0, g7_1, z7_1, g7_2, z7_2, g7_3, z7_3, g7_4, z7_4, g7_5, z7_5, g7_6, z7_6, idx_t hr, hb, cmpEq_str, cmpEq_int, mem2, dA, dW, Bool.or_true, Bool.true_or, Bool.false_or, Bool.or_false, evS, evE, evA, evAnd, evOr, evH, Option.map_some, Out.bind_ok, Out.lift_some, Out.toS_ok, SOut.thn_next, SOut.thn_ret, tru_b, backC_ret, if_true, Bool.false_eq_true, if_false, Bool.not_true, Bool.not_false]
      rfl
theorem lnext_run (k : Nat) {rs : List D} {n : Nat} {w : Str} {x y sort : D} {t : Int} (hr : rs[n]? = some (.tuple [.str w, x, y])) (hx : FlatD x) (hs : FlatD sort) (hw : w = "along" → TurnD x ∧ TurnD y) :
    run P (k + 2) 15 [.tuple rs, sort, .int n, .int t] = .ret (stepR w x y sort t) .none := by
  rw [run_ret (fn := x__law_next.fn) (by rw [hP]; rfl) rfl rfl]
  show (x__law_next.fn).endS (evS (runB P (k + 1)).1 (runB P (k + 1)).2 .none b__law_next [some (.tuple rs), some sort, some (.int n), some (.int t), none, none, none]) = _
  have hb : ∀ a0 a1 a2 a3 a4 a5 a6 : Option D, bindT (.t (.cons (.s 4) (.cons (.s 5) (.cons (.s 6) .nil)))) (.tuple [.str w, x, y]) [a0, a1, a2, a3, a4, a5, a6] = some [a0, a1, a2, a3, some (.str w), some x, some y] := fun _ _ _ _ _ _ _ => rfl
  have heq := eq_flat hs hx
  rw [PySem.W.eqv_comm] at heq
  by_cases hA : w = "along"
  · obtain ⟨h1, h2⟩ := hw hA
    have dA : decide (w = "along") = true := decide_eq_true hA
    have dW : decide (w = "within") = false := decide_eq_false (by rw [hA]; decide +kernel)
    have r1 : (runB P (k + 1)).1 14 [x] = .ret (rnd x) .none := lround_run hP k h1
    have r2 : (runB P (k + 1)).1 14 [y] = .ret (rnd y) .none := lround_run hP k h2
    have heq2 := eq_flat hs (flat_rnd h1)
    rw [PySem.W.eqv_comm] at heq2
    have hst : stepR w x y sort t = if t = 0 then (if PyData.eqv x sort = true then y else .none) else if t = 1 then (if PyData.eqv (rnd x) sort = true then rnd y else .none) else .none := by
      unfold stepR
      rw [if_neg (of_decide_eq_false dW), if_pos hA]
    rw [hst]
    by_cases h0 : t = 0
    · have d0 : decide (t = 0) = true := decide_eq_true h0
      have d1 : decide (t = 1) = false := decide_eq_false (by omega)
      rw [if_pos h0]
      cases he : PyData.eqv x sort <;> rw [he] at heq <;>
      simp -implicitDefEqProofs only [b__law_next, g7_0, z7_0, g7_1, z7_1, g7_2, z7_2, g7_3, z7_3, g7_4, z7_4, g7_5, z7_5, g7_6, z7_6, idx_t hr, hb, cmpEq_str, cmpEq_int, dA, dW, d0, d1, heq, r1, r2, evS, evE, evA, evAnd, evOr, evH, Option.map_some, Out.bind_ok, Out.lift_some, Out.toS_ok, SOut.thn_next, SOut.thn_ret, tru_b, backC_ret, if_true, Bool.false_eq_true, if_false, Bool.not_true, Bool.not_false] <;> rfl
    · have d0 : decide (t = 0) = false := decide_eq_false h0
      rw [if_neg h0]
      by_cases h1 : t = 1
      · have d1 : decide (t = 1) = true := decide_eq_true h1
        rw [if_pos h1]
        cases he : PyData.eqv (rnd x) sort <;> rw [he] at heq2 <;>
        simp -implicitDefEqProofs only [b__law_next, g7_0, z7_0, g7_1, z7_1, g7_2, z7_2, g7_3, z7_3, g7_4, z7_4, g7_5, z7_5, g7_6, z7_6, idx_t hr, hb, cmpEq_str, cmpEq_int, dA, dW, d0, d1, heq2, r1, r2, evS, evE, evA, evAnd, evOr, evH, Option.map_some, Out.bind_ok, Out.lift_some, Out.toS_ok, SOut.thn_next, SOut.thn_ret, tru_b, backC_ret, if_true, Bool.false_eq_true, if_false, Bool.not_true, Bool.not_false] <;> rfl
      · have d1 : decide (t = 1) = false := decide_eq_false h1
        rw [if_neg h1]
        simp -implicitDefEqProofs only [b__law_next, g7_0, z7_0, g7_1, z7_1, g7_2, z7_2, g7_3, z7_3, g7_4, z7_4, g7_5, z7_5, g7_6, z7_6, idx_t hr, hb, cmpEq_str, cmpEq_int, dA, dW, d0, d1, r1, r2, evS, evE, evA, evAnd, evOr, evH, Option.map_some, Out.bind_ok, Out.lift_some, Out.toS_ok, SOut.thn_next, SOut.thn_ret, tru_b, backC_ret, if_true, Bool.false_eq_true, if_false, Bool.not_true, Bool.not_false]
        rfl
  · have dA : decide (w = "along") = false := decide_eq_false hA
    by_cases hW : w = "within"
    · have dW : decide (w = "within") = true := decide_eq_true hW
      have hst : stepR w x y sort t = if t = 0 then (if PyData.eqv x sort = true then y else .none) else .none := by
        unfold stepR
        rw [if_pos hW]
      rw [hst]
      by_cases h0 : t = 0
      · have d0 : decide (t = 0) = true := decide_eq_true h0
        rw [if_pos h0]
        cases he : PyData.eqv x sort <;> rw [he] at heq <;>
        simp -implicitDefEqProofs only [b__law_next, g7_0, z7_0, g7_1, z7_1, g7_2, z7_2, g7_3, z7_3, g7_4, z7_4, g7_5, z7_5, g7_6, z7_6, idx_t hr, hb, cmpEq_str, cmpEq_int, dA, dW, d0, heq, evS, evE, evA, evAnd, evOr, evH, Option.map_some, Out.bind_ok, Out.lift_some, Out.toS_ok, SOut.thn_next, SOut.thn_ret, tru_b, backC_ret, if_true, Bool.false_eq_true, if_false, Bool.not_true, Bool.not_false] <;> rfl
      · have d0 : decide (t = 0) = false := decide_eq_false h0
        rw [if_neg h0]
        simp -implicitDefEqProofs only [b__law_next, g7_0, z7_0, g7_1, z7_1, g7_2, z7_2, g7_3, z7_3, g7_4, z7_4, g7_5, z7_5, g7_6, z7_6, idx_t hr, hb, cmpEq_str, cmpEq_int, dA, dW, d0, evS, evE, evA, evAnd, evOr, evH, Option.map_some, Out.bind_ok, Out.lift_some, Out.toS_ok, SOut.thn_next, SOut.thn_ret, tru_b, backC_ret, if_true, Bool.false_eq_true, if_false, Bool.not_true, Bool.not_false]
        rfl
    · have dW : decide (w = "within") = false := decide_eq_false hW
      have hst : stepR w x y sort t = .none := by
        unfold stepR
        rw [if_neg hW, if_neg hA]
      rw [hst]
      simp -implicitDefEqProofs only [b__law_next, g7_0, z7_0, g7_1, z7_1, g7_2, z7_2, g7_3, z7_3, g7_4, z7_4, g7_5, z7_5, g7_6, z7_6, idx_t hr, hb, cmpEq_str, cmpEq_int, dA, dW, evS, evE, evA, evAnd, evOr, evH, Option.map_some, Out.bind_ok, Out.lift_some, Out.toS_ok, SOut.thn_next, SOut.thn_ret, tru_b, backC_ret, if_true, Bool.false_eq_true, if_false, Bool.not_true, Bool.not_false]
      rfl
end
end LX
set_option Elab.async false
set_option linter.all false
set_option maxRecDepth 100000
set_option maxHeartbeats 4000000
namespace LX
open PySem BV
def GoodR (r : D) : Prop := ∃ w x y, r = .tuple [.str w, x, y] ∧ FlatD x ∧ FlatD y ∧ (w = "along" → TurnD x ∧ TurnD y)
def RN (o : SOut) : Prop := ∃ ρ, o = .ret .none ρ
theorem rn {ρ : Ev} : RN (.ret .none ρ) := ⟨ρ, rfl⟩
def isN (d : D) : Bool := isTy .int d && !isTy .bool d
def ruleStep (al : Bool) (r sort : D) (t : Int) : D := match r with
  | .tuple [.str w, x, y] => if (al && !decide (w = "along")) = true then .none else stepR w x y sort t
  | _ => .none
def oneStep (al : Bool) (rs : List D) (sort st : D) : D := match st with
  | .tuple [.int n, .int t] => if 0 ≤ n ∧ n < rs.length then ruleStep al (rs.getD n.toNat .none) sort t else .none
  | _ => .none
def walk (al : Bool) (rs : List D) : D → List D → D
  | sort, [] => sort
  | sort, st :: r => if isNone (oneStep al rs sort st) = true then .none else walk al rs (oneStep al rs sort st) r
def led (al : Bool) (rs : List D) (sort way : D) : D := match way with
  | .tuple steps => walk al rs sort steps
  | _ => .none
theorem stepR_flat {w : Str} {x y sort : D} {t : Int} (hy : FlatD y) (hw : w = "along" → TurnD x ∧ TurnD y) : FlatD (stepR w x y sort t) := by
  unfold stepR
  split
  · split
    · split
      · exact hy
      · exact flat_none
    · exact flat_none
  · split
    · rename_i h
      split
      · split
        · exact hy
        · exact flat_none
      · split
        · split
          · exact flat_rnd (hw h).2
          · exact flat_none
        · exact flat_none
    · exact flat_none
theorem oneStep_flat {al : Bool} {rs : List D} {sort st : D} (hr : ∀ r ∈ rs, GoodR r) : FlatD (oneStep al rs sort st) := by
  unfold oneStep
  split
  · split
    · rename_i n t h
      have hn : n.toNat < rs.length := by omega
      have hm : rs.getD n.toNat .none ∈ rs := by simp [List.getD, hn]
      obtain ⟨w, x, y, e, hx, hy, hw⟩ := hr _ hm
      rw [e]
      show FlatD (if (al && !decide (w = "along")) = true then .none else stepR w x y sort t)
      split
      · exact flat_none
      · exact stepR_flat hy hw
    · exact flat_none
  · exact flat_none
theorem walk_flat {al : Bool} {rs : List D} (hr : ∀ r ∈ rs, GoodR r) : ∀ (steps : List D) (sort : D), FlatD sort → FlatD (walk al rs sort steps)
  | [], sort, h => h
  | st :: r, sort, h => by
    unfold walk
    split
    · exact flat_none
    · exact walk_flat hr r _ (oneStep_flat hr)
theorem led_flat {al : Bool} {rs : List D} {sort way : D} (hr : ∀ r ∈ rs, GoodR r) (h : FlatD sort) : FlatD (led al rs sort way) := by
  unfold led
  split
  · exact walk_flat hr _ _ h
  · exact flat_none
theorem isN_int {d : D} (h : isN d = true) : ∃ i, d = .int i := by
  cases d <;> first | (cases h; done) | exact ⟨_, rfl⟩
theorem notin01 (t : Int) : opCmp .notin (.int t) (.tuple [.int 0, .int 1]) = some (!(decide (t = 0) || decide (t = 1))) := by
  have e : ∀ u : Int, PyData.eqv (.int u) (.int t) = decide (t = u) := fun u => by
    by_cases h : u = t
    · subst h; simp [PyData.eqv]
    · simp [PyData.eqv, h, Ne.symm h]
  show (opMem (.int t) (.tuple [.int 0, .int 1])).map (!·) = _
  rw [show opMem (.int t) (.tuple [.int 0, .int 1]) = _ from mem_sq (l := false) (ys := [.int 0, .int 1]) (x := .int t) rfl rfl (by simp [PyData.depth])]
  simp [e]
section
variable {P : Nat → Option Fn} (hP : P = px.P)
include hP
theorem number_run (k : Nat) (d : D) : run P (k + 1) 0 [d] = .ret (.bool (isN d)) .none := by
  rw [run_ret (fn := x_is_number.fn) (by rw [hP]; rfl) rfl rfl]
  show (x_is_number.fn).endS (evS (runB P k).1 (runB P k).2 .none b_is_number [some d]) = _
  have h1 : ([Ty.int].any fun t => isTy t d) = isTy .int d := by simp
  have h2 : ([Ty.bool].any fun t => isTy t d) = isTy .bool d := by simp
  unfold isN
  cases h : isTy .int d <;> rw [h] at h1 <;>
  simp -implicitDefEqProofs only [b_is_number, g1_0, z1_0, h1, h2, Bool.true_and, Bool.false_and, evS, evE, evA, evAnd, evOr, evH, Option.map_some, Out.bind_ok, Out.lift_some, Out.toS_ok, SOut.thn_next, SOut.thn_ret, tru_b, backC_ret, if_true, Bool.false_eq_true, if_false, Bool.not_true, Bool.not_false] <;> rfl
theorem whole_run (k : Nat) (d : D) : run P (k + 1) 16 [d] = .ret (.bool (isN d)) .none := by
  rw [run_ret (fn := x__law_whole.fn) (by rw [hP]; rfl) rfl rfl]
  show (x__law_whole.fn).endS (evS (runB P k).1 (runB P k).2 .none b__law_whole [some d]) = _
  have h1 : ([Ty.int].any fun t => isTy t d) = isTy .int d := by simp
  have h2 : ([Ty.bool].any fun t => isTy t d) = isTy .bool d := by simp
  unfold isN
  cases h : isTy .int d <;> rw [h] at h1 <;>
  simp -implicitDefEqProofs only [b__law_whole, g1_0, z1_0, h1, h2, Bool.true_and, Bool.false_and, evS, evE, evA, evAnd, evOr, evH, Option.map_some, Out.bind_ok, Out.lift_some, Out.toS_ok, SOut.thn_next, SOut.thn_ret, tru_b, backC_ret, if_true, Bool.false_eq_true, if_false, Bool.not_true, Bool.not_false] <;> rfl
def partC : IE := (.lc [6] (.s 6) (.var 3) (.cst (.bool true)) (.call 0 (.econs (.var 6) .enil)))
def ledC : IE := (.or (.econs (.not (.isi (.var 3) [.tuple])) (.econs (.cmp .ne (.blt .len (.econs (.var 3) .enil)) (.cst (.int 2))) (.econs (.not (.blt .all (.econs partC .enil))) .enil))))
def ledT : IS := (.cons (.asg (.t (.cons (.s 4) (.cons (.s 5) .nil))) (.var 3)) (.cons (.ifs (.or (.econs (.not (.cmp3 .le .lt (.cst (.int 0)) (.var 4) (.blt .len (.econs (.var 0) .enil)))) (.econs (.cmp .notin (.var 5) (.tup (.econs (.cst (.int 0)) (.econs (.cst (.int 1)) .enil)))) .enil))) (.cons (.ret (.cst .none)) .nil) .nil) (.cons (.set 1 (.call 2 (.econs (.var 0) (.econs (.var 1) (.econs (.var 4) (.econs (.var 5) .enil)))))) (.cons (.ifs (.cmp .is (.var 1) (.cst .none)) (.cons (.ret (.cst .none)) .nil) .nil) .nil))))
def ledB : IS := (.cons (.ifs ledC (.cons (.ret (.cst .none)) .nil) .nil) ledT)
def ledBody : IS := (.cons (.ifs (.not (.isi (.var 2) [.tuple])) (.cons (.ret (.cst .none)) .nil) .nil) (.cons (.fors (.s 3) (.var 2) ledB) (.cons (.ret (.var 1)) .nil)))
omit hP in
theorem ledBody_eq : b_led_by = ledBody := rfl
/-- one step of a way -/
theorem led_step (k : Nat) {rs : List D} (hr : ∀ r ∈ rs, GoodR r) {sort : D} (hs : FlatD sort) (w st : D) (a3 a4 a5 a6 : Option D) :
    (isNone (oneStep false rs sort st) = true ∧ RN (evS (runB P (k + 2)).1 (runB P (k + 2)).2 .none ledB [some (.tuple rs), some sort, some w, some st, a4, a5, a6])) ∨
    (isNone (oneStep false rs sort st) = false ∧ ∃ b4 b5 b6, evS (runB P (k + 2)).1 (runB P (k + 2)).2 .none ledB [some (.tuple rs), some sort, some w, some st, a4, a5, a6] = .next [some (.tuple rs), some (oneStep false rs sort st), some w, some st, b4, b5, b6]) := by
  have hT : ([Ty.tuple].any fun t => isTy t st) = isTy .tuple st := by simp
  cases hst : isTy .tuple st with
  | false =>
    refine .inl ⟨?_, ?_⟩
    · unfold oneStep
      split
      · cases hst
      · rfl
    · rw [hst] at hT
      simp -implicitDefEqProofs only [ledB, ledC, g7_0, z7_0, g7_1, z7_1, g7_2, z7_2, g7_3, z7_3, g7_4, z7_4, g7_5, z7_5, g7_6, z7_6, hT, evS, evE, evA, evAnd, evOr, evH, Option.map_some, Out.bind_ok, Out.lift_some, Out.toS_ok, SOut.thn_next, SOut.thn_ret, tru_b, backC_ret, if_true, Bool.false_eq_true, if_false, Bool.not_true, Bool.not_false]
      exact rn
  | true =>
    obtain ⟨xs, rfl⟩ : ∃ xs, st = .tuple xs := by cases st <;> first | (cases hst; done) | exact ⟨_, rfl⟩
    rw [hst] at hT
    have hl : opBlt .len [.tuple xs] = some (.int (xs.length : Int)) := rfl
    have hne : opCmp .ne (.int (xs.length : Int)) (.int 2) = some (!decide (xs.length = 2)) := by
      have e1 : opCmp .ne (.int (xs.length : Int)) (.int 2) = some (!decide ((xs.length : Int) = 2)) := by
        have e2 : (if eqOk (.int (xs.length : Int)) (.int 2) = true then some (PyData.eqv (.int (xs.length : Int)) (.int 2)) else none) = some (decide ((xs.length : Int) = 2)) := cmpEq_int _ _
        rw [if_pos (eqOk_int _ _)] at e2
        show (if eqOk (.int (xs.length : Int)) (.int 2) = true then some (!PyData.eqv (.int (xs.length : Int)) (.int 2)) else none) = _
        rw [if_pos (eqOk_int _ _), Option.some.inj e2]
      rw [e1]
      have : decide ((xs.length : Int) = 2) = decide (xs.length = 2) := decide_eq_decide.mpr (by omega)
      rw [this]
    by_cases h2 : xs.length = 2
    · obtain ⟨p, q, rfl⟩ : ∃ p q, xs = [p, q] := by
        match xs, h2 with
        | [p, q], _ => exact ⟨p, q, rfl⟩
      have hd2 : decide ([p, q].length = 2) = true := rfl
      rw [hd2] at hne
      have hp : (runB P (k + 2)).1 0 [p] = .ret (.bool (isN p)) .none := number_run hP (k + 1) p
      have hq : (runB P (k + 2)).1 0 [q] = .ret (.bool (isN q)) .none := number_run hP (k + 1) q
      have hpc : ∀ a4 a5 a6, evE (runB P (k + 2)).1 (runB P (k + 2)).2 .none partC [some (.tuple rs), some sort, some w, some (.tuple [p, q]), a4, a5, a6] = .ok (.list [.bool (isN p), .bool (isN q)]) [some (.tuple rs), some sort, some w, some (.tuple [p, q]), a4, a5, a6] := by
        intro a4 a5 a6
        have hit : items (.tuple [p, q]) = some [p, q] := rfl
        have hb : ∀ (y : D) (a0 a1 a2 a3 a4 a5 a6 : Option D), bindT (.s 6) y [a0, a1, a2, a3, a4, a5, a6] = some [a0, a1, a2, a3, a4, a5, some y] := fun _ _ _ _ _ _ _ _ => rfl
        have hw : ∀ a0 a1 a2 a3 a4 a5 a6 : Option D, wipeE [a0, a1, a2, a3, a4, a5, a6] [6] = [a0, a1, a2, a3, a4, a5, none] := fun _ _ _ _ _ _ _ => rfl
        have t : ∀ (y : D) (b : Bool), (runB P (k + 2)).1 0 [y] = .ret (.bool b) .none → ∀ a0 a1 a2 a3 a4 a5 : Option D, turnE (.s 6) [6] (evE (runB P (k + 2)).1 (runB P (k + 2)).2 .none (.cst (.bool true))) (evE (runB P (k + 2)).1 (runB P (k + 2)).2 .none (.call 0 (.econs (.var 6) .enil))) y [a0, a1, a2, a3, a4, a5, none] = .ok (some (.bool b)) [a0, a1, a2, a3, a4, a5, none] := by
          intro y b hy a0 a1 a2 a3 a4 a5
          simp -implicitDefEqProofs only [turnE, hb, hw, g7_0, z7_0, g7_1, z7_1, g7_2, z7_2, g7_3, z7_3, g7_4, z7_4, g7_5, z7_5, g7_6, z7_6, hy, evS, evE, evA, evAnd, evOr, evH, Option.map_some, Out.bind_ok, Out.lift_some, Out.toS_ok, SOut.thn_next, SOut.thn_ret, tru_b, backC_ret, if_true, Bool.false_eq_true, if_false, Bool.not_true, Bool.not_false]
        unfold partC
        rw [evE, evE, g7_3, Out.lift_some, Out.bind_ok, hit, Out.lift_some, Out.bind_ok, hw]
        rw [show lcLoop (turnE (.s 6) [6] (evE (runB P (k + 2)).1 (runB P (k + 2)).2 .none (.cst (.bool true))) (evE (runB P (k + 2)).1 (runB P (k + 2)).2 .none (.call 0 (.econs (.var 6) .enil)))) [p, q] [some (.tuple rs), some sort, some w, some (.tuple [p, q]), a4, a5, none] = .ok [.bool (isN p), .bool (isN q)] [some (.tuple rs), some sort, some w, some (.tuple [p, q]), a4, a5, none] from lc_step (t p _ hp _ _ _ _ _ _) (lc_step (t q _ hq _ _ _ _ _ _) rfl)]
        rfl
      have hall : opBlt .all [.list [.bool (isN p), .bool (isN q)]] = some (.bool (isN p && isN q)) := by
        show some (PyData.bool (isN p && (isN q && true))) = _
        rw [Bool.and_true]
      cases hN : (isN p && isN q) with
      | false =>
        rw [hN] at hall
        refine .inl ⟨?_, ?_⟩
        · unfold oneStep
          split
          · rename_i e
            cases e
            cases hN
          · rfl
        · simp -implicitDefEqProofs only [ledB, ledC, g7_0, z7_0, g7_1, z7_1, g7_2, z7_2, g7_3, z7_3, g7_4, z7_4, g7_5, z7_5, g7_6, z7_6, hT, hl, hne, hpc, hall, evS, evE, evA, evAnd, evOr, evH, Option.map_some, Out.bind_ok, Out.lift_some, Out.toS_ok, SOut.thn_next, SOut.thn_ret, tru_b, backC_ret, if_true, Bool.false_eq_true, if_false, Bool.not_true, Bool.not_false]
          exact rn
      | true =>
        rw [hN] at hall
        obtain ⟨n1, n2⟩ := a2 hN
        obtain ⟨n, rfl⟩ := isN_int n1
        obtain ⟨t, rfl⟩ := isN_int n2
        have first : evS (runB P (k + 2)).1 (runB P (k + 2)).2 .none ledB [some (.tuple rs), some sort, some w, some (.tuple [.int n, .int t]), a4, a5, a6] = evS (runB P (k + 2)).1 (runB P (k + 2)).2 .none ledT [some (.tuple rs), some sort, some w, some (.tuple [.int n, .int t]), a4, a5, a6] := by
          unfold ledB
          rw [evS, evS]
          have hc : evE (runB P (k + 2)).1 (runB P (k + 2)).2 .none ledC [some (.tuple rs), some sort, some w, some (.tuple [.int n, .int t]), a4, a5, a6] = .ok (.bool false) [some (.tuple rs), some sort, some w, some (.tuple [.int n, .int t]), a4, a5, a6] := by
            simp -implicitDefEqProofs only [ledC, g7_0, z7_0, g7_1, z7_1, g7_2, z7_2, g7_3, z7_3, g7_4, z7_4, g7_5, z7_5, g7_6, z7_6, hT, hl, hne, hpc, hall, evS, evE, evA, evAnd, evOr, evH, Option.map_some, Out.bind_ok, Out.lift_some, Out.toS_ok, SOut.thn_next, SOut.thn_ret, tru_b, backC_ret, if_true, Bool.false_eq_true, if_false, Bool.not_true, Bool.not_false]
          rw [hc, Out.toS_ok, tru_b, if_neg (by simp), evS, SOut.thn_next]
        rw [first]
        have hb : ∀ a0 a1 a2 a4 a5 a6 : Option D, bindT (.t (.cons (.s 4) (.cons (.s 5) .nil))) (.tuple [.int n, .int t]) [a0, a1, a2, some (.tuple [.int n, .int t]), a4, a5, a6] = some [a0, a1, a2, some (.tuple [.int n, .int t]), some (.int n), some (.int t), a6] := fun _ _ _ _ _ _ => rfl
        have hlr : opBlt .len [.tuple rs] = some (.int (rs.length : Int)) := rfl
        have hle : opCmp .le (.int 0) (.int n) = some (!decide (n < 0)) := rfl
        have hlt : opCmp .lt (.int n) (.int (rs.length : Int)) = some (decide (n < (rs.length : Int))) := rfl
        have hone : oneStep false rs sort (.tuple [.int n, .int t]) = if 0 ≤ n ∧ n < rs.length then ruleStep false (rs.getD n.toNat .none) sort t else .none := rfl
        by_cases hin : 0 ≤ n ∧ n < rs.length
        · rw [if_pos hin] at hone
          have d1 : decide (n < 0) = false := decide_eq_false (by omega)
          have d2 : decide (n < (rs.length : Int)) = true := decide_eq_true hin.2
          have hnl : n.toNat < rs.length := by omega
          have hg : rs[n.toNat]? = some (rs.getD n.toNat .none) := by simp [List.getD, hnl]
          have hm : rs.getD n.toNat .none ∈ rs := by simp [List.getD, hnl]
          obtain ⟨ww, x, y, e, hx, hy, hw⟩ := hr _ hm
          rw [e] at hg hone
          have hone : oneStep false rs sort (.tuple [.int n, .int t]) = stepR ww x y sort t := by rw [hone]; rfl
          have hcast : PyData.int n = .int (n.toNat : Int) := by rw [Int.toNat_of_nonneg hin.1]
          have hni := notin01 t
          by_cases h01 : t = 0 ∨ t = 1
          · have d3 : (!(decide (t = 0) || decide (t = 1))) = false := by
              rcases h01 with h | h
              · rw [decide_eq_true h]; rfl
              · rw [decide_eq_true h, Bool.or_true]; rfl
            rw [d3] at hni
            have hx1 : (runB P (k + 2)).1 2 [.tuple rs, sort, .int n, .int t] = .ret (stepR ww x y sort t) .none := by
              rw [hcast]
              exact next_run hP k hg hx hs hw h01
            rw [hone]
            have his : ∀ d : D, opCmp .is d .none = some (isNone d) := fun _ => rfl
            cases hz : isNone (stepR ww x y sort t) with
            | true =>
              refine .inl ⟨rfl, ?_⟩
              simp -implicitDefEqProofs only [ledT, g7_0, z7_0, g7_1, z7_1, g7_2, z7_2, g7_3, z7_3, g7_4, z7_4, g7_5, z7_5, g7_6, z7_6, hb, hlr, hle, hlt, d1, d2, hni, hx1, his, hz, evS, evE, evA, evAnd, evOr, evH, Option.map_some, Out.bind_ok, Out.lift_some, Out.toS_ok, SOut.thn_next, SOut.thn_ret, tru_b, backC_ret, if_true, Bool.false_eq_true, if_false, Bool.not_true, Bool.not_false]
              exact rn
            | false =>
              refine .inr ⟨rfl, some (.int n), some (.int t), a6, ?_⟩
              simp -implicitDefEqProofs only [ledT, g7_0, z7_0, g7_1, z7_1, g7_2, z7_2, g7_3, z7_3, g7_4, z7_4, g7_5, z7_5, g7_6, z7_6, hb, hlr, hle, hlt, d1, d2, hni, hx1, his, hz, evS, evE, evA, evAnd, evOr, evH, Option.map_some, Out.bind_ok, Out.lift_some, Out.toS_ok, SOut.thn_next, SOut.thn_ret, tru_b, backC_ret, if_true, Bool.false_eq_true, if_false, Bool.not_true, Bool.not_false]
          · have d3 : (!(decide (t = 0) || decide (t = 1))) = true := by
              rw [decide_eq_false fun z => h01 (.inl z), decide_eq_false fun z => h01 (.inr z)]
              rfl
            rw [d3] at hni
            refine .inl ⟨?_, ?_⟩
            · rw [hone]
              unfold stepR
              rw [if_neg fun z => h01 (.inl z), if_neg fun z => h01 (.inl z), if_neg fun z => h01 (.inr z)]
              split
              · rfl
              · split <;> rfl
            · simp -implicitDefEqProofs only [ledT, g7_0, z7_0, g7_1, z7_1, g7_2, z7_2, g7_3, z7_3, g7_4, z7_4, g7_5, z7_5, g7_6, z7_6, hb, hlr, hle, hlt, d1, d2, hni, evS, evE, evA, evAnd, evOr, evH, Option.map_some, Out.bind_ok, Out.lift_some, Out.toS_ok, SOut.thn_next, SOut.thn_ret, tru_b, backC_ret, if_true, Bool.false_eq_true, if_false, Bool.not_true, Bool.not_false]
              exact rn
        · rw [if_neg hin] at hone
          refine .inl ⟨by rw [hone]; rfl, ?_⟩
          by_cases hn0 : n < 0
          · have d1 : decide (n < 0) = true := decide_eq_true hn0
            simp -implicitDefEqProofs only [ledT, g7_0, z7_0, g7_1, z7_1, g7_2, z7_2, g7_3, z7_3, g7_4, z7_4, g7_5, z7_5, g7_6, z7_6, hb, hlr, hle, d1, evS, evE, evA, evAnd, evOr, evH, Option.map_some, Out.bind_ok, Out.lift_some, Out.toS_ok, SOut.thn_next, SOut.thn_ret, tru_b, backC_ret, if_true, Bool.false_eq_true, if_false, Bool.not_true, Bool.not_false]
            exact rn
          · have d1 : decide (n < 0) = false := decide_eq_false hn0
            have d2 : decide (n < (rs.length : Int)) = false := decide_eq_false (by omega)
            simp -implicitDefEqProofs only [ledT, g7_0, z7_0, g7_1, z7_1, g7_2, z7_2, g7_3, z7_3, g7_4, z7_4, g7_5, z7_5, g7_6, z7_6, hb, hlr, hle, hlt, d1, d2, evS, evE, evA, evAnd, evOr, evH, Option.map_some, Out.bind_ok, Out.lift_some, Out.toS_ok, SOut.thn_next, SOut.thn_ret, tru_b, backC_ret, if_true, Bool.false_eq_true, if_false, Bool.not_true, Bool.not_false]
            exact rn
    · have hd2 : decide (xs.length = 2) = false := decide_eq_false h2
      rw [hd2] at hne
      refine .inl ⟨?_, ?_⟩
      · unfold oneStep
        split
        · rename_i e
          cases e
          exact absurd rfl h2
        · rfl
      · simp -implicitDefEqProofs only [ledB, ledC, g7_0, z7_0, g7_1, z7_1, g7_2, z7_2, g7_3, z7_3, g7_4, z7_4, g7_5, z7_5, g7_6, z7_6, hT, hl, hne, evS, evE, evA, evAnd, evOr, evH, Option.map_some, Out.bind_ok, Out.lift_some, Out.toS_ok, SOut.thn_next, SOut.thn_ret, tru_b, backC_ret, if_true, Bool.false_eq_true, if_false, Bool.not_true, Bool.not_false]
        exact rn
end
end LX
set_option Elab.async false
set_option linter.all false
set_option maxRecDepth 100000
set_option maxHeartbeats 4000000
namespace LX
open PySem BV
section
variable {P : Nat → Option Fn} (hP : P = px.P)
include hP
theorem led_loop (k : Nat) {rs : List D} (hr : ∀ r ∈ rs, GoodR r) (w : D) : ∀ (steps : List D) (sort : D) (a3 a4 a5 a6 : Option D), FlatD sort →
    (walk false rs sort steps = .none ∧ RN (forLoop (forT (.s 3) (evS (runB P (k + 2)).1 (runB P (k + 2)).2 .none ledB)) steps [some (.tuple rs), some sort, some w, a3, a4, a5, a6])) ∨
    ∃ b3 b4 b5 b6, forLoop (forT (.s 3) (evS (runB P (k + 2)).1 (runB P (k + 2)).2 .none ledB)) steps [some (.tuple rs), some sort, some w, a3, a4, a5, a6] = .next [some (.tuple rs), some (walk false rs sort steps), some w, b3, b4, b5, b6]
  | [], sort, a3, a4, a5, a6, hs => .inr ⟨a3, a4, a5, a6, rfl⟩
  | st :: r, sort, a3, a4, a5, a6, hs => by
    have hb : bindT (.s 3) st [some (.tuple rs), some sort, some w, a3, a4, a5, a6] = some [some (.tuple rs), some sort, some w, some st, a4, a5, a6] := rfl
    have e0 : forLoop (forT (.s 3) (evS (runB P (k + 2)).1 (runB P (k + 2)).2 .none ledB)) (st :: r) [some (.tuple rs), some sort, some w, a3, a4, a5, a6] = (evS (runB P (k + 2)).1 (runB P (k + 2)).2 .none ledB [some (.tuple rs), some sort, some w, some st, a4, a5, a6]).thn fun ρ => forLoop (forT (.s 3) (evS (runB P (k + 2)).1 (runB P (k + 2)).2 .none ledB)) r ρ := by
      show (forT _ _ st _).thn _ = _
      unfold forT
      rw [hb, Out.lift_some, Out.toS_ok]
    rw [e0]
    rcases led_step hP k hr hs w st a3 a4 a5 a6 with ⟨h1, ρ', h2⟩ | ⟨h1, b4, b5, b6, h2⟩
    · refine .inl ⟨?_, ?_⟩
      · unfold walk
        rw [if_pos h1]
      · rw [h2]; exact rn
    · have hw : walk false rs sort (st :: r) = walk false rs (oneStep false rs sort st) r := by
        conv => lhs; unfold walk
        rw [if_neg (by rw [h1]; simp)]
      rw [h2, SOut.thn_next, hw]
      exact led_loop k hr w r _ _ _ _ _ (oneStep_flat hr)
theorem led_run (k : Nat) {rs : List D} (hr : ∀ r ∈ rs, GoodR r) {sort : D} (hs : FlatD sort) (w : D) : run P (k + 3) 3 [.tuple rs, sort, w] = .ret (led false rs sort w) .none := by
  rw [run_ret (fn := x_led_by.fn) (by rw [hP]; rfl) rfl rfl]
  show (x_led_by.fn).endS (evS (runB P (k + 2)).1 (runB P (k + 2)).2 .none b_led_by [some (.tuple rs), some sort, some w, none, none, none, none]) = _
  rw [ledBody_eq]
  have hT : ([Ty.tuple].any fun t => isTy t w) = isTy .tuple w := by simp
  cases hst : isTy .tuple w with
  | false =>
    rw [hst] at hT
    have hl : led false rs sort w = .none := by
      unfold led
      split
      · cases hst
      · rfl
    rw [hl]
    simp -implicitDefEqProofs only [ledBody, g7_0, z7_0, g7_1, z7_1, g7_2, z7_2, g7_3, z7_3, g7_4, z7_4, g7_5, z7_5, g7_6, z7_6, hT, evS, evE, evA, evAnd, evOr, evH, Option.map_some, Out.bind_ok, Out.lift_some, Out.toS_ok, SOut.thn_next, SOut.thn_ret, tru_b, backC_ret, if_true, Bool.false_eq_true, if_false, Bool.not_true, Bool.not_false]
    rfl
  | true =>
    obtain ⟨steps, rfl⟩ : ∃ xs, w = .tuple xs := by cases w <;> first | (cases hst; done) | exact ⟨_, rfl⟩
    rw [hst] at hT
    have hit : items (.tuple steps) = some steps := rfl
    have hw : ∀ a3 a4 a5 a6, evW (runB P (k + 2)).1 (runB P (k + 2)).2 .none (.var 2) [some (.tuple rs), some sort, some (.tuple steps), a3, a4, a5, a6] = .ok steps [some (.tuple rs), some sort, some (.tuple steps), a3, a4, a5, a6] := by
      intro a3 a4 a5 a6
      rw [evW, evE, g7_2, Out.lift_some, Out.bind_ok, hit, Out.lift_some]
    have hled : led false rs sort (.tuple steps) = walk false rs sort steps := rfl
    rw [hled]
    rcases led_loop hP k hr (.tuple steps) steps sort none none none none hs with ⟨h1, ρ', h2⟩ | ⟨b3, b4, b5, b6, h2⟩
    · rw [h1]
      simp -implicitDefEqProofs only [ledBody, g7_0, z7_0, g7_1, z7_1, g7_2, z7_2, g7_3, z7_3, g7_4, z7_4, g7_5, z7_5, g7_6, z7_6, hT, hw, h2, evS, evE, evA, evAnd, evOr, evH, Option.map_some, Out.bind_ok, Out.lift_some, Out.toS_ok, SOut.thn_next, SOut.thn_ret, tru_b, backC_ret, if_true, Bool.false_eq_true, if_false, Bool.not_true, Bool.not_false]
      rfl
    · simp -implicitDefEqProofs only [ledBody, g7_0, z7_0, g7_1, z7_1, g7_2, z7_2, g7_3, z7_3, g7_4, z7_4, g7_5, z7_5, g7_6, z7_6, hT, hw, h2, evS, evE, evA, evAnd, evOr, evH, Option.map_some, Out.bind_ok, Out.lift_some, Out.toS_ok, SOut.thn_next, SOut.thn_ret, tru_b, backC_ret, if_true, Bool.false_eq_true, if_false, Bool.not_true, Bool.not_false]
      rfl
/-! the law's own walk -/
def endB1 : IE := (.or (.econs (.not (.isi (.var 4) [.tuple])) (.econs (.cmp .ne (.blt .len (.econs (.var 4) .enil)) (.cst (.int 2))) .enil)))
def endB2 : IE := (.or (.econs (.not (.call 16 (.econs (.idx (.var 4) (.cst (.int 0))) .enil))) (.econs (.not (.call 16 (.econs (.idx (.var 4) (.cst (.int 1))) .enil))) (.econs (.cmp .lt (.idx (.var 4) (.cst (.int 0))) (.cst (.int 0))) (.econs (.cmp .ge (.idx (.var 4) (.cst (.int 0))) (.blt .len (.econs (.var 0) .enil))) .enil)))))
def endB3 : IE := (.and (.econs (.var 3) (.econs (.cmp .ne (.idx (.idx (.var 0) (.idx (.var 4) (.cst (.int 0)))) (.cst (.int 0))) (.cst (.str "along"))) .enil)))
def endT : IS := (.cons (.set 1 (.call 15 (.econs (.var 0) (.econs (.var 1) (.econs (.idx (.var 4) (.cst (.int 0))) (.econs (.idx (.var 4) (.cst (.int 1))) .enil)))))) (.cons (.ifs (.cmp .is (.var 1) (.cst .none)) (.cons (.ret (.cst .none)) .nil) .nil) .nil))
def endB : IS := (.cons (.ifs endB1 (.cons (.ret (.cst .none)) .nil) .nil) (.cons (.ifs endB2 (.cons (.ret (.cst .none)) .nil) .nil) (.cons (.ifs endB3 (.cons (.ret (.cst .none)) .nil) .nil) endT)))
def endBody : IS := (.cons (.ifs (.not (.isi (.var 2) [.tuple])) (.cons (.ret (.cst .none)) .nil) .nil) (.cons (.fors (.s 4) (.var 2) endB) (.cons (.ret (.var 1)) .nil)))
omit hP in
theorem endBody_eq : b__law_end_of = endBody := rfl
omit hP in
theorem len_ne2 (n : Nat) : opCmp .ne (.int (n : Int)) (.int 2) = some (!decide (n = 2)) := by
  have e2 : (if eqOk (.int (n : Int)) (.int 2) = true then some (PyData.eqv (.int (n : Int)) (.int 2)) else none) = some (decide ((n : Int) = 2)) := cmpEq_int _ _
  rw [if_pos (eqOk_int _ _)] at e2
  show (if eqOk (.int (n : Int)) (.int 2) = true then some (!PyData.eqv (.int (n : Int)) (.int 2)) else none) = _
  rw [if_pos (eqOk_int _ _), Option.some.inj e2]
  have : decide ((n : Int) = 2) = decide (n = 2) := decide_eq_decide.mpr (by omega)
  rw [this]
omit hP in
theorem str_ne (a b : Str) : opCmp .ne (.str a) (.str b) = some (!decide (a = b)) := by
  have e2 : (if eqOk (.str a) (.str b) = true then some (PyData.eqv (.str a) (.str b)) else none) = some (decide (a = b)) := cmpEq_str a b
  rw [if_pos (by rfl)] at e2
  show (if eqOk (.str a) (.str b) = true then some (!PyData.eqv (.str a) (.str b)) else none) = _
  rw [if_pos (by rfl), Option.some.inj e2]
theorem end_step (k : Nat) {rs : List D} (hr : ∀ r ∈ rs, GoodR r) {sort : D} (hs : FlatD sort) (w st : D) (al : Bool) :
    (isNone (oneStep al rs sort st) = true ∧ RN (evS (runB P (k + 2)).1 (runB P (k + 2)).2 .none endB [some (.tuple rs), some sort, some w, some (.bool al), some st])) ∨
    (isNone (oneStep al rs sort st) = false ∧ evS (runB P (k + 2)).1 (runB P (k + 2)).2 .none endB [some (.tuple rs), some sort, some w, some (.bool al), some st] = .next [some (.tuple rs), some (oneStep al rs sort st), some w, some (.bool al), some st]) := by
  have hT : ([Ty.tuple].any fun t => isTy t st) = isTy .tuple st := by simp
  cases hst : isTy .tuple st with
  | false =>
    refine .inl ⟨?_, ?_⟩
    · unfold oneStep
      split
      · cases hst
      · rfl
    · rw [hst] at hT
      simp -implicitDefEqProofs only [endB, endB1, g5_0, z5_0, g5_1, z5_1, g5_2, z5_2, g5_3, z5_3, g5_4, z5_4, hT, evS, evE, evA, evAnd, evOr, evH, Option.map_some, Out.bind_ok, Out.lift_some, Out.toS_ok, SOut.thn_next, SOut.thn_ret, tru_b, backC_ret, if_true, Bool.false_eq_true, if_false, Bool.not_true, Bool.not_false]
      exact rn
  | true =>
    obtain ⟨xs, rfl⟩ : ∃ xs, st = .tuple xs := by cases st <;> first | (cases hst; done) | exact ⟨_, rfl⟩
    rw [hst] at hT
    have hl : opBlt .len [.tuple xs] = some (.int (xs.length : Int)) := rfl
    have hne := len_ne2 xs.length
    by_cases h2 : xs.length = 2
    · obtain ⟨p, q, rfl⟩ : ∃ p q, xs = [p, q] := by
        match xs, h2 with
        | [p, q], _ => exact ⟨p, q, rfl⟩
      have hd2 : decide ([p, q].length = 2) = true := rfl
      rw [hd2] at hne
      have c1 : evE (runB P (k + 2)).1 (runB P (k + 2)).2 .none endB1 [some (.tuple rs), some sort, some w, some (.bool al), some (.tuple [p, q])] = .ok (.bool false) [some (.tuple rs), some sort, some w, some (.bool al), some (.tuple [p, q])] := by
        simp -implicitDefEqProofs only [endB1, g5_0, z5_0, g5_1, z5_1, g5_2, z5_2, g5_3, z5_3, g5_4, z5_4, hT, hl, hne, evS, evE, evA, evAnd, evOr, evH, Option.map_some, Out.bind_ok, Out.lift_some, Out.toS_ok, SOut.thn_next, SOut.thn_ret, tru_b, backC_ret, if_true, Bool.false_eq_true, if_false, Bool.not_true, Bool.not_false]
      have hp : (runB P (k + 2)).1 16 [p] = .ret (.bool (isN p)) .none := whole_run hP (k + 1) p
      have hq : (runB P (k + 2)).1 16 [q] = .ret (.bool (isN q)) .none := whole_run hP (k + 1) q
      have i0 : opIdx (.tuple [p, q]) (.int 0) = some p := rfl
      have i1 : opIdx (.tuple [p, q]) (.int 1) = some q := rfl
      cases n1 : isN p with
      | false =>
        rw [n1] at hp
        refine .inl ⟨?_, ?_⟩
        · unfold oneStep
          split
          · rename_i e
            cases e
            cases n1
          · rfl
        · simp -implicitDefEqProofs only [endB, c1, endB2, g5_0, z5_0, g5_1, z5_1, g5_2, z5_2, g5_3, z5_3, g5_4, z5_4, i0, hp, evS, evE, evA, evAnd, evOr, evH, Option.map_some, Out.bind_ok, Out.lift_some, Out.toS_ok, SOut.thn_next, SOut.thn_ret, tru_b, backC_ret, if_true, Bool.false_eq_true, if_false, Bool.not_true, Bool.not_false]
          exact rn
      | true =>
        rw [n1] at hp
        obtain ⟨n, rfl⟩ := isN_int n1
        cases n2 : isN q with
        | false =>
          rw [n2] at hq
          refine .inl ⟨?_, ?_⟩
          · unfold oneStep
            split
            · rename_i e
              cases e
              cases n2
            · rfl
          · simp -implicitDefEqProofs only [endB, c1, endB2, g5_0, z5_0, g5_1, z5_1, g5_2, z5_2, g5_3, z5_3, g5_4, z5_4, i0, i1, hp, hq, evS, evE, evA, evAnd, evOr, evH, Option.map_some, Out.bind_ok, Out.lift_some, Out.toS_ok, SOut.thn_next, SOut.thn_ret, tru_b, backC_ret, if_true, Bool.false_eq_true, if_false, Bool.not_true, Bool.not_false]
            exact rn
        | true =>
          rw [n2] at hq
          obtain ⟨t, rfl⟩ := isN_int n2
          have hlr : opBlt .len [.tuple rs] = some (.int (rs.length : Int)) := rfl
          have hlt : opCmp .lt (.int n) (.int 0) = some (decide (n < 0)) := rfl
          have hge : opCmp .ge (.int n) (.int (rs.length : Int)) = some (!decide (n < (rs.length : Int))) := rfl
          have hone : oneStep al rs sort (.tuple [.int n, .int t]) = if 0 ≤ n ∧ n < rs.length then ruleStep al (rs.getD n.toNat .none) sort t else .none := rfl
          by_cases hin : 0 ≤ n ∧ n < rs.length
          · rw [if_pos hin] at hone
            have d1 : decide (n < 0) = false := decide_eq_false (by omega)
            have d2 : decide (n < (rs.length : Int)) = true := decide_eq_true hin.2
            have hnl : n.toNat < rs.length := by omega
            have hg : rs[n.toNat]? = some (rs.getD n.toNat .none) := by simp [List.getD, hnl]
            have hm : rs.getD n.toNat .none ∈ rs := by simp [List.getD, hnl]
            obtain ⟨ww, x, y, e, hx, hy, hw⟩ := hr _ hm
            rw [e] at hg hone
            have hone : oneStep al rs sort (.tuple [.int n, .int t]) = if (al && !decide (ww = "along")) = true then .none else stepR ww x y sort t := hone
            have hcast : PyData.int n = .int (n.toNat : Int) := by rw [Int.toNat_of_nonneg hin.1]
            have hix : opIdx (.tuple rs) (.int n) = some (.tuple [.str ww, x, y]) := by rw [hcast]; exact idx_t hg
            have j0 : opIdx (.tuple [.str ww, x, y]) (.int 0) = some (.str ww) := rfl
            have hsn := str_ne ww "along"
            have c2 : evE (runB P (k + 2)).1 (runB P (k + 2)).2 .none endB2 [some (.tuple rs), some sort, some w, some (.bool al), some (.tuple [.int n, .int t])] = .ok (.bool false) [some (.tuple rs), some sort, some w, some (.bool al), some (.tuple [.int n, .int t])] := by
              simp -implicitDefEqProofs only [endB2, g5_0, z5_0, g5_1, z5_1, g5_2, z5_2, g5_3, z5_3, g5_4, z5_4, i0, i1, hp, hq, hlr, hlt, hge, d1, d2, evS, evE, evA, evAnd, evOr, evH, Option.map_some, Out.bind_ok, Out.lift_some, Out.toS_ok, SOut.thn_next, SOut.thn_ret, tru_b, backC_ret, if_true, Bool.false_eq_true, if_false, Bool.not_true, Bool.not_false]
            have c3 : evE (runB P (k + 2)).1 (runB P (k + 2)).2 .none endB3 [some (.tuple rs), some sort, some w, some (.bool al), some (.tuple [.int n, .int t])] = .ok (.bool (al && !decide (ww = "along"))) [some (.tuple rs), some sort, some w, some (.bool al), some (.tuple [.int n, .int t])] := by
              cases al
              · simp -implicitDefEqProofs only [endB3, g5_0, z5_0, g5_1, z5_1, g5_2, z5_2, g5_3, z5_3, g5_4, z5_4, Bool.false_and, evS, evE, evA, evAnd, evOr, evH, Option.map_some, Out.bind_ok, Out.lift_some, Out.toS_ok, SOut.thn_next, SOut.thn_ret, tru_b, backC_ret, if_true, Bool.false_eq_true, if_false, Bool.not_true, Bool.not_false]
              · simp -implicitDefEqProofs only [endB3, g5_0, z5_0, g5_1, z5_1, g5_2, z5_2, g5_3, z5_3, g5_4, z5_4, i0, hix, j0, hsn, Bool.true_and, evS, evE, evA, evAnd, evOr, evH, Option.map_some, Out.bind_ok, Out.lift_some, Out.toS_ok, SOut.thn_next, SOut.thn_ret, tru_b, backC_ret, if_true, Bool.false_eq_true, if_false, Bool.not_true, Bool.not_false]
            cases hal : (al && !decide (ww = "along")) with
            | true =>
              rw [hal] at c3
              rw [hone, if_pos hal]
              refine .inl ⟨rfl, ?_⟩
              simp -implicitDefEqProofs only [endB, c1, c2, c3, evS, evE, evA, evAnd, evOr, evH, Option.map_some, Out.bind_ok, Out.lift_some, Out.toS_ok, SOut.thn_next, SOut.thn_ret, tru_b, backC_ret, if_true, Bool.false_eq_true, if_false, Bool.not_true, Bool.not_false]
              exact rn
            | false =>
              rw [hal] at c3
              rw [hone, if_neg (by rw [hal]; simp)]
              have hx1 : (runB P (k + 2)).1 15 [.tuple rs, sort, .int n, .int t] = .ret (stepR ww x y sort t) .none := by
                rw [hcast]
                exact lnext_run hP k hg hx hs hw
              have his : ∀ d : D, opCmp .is d .none = some (isNone d) := fun _ => rfl
              cases hz : isNone (stepR ww x y sort t) with
              | true =>
                refine .inl ⟨rfl, ?_⟩
                simp -implicitDefEqProofs only [endB, c1, c2, c3, endT, g5_0, z5_0, g5_1, z5_1, g5_2, z5_2, g5_3, z5_3, g5_4, z5_4, i0, i1, hx1, his, hz, evS, evE, evA, evAnd, evOr, evH, Option.map_some, Out.bind_ok, Out.lift_some, Out.toS_ok, SOut.thn_next, SOut.thn_ret, tru_b, backC_ret, if_true, Bool.false_eq_true, if_false, Bool.not_true, Bool.not_false]
                exact rn
              | false =>
                refine .inr ⟨rfl, ?_⟩
                simp -implicitDefEqProofs only [endB, c1, c2, c3, endT, g5_0, z5_0, g5_1, z5_1, g5_2, z5_2, g5_3, z5_3, g5_4, z5_4, i0, i1, hx1, his, hz, evS, evE, evA, evAnd, evOr, evH, Option.map_some, Out.bind_ok, Out.lift_some, Out.toS_ok, SOut.thn_next, SOut.thn_ret, tru_b, backC_ret, if_true, Bool.false_eq_true, if_false, Bool.not_true, Bool.not_false]
          · rw [if_neg hin] at hone
            refine .inl ⟨by rw [hone]; rfl, ?_⟩
            by_cases hn0 : n < 0
            · have d1 : decide (n < 0) = true := decide_eq_true hn0
              simp -implicitDefEqProofs only [endB, c1, endB2, g5_0, z5_0, g5_1, z5_1, g5_2, z5_2, g5_3, z5_3, g5_4, z5_4, i0, i1, hp, hq, hlt, d1, evS, evE, evA, evAnd, evOr, evH, Option.map_some, Out.bind_ok, Out.lift_some, Out.toS_ok, SOut.thn_next, SOut.thn_ret, tru_b, backC_ret, if_true, Bool.false_eq_true, if_false, Bool.not_true, Bool.not_false]
              exact rn
            · have d1 : decide (n < 0) = false := decide_eq_false hn0
              have d2 : decide (n < (rs.length : Int)) = false := decide_eq_false (by omega)
              simp -implicitDefEqProofs only [endB, c1, endB2, g5_0, z5_0, g5_1, z5_1, g5_2, z5_2, g5_3, z5_3, g5_4, z5_4, i0, i1, hp, hq, hlr, hlt, hge, d1, d2, evS, evE, evA, evAnd, evOr, evH, Option.map_some, Out.bind_ok, Out.lift_some, Out.toS_ok, SOut.thn_next, SOut.thn_ret, tru_b, backC_ret, if_true, Bool.false_eq_true, if_false, Bool.not_true, Bool.not_false]
              exact rn
    · have hd2 : decide (xs.length = 2) = false := decide_eq_false h2
      rw [hd2] at hne
      refine .inl ⟨?_, ?_⟩
      · unfold oneStep
        split
        · rename_i e
          cases e
          exact absurd rfl h2
        · rfl
      · simp -implicitDefEqProofs only [endB, endB1, g5_0, z5_0, g5_1, z5_1, g5_2, z5_2, g5_3, z5_3, g5_4, z5_4, hT, hl, hne, evS, evE, evA, evAnd, evOr, evH, Option.map_some, Out.bind_ok, Out.lift_some, Out.toS_ok, SOut.thn_next, SOut.thn_ret, tru_b, backC_ret, if_true, Bool.false_eq_true, if_false, Bool.not_true, Bool.not_false]
        exact rn
theorem end_loop (k : Nat) {rs : List D} (hr : ∀ r ∈ rs, GoodR r) (w : D) (al : Bool) : ∀ (steps : List D) (sort : D) (a4 : Option D), FlatD sort →
    (walk al rs sort steps = .none ∧ RN (forLoop (forT (.s 4) (evS (runB P (k + 2)).1 (runB P (k + 2)).2 .none endB)) steps [some (.tuple rs), some sort, some w, some (.bool al), a4])) ∨
    ∃ b4, forLoop (forT (.s 4) (evS (runB P (k + 2)).1 (runB P (k + 2)).2 .none endB)) steps [some (.tuple rs), some sort, some w, some (.bool al), a4] = .next [some (.tuple rs), some (walk al rs sort steps), some w, some (.bool al), b4]
  | [], sort, a4, hs => .inr ⟨a4, rfl⟩
  | st :: r, sort, a4, hs => by
    have hb : bindT (.s 4) st [some (.tuple rs), some sort, some w, some (.bool al), a4] = some [some (.tuple rs), some sort, some w, some (.bool al), some st] := rfl
    have e0 : forLoop (forT (.s 4) (evS (runB P (k + 2)).1 (runB P (k + 2)).2 .none endB)) (st :: r) [some (.tuple rs), some sort, some w, some (.bool al), a4] = (evS (runB P (k + 2)).1 (runB P (k + 2)).2 .none endB [some (.tuple rs), some sort, some w, some (.bool al), some st]).thn fun ρ => forLoop (forT (.s 4) (evS (runB P (k + 2)).1 (runB P (k + 2)).2 .none endB)) r ρ := by
      show (forT _ _ st _).thn _ = _
      unfold forT
      rw [hb, Out.lift_some, Out.toS_ok]
    rw [e0]
    rcases end_step hP k hr hs w st al with ⟨h1, ρ', h2⟩ | ⟨h1, h2⟩
    · refine .inl ⟨?_, ?_⟩
      · unfold walk
        rw [if_pos h1]
      · rw [h2]; exact rn
    · have hw : walk al rs sort (st :: r) = walk al rs (oneStep al rs sort st) r := by
        conv => lhs; unfold walk
        rw [if_neg (by rw [h1]; simp)]
      rw [h2, SOut.thn_next, hw]
      exact end_loop k hr w al r _ _ (oneStep_flat hr)
theorem end_run (k : Nat) {rs : List D} (hr : ∀ r ∈ rs, GoodR r) {sort : D} (hs : FlatD sort) (w : D) (al : Bool) : run P (k + 3) 17 [.tuple rs, sort, w, .bool al] = .ret (led al rs sort w) .none := by
  rw [run_ret (fn := x__law_end_of.fn) (by rw [hP]; rfl) rfl rfl]
  show (x__law_end_of.fn).endS (evS (runB P (k + 2)).1 (runB P (k + 2)).2 .none b__law_end_of [some (.tuple rs), some sort, some w, some (.bool al), none]) = _
  rw [endBody_eq]
  have hT : ([Ty.tuple].any fun t => isTy t w) = isTy .tuple w := by simp
  cases hst : isTy .tuple w with
  | false =>
    rw [hst] at hT
    have hl : led al rs sort w = .none := by
      unfold led
      split
      · cases hst
      · rfl
    rw [hl]
    simp -implicitDefEqProofs only [endBody, g5_0, z5_0, g5_1, z5_1, g5_2, z5_2, g5_3, z5_3, g5_4, z5_4, hT, evS, evE, evA, evAnd, evOr, evH, Option.map_some, Out.bind_ok, Out.lift_some, Out.toS_ok, SOut.thn_next, SOut.thn_ret, tru_b, backC_ret, if_true, Bool.false_eq_true, if_false, Bool.not_true, Bool.not_false]
    rfl
  | true =>
    obtain ⟨steps, rfl⟩ : ∃ xs, w = .tuple xs := by cases w <;> first | (cases hst; done) | exact ⟨_, rfl⟩
    rw [hst] at hT
    have hit : items (.tuple steps) = some steps := rfl
    have hw : ∀ a3 a4, evW (runB P (k + 2)).1 (runB P (k + 2)).2 .none (.var 2) [some (.tuple rs), some sort, some (.tuple steps), a3, a4] = .ok steps [some (.tuple rs), some sort, some (.tuple steps), a3, a4] := by
      intro a3 a4
      rw [evW, evE, g5_2, Out.lift_some, Out.bind_ok, hit, Out.lift_some]
    have hled : led al rs sort (.tuple steps) = walk al rs sort steps := rfl
    rw [hled]
    rcases end_loop hP k hr (.tuple steps) al steps sort none hs with ⟨h1, ρ', h2⟩ | ⟨b4, h2⟩
    · rw [h1]
      simp -implicitDefEqProofs only [endBody, g5_0, z5_0, g5_1, z5_1, g5_2, z5_2, g5_3, z5_3, g5_4, z5_4, hT, hw, h2, evS, evE, evA, evAnd, evOr, evH, Option.map_some, Out.bind_ok, Out.lift_some, Out.toS_ok, SOut.thn_next, SOut.thn_ret, tru_b, backC_ret, if_true, Bool.false_eq_true, if_false, Bool.not_true, Bool.not_false]
      rfl
    · simp -implicitDefEqProofs only [endBody, g5_0, z5_0, g5_1, z5_1, g5_2, z5_2, g5_3, z5_3, g5_4, z5_4, hT, hw, h2, evS, evE, evA, evAnd, evOr, evH, Option.map_some, Out.bind_ok, Out.lift_some, Out.toS_ok, SOut.thn_next, SOut.thn_ret, tru_b, backC_ret, if_true, Bool.false_eq_true, if_false, Bool.not_true, Bool.not_false]
      rfl
end
end LX
set_option Elab.async false
set_option linter.all false
set_option maxRecDepth 100000
set_option maxHeartbeats 4000000
namespace LX
open PySem BV
def none3 : D := .tuple [.str "none", .tuple [], .tuple []]
def alongR (r : D) : D := match r with
  | .tuple [.str w, x, y] => if w = "along" then .tuple [.str w, x, y] else none3
  | _ => none3
theorem good_none3 : GoodR none3 := ⟨"none", .tuple [], .tuple [], rfl, ⟨rfl, by simp [PyData.depth, PyData.depthAll]⟩, ⟨rfl, by simp [PyData.depth, PyData.depthAll]⟩, fun z => absurd z (by decide +kernel)⟩
theorem good_along {r : D} (h : GoodR r) : GoodR (alongR r) := by
  obtain ⟨w, x, y, rfl, hx, hy, hw⟩ := h
  show GoodR (if w = "along" then .tuple [.str w, x, y] else none3)
  split
  · exact ⟨w, x, y, rfl, hx, hy, hw⟩
  · exact good_none3
theorem along_step {r sort : D} {t : Int} (h : GoodR r) : ruleStep false (alongR r) sort t = ruleStep true r sort t := by
  obtain ⟨w, x, y, rfl, hx, hy, hw⟩ := h
  by_cases e : w = "along"
  · have e1 : alongR (.tuple [.str w, x, y]) = .tuple [.str w, x, y] := if_pos e
    rw [e1]
    show (if (false && !decide (w = "along")) = true then PyData.none else stepR w x y sort t) = if (true && !decide (w = "along")) = true then PyData.none else stepR w x y sort t
    rw [decide_eq_true e]
    rfl
  · have e1 : alongR (.tuple [.str w, x, y]) = none3 := if_neg e
    rw [e1]
    show ruleStep false none3 sort t = if (true && !decide (w = "along")) = true then PyData.none else stepR w x y sort t
    rw [decide_eq_false e, if_pos (by rfl)]
    have e2 : ruleStep false none3 sort t = stepR "none" (.tuple []) (.tuple []) sort t := rfl
    rw [e2]
    unfold stepR
    rw [if_neg (by decide +kernel), if_neg (by decide +kernel)]
theorem along_one {rs : List D} (hr : ∀ r ∈ rs, GoodR r) (sort st : D) : oneStep false (rs.map alongR) sort st = oneStep true rs sort st := by
  unfold oneStep
  split
  · rename_i n t
    rw [List.length_map]
    split
    · rename_i h
      have hn : n.toNat < rs.length := by omega
      have hm : rs.getD n.toNat .none ∈ rs := by simp [List.getD, hn]
      have e : (rs.map alongR).getD n.toNat .none = alongR (rs.getD n.toNat .none) := by simp [List.getD, hn]
      rw [e]
      exact along_step (hr _ hm)
    · rfl
  · rfl
theorem along_walk {rs : List D} (hr : ∀ r ∈ rs, GoodR r) : ∀ (steps : List D) (sort : D), walk false (rs.map alongR) sort steps = walk true rs sort steps
  | [], _ => rfl
  | st :: r, sort => by
    unfold walk
    rw [along_one hr, along_walk hr r]
theorem along_led {rs : List D} (hr : ∀ r ∈ rs, GoodR r) (sort way : D) : led false (rs.map alongR) sort way = led true rs sort way := by
  unfold led
  split
  · exact along_walk hr _ _
  · rfl
theorem good_map {rs : List D} (hr : ∀ r ∈ rs, GoodR r) : ∀ r ∈ rs.map alongR, GoodR r := fun r h => by
  obtain ⟨q, hq, rfl⟩ := List.mem_map.mp h
  exact good_along (hr q hq)
theorem bool_eq (a b : Bool) : opCmp .eq (.bool a) (.bool b) = some (a == b) := by
  cases a <;> cases b <;> rfl
section
variable {P : Nat → Option Fn} (hP : P = px.P)
include hP
def alongC : IE := (.lc [1] (.s 1) (.var 0) (.cst (.bool true)) (.ife (.cmp .eq (.idx (.var 1) (.cst (.int 0))) (.cst (.str "along"))) (.var 1) (.tup (.econs (.cst (.str "none")) (.econs (.tup .enil) (.econs (.tup .enil) .enil))))))
def alongB : IS := (.cons (.ret (.blt .tuple (.econs alongC .enil))) .nil)
omit hP in
theorem alongB_eq : b_along_rules = alongB := rfl
theorem along_run (k : Nat) {rs : List D} (hr : ∀ r ∈ rs, GoodR r) : run P (k + 1) 5 [.tuple rs] = .ret (.tuple (rs.map alongR)) .none := by
  rw [run_ret (fn := x_along_rules.fn) (by rw [hP]; rfl) rfl rfl]
  show (x_along_rules.fn).endS (evS (runB P k).1 (runB P k).2 .none b_along_rules [some (.tuple rs), none]) = _
  rw [alongB_eq]
  have hit : items (.tuple rs) = some rs := rfl
  have hc : evE (runB P k).1 (runB P k).2 .none alongC [some (.tuple rs), none] = .ok (.list (rs.map alongR)) [some (.tuple rs), none] := by
    unfold alongC
    rw [evE, evE, g2_0, Out.lift_some, Out.bind_ok, hit, Out.lift_some, Out.bind_ok]
    show ((lcLoop _ _ [some (.tuple rs), none]).noExc).bind _ = _
    rw [lcLoop_same (ρ := [some (.tuple rs), none]) (fun x => some (alongR x))]
    · have e : ∀ cs : List D, List.filterMap (fun x : D => some (alongR x)) cs = cs.map alongR := by
        intro cs
        induction cs with
        | nil => rfl
        | cons c cs ih => rw [List.filterMap_cons, ih]; rfl
      rw [e]
      rfl
    · intro r hm
      obtain ⟨w, x, y, rfl, hx, hy, hw⟩ := hr r hm
      have hb : bindT (.s 1) (.tuple [.str w, x, y]) [some (.tuple rs), none] = some [some (.tuple rs), some (.tuple [.str w, x, y])] := rfl
      have hwp : wipeE [some (.tuple rs), some (.tuple [.str w, x, y])] [1] = [some (.tuple rs), none] := rfl
      have i0 : opIdx (.tuple [.str w, x, y]) (.int 0) = some (.str w) := rfl
      have ha : alongR (.tuple [.str w, x, y]) = if w = "along" then .tuple [.str w, x, y] else none3 := rfl
      rw [ha]
      by_cases e : w = "along"
      · have dA : decide (w = "along") = true := decide_eq_true e
        rw [if_pos e]
        simp -implicitDefEqProofs only [turnE, hb, hwp, g2_0, z2_0, g2_1, z2_1, i0, cmpEq_str, dA, evS, evE, evA, evAnd, evOr, evH, Option.map_some, Out.bind_ok, Out.lift_some, Out.toS_ok, SOut.thn_next, SOut.thn_ret, tru_b, backC_ret, if_true, Bool.false_eq_true, if_false, Bool.not_true, Bool.not_false]
      · have dA : decide (w = "along") = false := decide_eq_false e
        rw [if_neg e]
        simp -implicitDefEqProofs only [turnE, hb, hwp, g2_0, z2_0, g2_1, z2_1, i0, cmpEq_str, dA, none3, evS, evE, evA, evAnd, evOr, evH, Option.map_some, Out.bind_ok, Out.lift_some, Out.toS_ok, SOut.thn_next, SOut.thn_ret, tru_b, backC_ret, if_true, Bool.false_eq_true, if_false, Bool.not_true, Bool.not_false]
  have ht : opBlt .tuple [.list (rs.map alongR)] = some (.tuple (rs.map alongR)) := rfl
  simp -implicitDefEqProofs only [alongB, hc, ht, evS, evE, evA, evAnd, evOr, evH, Option.map_some, Out.bind_ok, Out.lift_some, Out.toS_ok, SOut.thn_next, SOut.thn_ret, tru_b, backC_ret, if_true, Bool.false_eq_true, if_false, Bool.not_true, Bool.not_false]
  rfl
theorem is_way_run (k : Nat) {rs : List D} (hr : ∀ r ∈ rs, GoodR r) {one other : D} (h1 : FlatD one) (h2 : FlatD other) (way : D) : run P (k + 4) 4 [.tuple rs, one, other, way] = .ret (.bool (PyData.eqv (led false rs one way) other)) .none := by
  rw [run_ret (fn := x_is_way.fn) (by rw [hP]; rfl) rfl rfl]
  show (x_is_way.fn).endS (evS (runB P (k + 3)).1 (runB P (k + 3)).2 .none b_is_way [some (.tuple rs), some one, some other, some way]) = _
  have hl : (runB P (k + 3)).1 3 [.tuple rs, one, way] = .ret (led false rs one way) .none := led_run hP k hr h1 way
  simp -implicitDefEqProofs only [b_is_way, g4_0, z4_0, g4_1, z4_1, g4_2, z4_2, g4_3, z4_3, hl, eq_flat (led_flat hr h1) h2, evS, evE, evA, evAnd, evOr, evH, Option.map_some, Out.bind_ok, Out.lift_some, Out.toS_ok, SOut.thn_next, SOut.thn_ret, tru_b, backC_ret, if_true, Bool.false_eq_true, if_false, Bool.not_true, Bool.not_false]
  rfl
theorem is_turn_way_run (k : Nat) {rs : List D} (hr : ∀ r ∈ rs, GoodR r) {one other : D} (h1 : FlatD one) (h2 : FlatD other) (way : D) : run P (k + 4) 6 [.tuple rs, one, other, way] = .ret (.bool (PyData.eqv (led true rs one way) other)) .none := by
  rw [run_ret (fn := x_is_turn_way.fn) (by rw [hP]; rfl) rfl rfl]
  show (x_is_turn_way.fn).endS (evS (runB P (k + 3)).1 (runB P (k + 3)).2 .none b_is_turn_way [some (.tuple rs), some one, some other, some way]) = _
  have ha : (runB P (k + 3)).1 5 [.tuple rs] = .ret (.tuple (rs.map alongR)) .none := along_run hP (k + 2) hr
  have hl : (runB P (k + 3)).1 3 [.tuple (rs.map alongR), one, way] = .ret (led true rs one way) .none := (led_run hP k (good_map hr) h1 way).trans (by rw [along_led hr])
  simp -implicitDefEqProofs only [b_is_turn_way, g4_0, z4_0, g4_1, z4_1, g4_2, z4_2, g4_3, z4_3, ha, hl, eq_flat (led_flat hr h1) h2, evS, evE, evA, evAnd, evOr, evH, Option.map_some, Out.bind_ok, Out.lift_some, Out.toS_ok, SOut.thn_next, SOut.thn_ret, tru_b, backC_ret, if_true, Bool.false_eq_true, if_false, Bool.not_true, Bool.not_false]
  rfl
theorem held_run (k : Nat) (a b : Bool) : run P (k + 1) 21 [.bool a, .bool b] = .ret (.bool (a == b)) .none := by
  rw [run_ret (fn := x__law_held.fn) (by rw [hP]; rfl) rfl rfl]
  show (x__law_held.fn).endS (evS (runB P k).1 (runB P k).2 .none b__law_held [some (.bool a), some (.bool b)]) = _
  have hT : ([Ty.bool].any fun t => isTy t (.bool a)) = true := rfl
  simp -implicitDefEqProofs only [b__law_held, g2_0, z2_0, g2_1, z2_1, hT, bool_eq, evS, evE, evA, evAnd, evOr, evH, Option.map_some, Out.bind_ok, Out.lift_some, Out.toS_ok, SOut.thn_next, SOut.thn_ret, tru_b, backC_ret, if_true, Bool.false_eq_true, if_false, Bool.not_true, Bool.not_false]
  rfl
omit hP in
theorem str_ne_self (s : Str) : opCmp .ne (.str s) (.str s) = some false := by
  rw [str_ne, decide_eq_true rfl]; rfl
theorem alike_run (k : Nat) {rs : List D} (hr : ∀ r ∈ rs, GoodR r) {sort other : D} (h1 : FlatD sort) (h2 : FlatD other) {legs : D} {s : Str} (hrep : opBlt .repr [legs] = some (.str s)) : run P (k + 5) 22 [.tuple rs, sort, other, legs] = .ret (.bool true) .none := by
  rw [run_ret (fn := x__law_alike.fn) (by rw [hP]; rfl) rfl rfl]
  show (x__law_alike.fn).endS (evS (runB P (k + 4)).1 (runB P (k + 4)).2 .none b__law_alike [some (.tuple rs), some sort, some other, some legs, none, none]) = _
  have he : (runB P (k + 4)).1 17 [.tuple rs, sort, legs, .bool false] = .ret (led false rs sort legs) .none := end_run hP (k + 1) hr h1 legs false
  have hw : (runB P (k + 4)).1 4 [.tuple rs, sort, other, legs] = .ret (.bool (PyData.eqv (led false rs sort legs) other)) .none := is_way_run hP k hr h1 h2 legs
  have hh : (runB P (k + 4)).1 21 [.bool (PyData.eqv (led false rs sort legs) other), .bool (PyData.eqv (led false rs sort legs) other)] = .ret (.bool true) .none := (held_run hP (k + 3) _ _).trans (by simp)
  simp -implicitDefEqProofs only [b__law_alike, g6_0, z6_0, g6_1, z6_1, g6_2, z6_2, g6_3, z6_3, g6_4, z6_4, g6_5, z6_5, hrep, he, eq_flat (led_flat hr h1) h2, hw, hh, str_ne_self, evS, evE, evA, evAnd, evOr, evH, Option.map_some, Out.bind_ok, Out.lift_some, Out.toS_ok, SOut.thn_next, SOut.thn_ret, tru_b, backC_ret, if_true, Bool.false_eq_true, if_false, Bool.not_true, Bool.not_false]
  rfl
theorem turns_run (k : Nat) {rs : List D} (hr : ∀ r ∈ rs, GoodR r) {sort other : D} (h1 : FlatD sort) (h2 : FlatD other) (legs : D) : run P (k + 5) 23 [.tuple rs, sort, other, legs] = .ret (.bool true) .none := by
  rw [run_ret (fn := x__law_turns_alike.fn) (by rw [hP]; rfl) rfl rfl]
  show (x__law_turns_alike.fn).endS (evS (runB P (k + 4)).1 (runB P (k + 4)).2 .none b__law_turns_alike [some (.tuple rs), some sort, some other, some legs, none]) = _
  have he : (runB P (k + 4)).1 17 [.tuple rs, sort, legs, .bool true] = .ret (led true rs sort legs) .none := end_run hP (k + 1) hr h1 legs true
  have hw : (runB P (k + 4)).1 6 [.tuple rs, sort, other, legs] = .ret (.bool (PyData.eqv (led true rs sort legs) other)) .none := is_turn_way_run hP k hr h1 h2 legs
  have hh : (runB P (k + 4)).1 21 [.bool (PyData.eqv (led true rs sort legs) other), .bool (PyData.eqv (led true rs sort legs) other)] = .ret (.bool true) .none := (held_run hP (k + 3) _ _).trans (by simp)
  simp -implicitDefEqProofs only [b__law_turns_alike, g5_0, z5_0, g5_1, z5_1, g5_2, z5_2, g5_3, z5_3, g5_4, z5_4, he, eq_flat (led_flat hr h1) h2, hw, hh, evS, evE, evA, evAnd, evOr, evH, Option.map_some, Out.bind_ok, Out.lift_some, Out.toS_ok, SOut.thn_next, SOut.thn_ret, tru_b, backC_ret, if_true, Bool.false_eq_true, if_false, Bool.not_true, Bool.not_false]
  rfl
end
end LX
set_option Elab.async false
set_option linter.all false
set_option maxRecDepth 100000
set_option maxHeartbeats 4000000
namespace LX
open PySem BV
section
variable (a0 a1 a2 a3 a4 a5 a6 a7 a8 a9 x : Option D)
theorem g10_0 : getV [a0, a1, a2, a3, a4, a5, a6, a7, a8, a9] 0 = a0 := rfl
theorem z10_0 : List.set [a0, a1, a2, a3, a4, a5, a6, a7, a8, a9] 0 x = [x, a1, a2, a3, a4, a5, a6, a7, a8, a9] := rfl
theorem g10_1 : getV [a0, a1, a2, a3, a4, a5, a6, a7, a8, a9] 1 = a1 := rfl
theorem z10_1 : List.set [a0, a1, a2, a3, a4, a5, a6, a7, a8, a9] 1 x = [a0, x, a2, a3, a4, a5, a6, a7, a8, a9] := rfl
theorem g10_2 : getV [a0, a1, a2, a3, a4, a5, a6, a7, a8, a9] 2 = a2 := rfl
theorem z10_2 : List.set [a0, a1, a2, a3, a4, a5, a6, a7, a8, a9] 2 x = [a0, a1, x, a3, a4, a5, a6, a7, a8, a9] := rfl
theorem g10_3 : getV [a0, a1, a2, a3, a4, a5, a6, a7, a8, a9] 3 = a3 := rfl
theorem z10_3 : List.set [a0, a1, a2, a3, a4, a5, a6, a7, a8, a9] 3 x = [a0, a1, a2, x, a4, a5, a6, a7, a8, a9] := rfl
theorem g10_4 : getV [a0, a1, a2, a3, a4, a5, a6, a7, a8, a9] 4 = a4 := rfl
theorem z10_4 : List.set [a0, a1, a2, a3, a4, a5, a6, a7, a8, a9] 4 x = [a0, a1, a2, a3, x, a5, a6, a7, a8, a9] := rfl
theorem g10_5 : getV [a0, a1, a2, a3, a4, a5, a6, a7, a8, a9] 5 = a5 := rfl
theorem z10_5 : List.set [a0, a1, a2, a3, a4, a5, a6, a7, a8, a9] 5 x = [a0, a1, a2, a3, a4, x, a6, a7, a8, a9] := rfl
theorem g10_6 : getV [a0, a1, a2, a3, a4, a5, a6, a7, a8, a9] 6 = a6 := rfl
theorem z10_6 : List.set [a0, a1, a2, a3, a4, a5, a6, a7, a8, a9] 6 x = [a0, a1, a2, a3, a4, a5, x, a7, a8, a9] := rfl
theorem g10_7 : getV [a0, a1, a2, a3, a4, a5, a6, a7, a8, a9] 7 = a7 := rfl
theorem z10_7 : List.set [a0, a1, a2, a3, a4, a5, a6, a7, a8, a9] 7 x = [a0, a1, a2, a3, a4, a5, a6, x, a8, a9] := rfl
theorem g10_8 : getV [a0, a1, a2, a3, a4, a5, a6, a7, a8, a9] 8 = a8 := rfl
theorem z10_8 : List.set [a0, a1, a2, a3, a4, a5, a6, a7, a8, a9] 8 x = [a0, a1, a2, a3, a4, a5, a6, a7, x, a9] := rfl
theorem g10_9 : getV [a0, a1, a2, a3, a4, a5, a6, a7, a8, a9] 9 = a9 := rfl
theorem z10_9 : List.set [a0, a1, a2, a3, a4, a5, a6, a7, a8, a9] 9 x = [a0, a1, a2, a3, a4, a5, a6, a7, a8, x] := rfl
end
/-- a step that leads on -/
def Leads (rs : List D) (sort st : D) : Prop := ∃ (n : Nat) (t : Int), st = .tuple [.int n, .int t] ∧ n < rs.length ∧ (t = 0 ∨ t = 1) ∧ isNone (oneStep false rs sort st) = false
/-- a step's form -/
def StepD (m : Nat) (st : D) : Prop := ∃ (n : Nat) (t : Int), st = .tuple [.int n, .int t] ∧ n < m ∧ (t = 0 ∨ t = 1)
theorem walk_app {rs : List D} : ∀ (steps : List D) (s st : D), isNone s = false → isNone (walk false rs s steps) = false → isNone (oneStep false rs (walk false rs s steps) st) = false → walk false rs s (steps ++ [st]) = oneStep false rs (walk false rs s steps) st
  | [], s, st, h0, h1, h2 => by
    show walk false rs s [st] = oneStep false rs s st
    unfold walk
    rw [if_neg (by rw [show isNone (oneStep false rs s st) = false from h2]; simp)]
    rfl
  | x :: steps, s, st, h0, h1, h2 => by
    have e : walk false rs s (x :: steps) = if isNone (oneStep false rs s x) = true then .none else walk false rs (oneStep false rs s x) steps := rfl
    have e2 : walk false rs s ((x :: steps) ++ [st]) = if isNone (oneStep false rs s x) = true then .none else walk false rs (oneStep false rs s x) (steps ++ [st]) := rfl
    by_cases h : isNone (oneStep false rs s x) = true
    · rw [e, if_pos h] at h1
      cases h1
    · rw [e, if_neg h] at h1 h2 ⊢
      rw [e2, if_neg h]
      exact walk_app steps _ st (by simpa using h) h1 h2
theorem one_at {rs : List D} {n : Nat} {t : Int} {w : Str} {x y sort : D} (hn : n < rs.length) (e : rs[n]? = some (.tuple [.str w, x, y])) : oneStep false rs sort (.tuple [.int n, .int t]) = stepR w x y sort t := by
  have h1 : oneStep false rs sort (.tuple [.int n, .int t]) = if (0 : Int) ≤ (n : Int) ∧ (n : Int) < rs.length then ruleStep false (rs.getD (n : Int).toNat .none) sort t else .none := rfl
  rw [h1, if_pos ⟨by omega, by omega⟩]
  have h2 : rs.getD (n : Int).toNat .none = .tuple [.str w, x, y] := by
    rw [Int.toNat_natCast]
    simp [List.getD, e]
  rw [h2]
  rfl
theorem flat_leads {rs : List D} {sort : D} {xs : List D} (h : ∀ e ∈ xs, Leads rs sort e) : noDicts xs = true ∧ PyData.depthAll xs ≤ 1 := by
  induction xs with
  | nil => exact ⟨rfl, by simp [PyData.depthAll]⟩
  | cons x xs ih =>
    obtain ⟨i1, i2⟩ := ih fun e he => h e (List.mem_cons_of_mem _ he)
    obtain ⟨n, t, rfl, _⟩ := h x List.mem_cons_self
    refine ⟨?_, ?_⟩
    · simp only [noDicts, i1, Bool.and_true]
      rfl
    · simp [PyData.depthAll, PyData.depth] at i2 ⊢
      omega
theorem ne_nil {rs : List D} {sort : D} {xs : List D} (h : ∀ e ∈ xs, Leads rs sort e) : opCmp .ne (.list xs) (.list []) = some (!xs.isEmpty) := by
  obtain ⟨h1, h2⟩ := flat_leads h
  have e : eqOk (.list xs) (.list []) = true := by
    unfold eqOk
    have d1 : noDict (.list xs) = true := by simp only [noDict]; exact h1
    rw [d1, decide_eq_true (show min (PyData.depth (.list xs)) (PyData.depth (.list [])) ≤ 64 by simp only [PyData.depth, PyData.depthAll]; omega)]
    rfl
  show (if eqOk (.list xs) (.list []) = true then some (!PyData.eqv (.list xs) (.list [])) else none) = _
  rw [if_pos e, eqv_nil]
section
variable {P : Nat → Option Fn} (hP : P = px.P)
include hP
def legI : IS := (.cons (.ifs (.cmp .isnot (.call 15 (.econs (.var 1) (.econs (.var 2) (.econs (.var 7) (.econs (.var 8) .enil))))) (.cst .none)) (.cons (.app 6 (.tup (.econs (.var 7) (.econs (.var 8) .enil)))) .nil) .nil) .nil)
def legN : IS := (.cons (.fors (.s 8) (.tup (.econs (.cst (.int 0)) (.econs (.cst (.int 1)) .enil))) legI) .nil)
def legF : IE := (.lc [9] (.s 9) (.var 6) (.cmp .eq (.idx (.idx (.var 1) (.idx (.var 9) (.cst (.int 0)))) (.cst (.int 0))) (.cst (.str "along"))) (.var 9))
def legS : IS := (.cons (.frz 6) (.cons (.set 9 (.idx (.var 6) (.calld 8 0 (.econs (.blt .len (.econs (.var 6) .enil)) .enil)))) (.cons (.set 2 (.call 15 (.econs (.var 1) (.econs (.var 2) (.econs (.idx (.var 9) (.cst (.int 0))) (.econs (.idx (.var 9) (.cst (.int 1))) .enil)))))) (.cons (.set 4 (.bin .add (.var 4) (.tup (.econs (.var 9) .enil)))) .nil))))
def legO : IS := (.cons (.own 6 (.lst .enil)) (.cons (.fors (.s 7) (.rng (.econs (.blt .len (.econs (.var 1) .enil)) .enil)) legN) (.cons (.ifs (.var 3) (.cons (.frz 6) (.cons (.own 6 legF) .nil)) .nil) (.cons (.ifs (.cmp .ne (.var 6) (.lst .enil)) legS (.cons (.frz 6) .nil)) .nil))))
def legB : IS := (.cons (.set 4 (.tup .enil)) (.cons (.fors (.s 5) (.rng (.econs (.calld 8 0 (.econs (.cst (.int 6)) .enil)) .enil)) legO) (.cons (.ret (.var 4)) .nil)))
omit hP in
theorem legB_eq : b__law_legs = legB := rfl
abbrev E1 (P : Nat → Option Fn) (k : Nat) : IS → Ev → SOut := evS (runB P (k + 2)).1 (runB P (k + 2)).2 .none
theorem leg_inner (k : Nat) {rs : List D} (hr : ∀ r ∈ rs, GoodR r) {sort : D} (hs : FlatD sort) (n : Nat) (hn : n < rs.length) (t : Int) (ht : t = 0 ∨ t = 1) (xs : List D) (hx : ∀ e ∈ xs, Leads rs sort e) (hl : xs.length < 1000) (a0 a3 a4 a5 a8 a9 : Option D) :
    ∃ xs', forT (.s 8) (E1 P k legI) (.int t) [a0, some (.tuple rs), some sort, a3, a4, a5, some (.list xs), some (.int n), a8, a9] = .next [a0, some (.tuple rs), some sort, a3, a4, a5, some (.list xs'), some (.int n), some (.int t), a9] ∧ xs'.length ≤ xs.length + 1 ∧ ∀ e ∈ xs', Leads rs sort e := by
  obtain ⟨w, x, y, e, hx1, hy, hw⟩ := hr rs[n] (List.getElem_mem hn)
  have hg : rs[n]? = some (.tuple [.str w, x, y]) := by rw [List.getElem?_eq_getElem hn, e]
  have hrun : (runB P (k + 2)).1 15 [.tuple rs, sort, .int n, .int t] = .ret (stepR w x y sort t) .none := lnext_run hP k hg hx1 hs hw
  have hb : ∀ a0 a1 a2 a3 a4 a5 a6 a7 a8 a9 : Option D, bindT (.s 8) (.int t) [a0, a1, a2, a3, a4, a5, a6, a7, a8, a9] = some [a0, a1, a2, a3, a4, a5, a6, a7, some (.int t), a9] := fun _ _ _ _ _ _ _ _ _ _ => rfl
  have hi : ∀ d : D, opCmp .isnot d .none = some (!isNone d) := fun _ => rfl
  have hL : ∀ a0 a1 a2 a3 a4 a5 a7 a8 a9 : Option D, hasL [a0, a1, a2, a3, a4, a5, some (.list xs), a7, a8, a9] 6 = true := fun _ _ _ _ _ _ _ _ _ => rfl
  have happ : ∀ (a0 a1 a2 a3 a4 a5 a7 a8 a9 : Option D) (d : D), appD 6 d [a0, a1, a2, a3, a4, a5, some (.list xs), a7, a8, a9] = .next [a0, a1, a2, a3, a4, a5, some (.list (xs ++ [d])), a7, a8, a9] := fun _ _ _ _ _ _ _ _ _ d => if_pos (by unfold LIM; omega)
  cases hz : isNone (stepR w x y sort t) with
  | true =>
    refine ⟨xs, ?_, by omega, hx⟩
    simp -implicitDefEqProofs only [forT, hb, legI, g10_0, z10_0, g10_1, z10_1, g10_2, z10_2, g10_3, z10_3, g10_4, z10_4, g10_5, z10_5, g10_6, z10_6, g10_7, z10_7, g10_8, z10_8, g10_9, z10_9, hrun, hi, hz, evS, evE, evA, evAnd, evOr, evH, Option.map_some, Out.bind_ok, Out.lift_some, Out.toS_ok, SOut.thn_next, SOut.thn_ret, tru_b, backC_ret, if_true, Bool.false_eq_true, if_false, Bool.not_true, Bool.not_false]
  | false =>
    refine ⟨xs ++ [.tuple [.int n, .int t]], ?_, by simp, fun e he => ?_⟩
    · simp -implicitDefEqProofs only [forT, hb, legI, g10_0, z10_0, g10_1, z10_1, g10_2, z10_2, g10_3, z10_3, g10_4, z10_4, g10_5, z10_5, g10_6, z10_6, g10_7, z10_7, g10_8, z10_8, g10_9, z10_9, hrun, hi, hz, hL, happ, evS, evE, evA, evAnd, evOr, evH, Option.map_some, Out.bind_ok, Out.lift_some, Out.toS_ok, SOut.thn_next, SOut.thn_ret, tru_b, backC_ret, if_true, Bool.false_eq_true, if_false, Bool.not_true, Bool.not_false]
    · rcases List.mem_append.mp he with he | he
      · exact hx e he
      · rw [List.mem_singleton.mp he]
        exact ⟨n, t, rfl, hn, ht, by rw [one_at hn hg]; exact hz⟩
theorem leg_number (k : Nat) {rs : List D} (hr : ∀ r ∈ rs, GoodR r) {sort : D} (hs : FlatD sort) (n : Nat) (hn : n < rs.length) (xs : List D) (hx : ∀ e ∈ xs, Leads rs sort e) (hl : xs.length < 900) (a0 a3 a4 a5 a7 a8 a9 : Option D) :
    ∃ xs', forT (.s 7) (E1 P k legN) (.int n) [a0, some (.tuple rs), some sort, a3, a4, a5, some (.list xs), a7, a8, a9] = .next [a0, some (.tuple rs), some sort, a3, a4, a5, some (.list xs'), some (.int n), some (.int 1), a9] ∧ xs'.length ≤ xs.length + 2 ∧ ∀ e ∈ xs', Leads rs sort e := by
  have hb : bindT (.s 7) (.int (n : Int)) [a0, some (.tuple rs), some sort, a3, a4, a5, some (.list xs), a7, a8, a9] = some [a0, some (.tuple rs), some sort, a3, a4, a5, some (.list xs), some (.int n), a8, a9] := rfl
  obtain ⟨x1, e1, l1, h1⟩ := leg_inner hP k hr hs n hn 0 (.inl rfl) xs hx (by omega) a0 a3 a4 a5 a8 a9
  obtain ⟨x2, e2, l2, h2⟩ := leg_inner hP k hr hs n hn 1 (.inr rfl) x1 h1 (by omega) a0 a3 a4 a5 (some (.int 0)) a9
  refine ⟨x2, ?_, by omega, h2⟩
  have hw : evW (runB P (k + 2)).1 (runB P (k + 2)).2 .none (.tup (.econs (.cst (.int 0)) (.econs (.cst (.int 1)) .enil))) [a0, some (.tuple rs), some sort, a3, a4, a5, some (.list xs), some (.int n), a8, a9] = .ok [.int 0, .int 1] [a0, some (.tuple rs), some sort, a3, a4, a5, some (.list xs), some (.int n), a8, a9] := rfl
  unfold forT
  rw [hb, Out.lift_some, Out.toS_ok]
  show evS (runB P (k + 2)).1 (runB P (k + 2)).2 .none legN _ = _
  unfold legN
  rw [evS, evS, hw, Out.toS_ok]
  show ((forT (.s 8) (E1 P k legI) (.int 0) _).thn fun ρ => (forT (.s 8) (E1 P k legI) (.int 1) ρ).thn fun ρ => .next ρ).thn _ = _
  rw [e1, SOut.thn_next, e2, SOut.thn_next, SOut.thn_next]
  rfl
theorem leg_filter (k : Nat) {rs : List D} (hr : ∀ r ∈ rs, GoodR r) {sort : D} (xs : List D) (hx : ∀ e ∈ xs, Leads rs sort e) (a0 a2 a3 a4 a5 a7 a8 a9 : Option D) :
    ∃ xs', evE (runB P (k + 2)).1 (runB P (k + 2)).2 .none legF [a0, some (.tuple rs), a2, a3, a4, a5, some (.list xs), a7, a8, a9] = .ok (.list xs') [a0, some (.tuple rs), a2, a3, a4, a5, some (.list xs), a7, a8, a9] ∧ xs'.length ≤ xs.length ∧ ∀ e ∈ xs', Leads rs sort e := by
  have hit : items (.list xs) = some xs := rfl
  have key : ∀ e ∈ xs, ∃ b : Bool, turnE (.s 9) [9] (evE (runB P (k + 2)).1 (runB P (k + 2)).2 .none (.cmp .eq (.idx (.idx (.var 1) (.idx (.var 9) (.cst (.int 0)))) (.cst (.int 0))) (.cst (.str "along")))) (evE (runB P (k + 2)).1 (runB P (k + 2)).2 .none (.var 9)) e [a0, some (.tuple rs), a2, a3, a4, a5, some (.list xs), a7, a8, none] = .ok (if b = true then some e else none) [a0, some (.tuple rs), a2, a3, a4, a5, some (.list xs), a7, a8, none] := by
    intro e he
    obtain ⟨n, t, rfl, hn, _, _⟩ := hx e he
    obtain ⟨w, x, y, ew, _, _, _⟩ := hr rs[n] (List.getElem_mem hn)
    have hg : rs[n]? = some (.tuple [.str w, x, y]) := by rw [List.getElem?_eq_getElem hn, ew]
    have hb : bindT (.s 9) (.tuple [.int n, .int t]) [a0, some (.tuple rs), a2, a3, a4, a5, some (.list xs), a7, a8, none] = some [a0, some (.tuple rs), a2, a3, a4, a5, some (.list xs), a7, a8, some (.tuple [.int n, .int t])] := rfl
    have hwp : wipeE [a0, some (.tuple rs), a2, a3, a4, a5, some (.list xs), a7, a8, some (.tuple [.int n, .int t])] [9] = [a0, some (.tuple rs), a2, a3, a4, a5, some (.list xs), a7, a8, none] := rfl
    have i0 : opIdx (.tuple [.int n, .int t]) (.int 0) = some (.int n) := rfl
    have j0 : opIdx (.tuple [.str w, x, y]) (.int 0) = some (.str w) := rfl
    refine ⟨decide (w = "along"), ?_⟩
    cases hA : decide (w = "along") <;>
    simp -implicitDefEqProofs only [turnE, hb, hwp, g10_0, z10_0, g10_1, z10_1, g10_2, z10_2, g10_3, z10_3, g10_4, z10_4, g10_5, z10_5, g10_6, z10_6, g10_7, z10_7, g10_8, z10_8, g10_9, z10_9, i0, idx_t hg, j0, cmpEq_str, hA, evS, evE, evA, evAnd, evOr, evH, Option.map_some, Out.bind_ok, Out.lift_some, Out.toS_ok, SOut.thn_next, SOut.thn_ret, tru_b, backC_ret, if_true, Bool.false_eq_true, if_false, Bool.not_true, Bool.not_false]
  have main : ∀ ys : List D, (∀ e ∈ ys, e ∈ xs) → ∃ zs, lcLoop (turnE (.s 9) [9] (evE (runB P (k + 2)).1 (runB P (k + 2)).2 .none (.cmp .eq (.idx (.idx (.var 1) (.idx (.var 9) (.cst (.int 0)))) (.cst (.int 0))) (.cst (.str "along")))) (evE (runB P (k + 2)).1 (runB P (k + 2)).2 .none (.var 9))) ys [a0, some (.tuple rs), a2, a3, a4, a5, some (.list xs), a7, a8, none] = .ok zs [a0, some (.tuple rs), a2, a3, a4, a5, some (.list xs), a7, a8, none] ∧ zs.length ≤ ys.length ∧ ∀ e ∈ zs, e ∈ ys := by
    intro ys
    induction ys with
    | nil => intro _; exact ⟨[], rfl, Nat.le_refl _, fun e he => by cases he⟩
    | cons y ys ih =>
      intro h
      obtain ⟨zs, e1, e2, e3⟩ := ih fun e he => h e (List.mem_cons_of_mem _ he)
      obtain ⟨b, hb⟩ := key y (h y List.mem_cons_self)
      refine ⟨(if b = true then some y else none).toList ++ zs, lc_step hb e1, ?_, fun e he => ?_⟩
      · cases b <;> simp <;> omega
      · rcases List.mem_append.mp he with he | he
        · cases b
          · cases he
          · rw [List.mem_singleton.mp he]; exact List.mem_cons_self
        · exact List.mem_cons_of_mem _ (e3 e he)
  obtain ⟨zs, e1, e2, e3⟩ := main xs fun _ h => h
  refine ⟨zs, ?_, e2, fun e he => hx e (e3 e he)⟩
  unfold legF
  rw [evE, evE, g10_6, Out.lift_some, Out.bind_ok, hit, Out.lift_some, Out.bind_ok]
  show ((lcLoop _ xs [a0, some (.tuple rs), a2, a3, a4, a5, some (.list xs), a7, a8, none]).noExc).bind _ = _
  rw [e1]
  rfl
end
end LX
set_option Elab.async false
set_option linter.all false
set_option maxRecDepth 100000
set_option maxHeartbeats 4000000
namespace LX
open PySem BV
theorem ne_true : dkNe = true := rfl
theorem rng_run (n : Nat) (h : n ≤ 10000) : opRng [.int (n : Int)] = some (.list ((List.range n).map fun (k : Nat) => .int k)) := by
  show (if -(2 ^ 62) ≤ (n : Int) ∧ (n : Int) ≤ LIM then some (PyData.list ((List.range (n : Int).toNat).map fun (k : Nat) => .int k)) else none) = _
  rw [if_pos ⟨by omega, by unfold LIM; omega⟩]
  rfl
section
variable {P : Nat → Option Fn} (hP : P = px.P)
include hP
theorem takeR (k : Nat) {N : Nat} {d : D} (h : DkN N d) (hN : N ≤ 1000000) (many : Int) (h0 : 0 < many) (h1 : many < 1073741824) : ∃ (r : Nat) (d' : D), run P (k + 1) 8 [d, .int many] = .ret (.int r) d' ∧ (r : Int) < many ∧ DkN (N + 1) d' :=
  take2_dk ne_true (t := 8) (by rw [hP]; rfl) k h hN many h0 h1
theorem leg_loop (k : Nat) {rs : List D} (hr : ∀ r ∈ rs, GoodR r) (hrl : rs.length ≤ 400) {s : D} (hs : FlatD s) (a0 a3 a4 a5 a7 a8 a9 : Option D) :
    ∃ xs b7 b8, forLoop (forT (.s 7) (E1 P k legN)) ((List.range rs.length).map fun (k : Nat) => .int k) [a0, some (.tuple rs), some s, a3, a4, a5, some (.list []), a7, a8, a9] = .next [a0, some (.tuple rs), some s, a3, a4, a5, some (.list xs), b7, b8, a9] ∧ xs.length ≤ 2 * rs.length ∧ ∀ e ∈ xs, Leads rs s e := by
  obtain ⟨ρ', el, xs, b7, b8, rfl, h1, h2⟩ := forLoop_inv (f := forT (.s 7) (E1 P k legN)) (fun j ρ => ∃ xs b7 b8, ρ = [a0, some (.tuple rs), some s, a3, a4, a5, some (.list xs), b7, b8, a9] ∧ xs.length ≤ 2 * j ∧ ∀ e ∈ xs, Leads rs s e) ((List.range rs.length).map fun (k : Nat) => .int k) 0 [a0, some (.tuple rs), some s, a3, a4, a5, some (.list []), a7, a8, a9] ⟨[], a7, a8, rfl, by simp, fun e he => by cases he⟩ (by
    rintro i x ρ hi ⟨xs, b7, b8, rfl, h1, h2⟩
    have hil : i < rs.length := by
      have := (List.getElem?_eq_some_iff.mp hi).1
      simpa using this
    have hx : x = .int (i : Int) := by
      have := (List.getElem?_eq_some_iff.mp hi).2
      simpa using this.symm
    subst hx
    obtain ⟨xs', e1, e2, e3⟩ := leg_number hP k hr hs i hil xs h2 (by omega) a0 a3 a4 a5 b7 b8 a9
    exact ⟨_, e1, xs', _, _, rfl, by omega, e3⟩)
  exact ⟨xs, b7, b8, el, by simpa using h1, h2⟩
theorem leg_turn (k : Nat) {rs : List D} (hr : ∀ r ∈ rs, GoodR r) (hrl : rs.length ≤ 400) {s0 s : D} (hs : FlatD s) (hz : isNone s = false) (h00 : isNone s0 = false) (al : Bool) {steps : List D} (hw : walk false rs s0 steps = s) (hst : ∀ st ∈ steps, StepD rs.length st) (hsl : steps.length ≤ 100) {d : D} {N : Nat} (hd : DkN N d) (hN : N ≤ 900000) (y : D) (a5 a6 a7 a8 a9 : Option D) :
    ∃ d' s' steps' b6 b7 b8 b9, forT (.s 5) (E1 P k legO) y [some d, some (.tuple rs), some s, some (.bool al), some (.tuple steps), a5, a6, a7, a8, a9] = .next [some d', some (.tuple rs), some s', some (.bool al), some (.tuple steps'), some y, b6, b7, b8, b9] ∧
      DkN (N + 1) d' ∧ FlatD s' ∧ isNone s' = false ∧ walk false rs s0 steps' = s' ∧ (∀ st ∈ steps', StepD rs.length st) ∧ steps'.length ≤ steps.length + 1 := by
  have hb : bindT (.s 5) y [some d, some (.tuple rs), some s, some (.bool al), some (.tuple steps), a5, a6, a7, a8, a9] = some [some d, some (.tuple rs), some s, some (.bool al), some (.tuple steps), some y, a6, a7, a8, a9] := rfl
  have hlr : opBlt .len [.tuple rs] = some (.int (rs.length : Int)) := rfl
  have hil : ∀ l, items (.list l) = some l := fun _ => rfl
  obtain ⟨xs0, c7, c8, el, hl0, hx0⟩ := leg_loop hP k hr hrl hs (some d) (some (.bool al)) (some (.tuple steps)) (some y) a7 a8 a9
  have hwl : evW (runB P (k + 2)).1 (runB P (k + 2)).2 .none (.rng (.econs (.blt .len (.econs (.var 1) .enil)) .enil)) [some d, some (.tuple rs), some s, some (.bool al), some (.tuple steps), some y, some (.list []), a7, a8, a9] = .ok ((List.range rs.length).map fun (k : Nat) => .int k) [some d, some (.tuple rs), some s, some (.bool al), some (.tuple steps), some y, some (.list []), a7, a8, a9] := by
    rw [evW]
    simp -implicitDefEqProofs only [g10_0, z10_0, g10_1, z10_1, g10_2, z10_2, g10_3, z10_3, g10_4, z10_4, g10_5, z10_5, g10_6, z10_6, g10_7, z10_7, g10_8, z10_8, g10_9, z10_9, hlr, rng_run rs.length (by omega), hil, evS, evE, evA, evAnd, evOr, evH, Option.map_some, Out.bind_ok, Out.lift_some, Out.toS_ok, SOut.thn_next, SOut.thn_ret, tru_b, backC_ret, if_true, Bool.false_eq_true, if_false, Bool.not_true, Bool.not_false]
  -- some, filtered
  obtain ⟨xs, e3, hl, hx⟩ : ∃ xs, evS (runB P (k + 2)).1 (runB P (k + 2)).2 .none (.ifs (.var 3) (.cons (.frz 6) (.cons (.own 6 legF) .nil)) .nil) [some d, some (.tuple rs), some s, some (.bool al), some (.tuple steps), some y, some (.list xs0), c7, c8, a9] = .next [some d, some (.tuple rs), some s, some (.bool al), some (.tuple steps), some y, some (.list xs), c7, c8, a9] ∧ xs.length ≤ 800 ∧ ∀ e ∈ xs, Leads rs s e := by
    cases al
    · refine ⟨xs0, ?_, by omega, hx0⟩
      simp -implicitDefEqProofs only [g10_0, z10_0, g10_1, z10_1, g10_2, z10_2, g10_3, z10_3, g10_4, z10_4, g10_5, z10_5, g10_6, z10_6, g10_7, z10_7, g10_8, z10_8, g10_9, z10_9, evS, evE, evA, evAnd, evOr, evH, Option.map_some, Out.bind_ok, Out.lift_some, Out.toS_ok, SOut.thn_next, SOut.thn_ret, tru_b, backC_ret, if_true, Bool.false_eq_true, if_false, Bool.not_true, Bool.not_false]
    · obtain ⟨zs, e1, e2, e3⟩ := leg_filter hP k hr xs0 hx0 (some d) (some s) (some (.bool true)) (some (.tuple steps)) (some y) c7 c8 a9
      refine ⟨zs, ?_, by omega, e3⟩
      simp -implicitDefEqProofs only [g10_0, z10_0, g10_1, z10_1, g10_2, z10_2, g10_3, z10_3, g10_4, z10_4, g10_5, z10_5, g10_6, z10_6, g10_7, z10_7, g10_8, z10_8, g10_9, z10_9, e1, ownS, evS, evE, evA, evAnd, evOr, evH, Option.map_some, Out.bind_ok, Out.lift_some, Out.toS_ok, SOut.thn_next, SOut.thn_ret, tru_b, backC_ret, if_true, Bool.false_eq_true, if_false, Bool.not_true, Bool.not_false]
  have hpre : ∀ ρ1, evS (runB P (k + 2)).1 (runB P (k + 2)).2 .none (.ifs (.cmp .ne (.var 6) (.lst .enil)) legS (.cons (.frz 6) .nil)) [some d, some (.tuple rs), some s, some (.bool al), some (.tuple steps), some y, some (.list xs), c7, c8, a9] = .next ρ1 → forT (.s 5) (E1 P k legO) y [some d, some (.tuple rs), some s, some (.bool al), some (.tuple steps), a5, a6, a7, a8, a9] = .next ρ1 := by
    intro ρ1 h
    unfold forT
    rw [hb, Out.lift_some, Out.toS_ok]
    show evS (runB P (k + 2)).1 (runB P (k + 2)).2 .none legO _ = _
    have o1 : evS (runB P (k + 2)).1 (runB P (k + 2)).2 .none (.own 6 (.lst .enil)) [some d, some (.tuple rs), some s, some (.bool al), some (.tuple steps), some y, a6, a7, a8, a9] = .next [some d, some (.tuple rs), some s, some (.bool al), some (.tuple steps), some y, some (.list []), a7, a8, a9] := rfl
    have o2 : evS (runB P (k + 2)).1 (runB P (k + 2)).2 .none (.fors (.s 7) (.rng (.econs (.blt .len (.econs (.var 1) .enil)) .enil)) legN) [some d, some (.tuple rs), some s, some (.bool al), some (.tuple steps), some y, some (.list []), a7, a8, a9] = .next [some d, some (.tuple rs), some s, some (.bool al), some (.tuple steps), some y, some (.list xs0), c7, c8, a9] := by
      rw [evS, hwl, Out.toS_ok]
      exact el
    unfold legO
    rw [evS, o1, SOut.thn_next, evS, o2, SOut.thn_next, evS, e3, SOut.thn_next, evS, h, SOut.thn_next, evS]
  have hnn := ne_nil hx
  have hlx : opBlt .len [.list xs] = some (.int (xs.length : Int)) := rfl
  by_cases hem : xs.isEmpty = true
  · rw [hem] at hnn
    refine ⟨d, s, steps, some (.list xs), c7, c8, a9, hpre _ ?_, hd.mono (by omega), hs, hz, hw, hst, by omega⟩
    simp -implicitDefEqProofs only [g10_0, z10_0, g10_1, z10_1, g10_2, z10_2, g10_3, z10_3, g10_4, z10_4, g10_5, z10_5, g10_6, z10_6, g10_7, z10_7, g10_8, z10_8, g10_9, z10_9, hnn, evS, evE, evA, evAnd, evOr, evH, Option.map_some, Out.bind_ok, Out.lift_some, Out.toS_ok, SOut.thn_next, SOut.thn_ret, tru_b, backC_ret, if_true, Bool.false_eq_true, if_false, Bool.not_true, Bool.not_false]
  · have hem : xs.isEmpty = false := by simpa using hem
    rw [hem] at hnn
    have hpos : 0 < xs.length := by
      cases xs
      · cases hem
      · simp
    obtain ⟨r, d', e4, hrr, hd'⟩ := takeR hP (k + 1) hd (by omega) (xs.length : Int) (by omega) (by omega)
    have hrl' : r < xs.length := by omega
    have e4' : (runB P (k + 2)).1 8 [d, .int (xs.length : Int)] = .ret (.int r) d' := e4
    obtain ⟨n, t, est, hn, ht, hlead⟩ := hx xs[r] (List.getElem_mem hrl')
    have hixs : opIdx (.list xs) (.int (r : Int)) = some (.tuple [.int n, .int t]) := by
      rw [← est]
      exact opIdx_nat (List.getElem?_eq_getElem hrl')
    obtain ⟨w, x, y', ew, hx1, hy1, hw1⟩ := hr rs[n] (List.getElem_mem hn)
    have hg : rs[n]? = some (.tuple [.str w, x, y']) := by rw [List.getElem?_eq_getElem hn, ew]
    have hrun : (runB P (k + 2)).1 15 [.tuple rs, s, .int n, .int t] = .ret (stepR w x y' s t) .none := lnext_run hP k hg hx1 hs hw1
    have hone := one_at (sort := s) (t := t) hn hg
    rw [est, hone] at hlead
    have hL : ∀ b c e f g h i j l : Option D, hasL [some d, b, c, e, f, g, h, i, j, l] 0 = true := by
      obtain ⟨ys, ey⟩ := hd.isL
      subst ey
      exact fun _ _ _ _ _ _ _ _ _ => rfl
    have i0 : opIdx (.tuple [.int (n : Int), .int t]) (.int 0) = some (.int n) := rfl
    have i1 : opIdx (.tuple [.int (n : Int), .int t]) (.int 1) = some (.int t) := rfl
    have hadd : opBin .add (.tuple steps) (.tuple [.tuple [.int (n : Int), .int t]]) = some (.tuple (steps ++ [.tuple [.int (n : Int), .int t]])) := add_tup _ _ (by unfold LIM; simp; omega)
    have hwa : walk false rs s0 (steps ++ [.tuple [.int (n : Int), .int t]]) = stepR w x y' s t := by
      rw [walk_app steps s0 _ h00 (by rw [hw]; exact hz) (by rw [hw, hone]; exact hlead), hw, hone]
    refine ⟨d', stepR w x y' s t, steps ++ [.tuple [.int (n : Int), .int t]], some (.list xs), c7, c8, some (.tuple [.int n, .int t]), hpre _ ?_, hd', stepR_flat hy1 hw1, hlead, hwa, fun st h => ?_, by simp⟩
    · simp -implicitDefEqProofs only [g10_0, z10_0, g10_1, z10_1, g10_2, z10_2, g10_3, z10_3, g10_4, z10_4, g10_5, z10_5, g10_6, z10_6, g10_7, z10_7, g10_8, z10_8, g10_9, z10_9, hnn, legS, hL, hlx, e4', backD, hixs, i0, i1, hrun, hadd, evS, evE, evA, evAnd, evOr, evH, Option.map_some, Out.bind_ok, Out.lift_some, Out.toS_ok, SOut.thn_next, SOut.thn_ret, tru_b, backC_ret, if_true, Bool.false_eq_true, if_false, Bool.not_true, Bool.not_false]
    · rcases List.mem_append.mp h with h | h
      · exact hst st h
      · rw [List.mem_singleton.mp h]
        exact ⟨n, t, rfl, hn, ht⟩
theorem legs_run (k : Nat) {rs : List D} (hr : ∀ r ∈ rs, GoodR r) (hrl : rs.length ≤ 400) {s0 : D} (hs : FlatD s0) (hz : isNone s0 = false) (al : Bool) {d : D} {N : Nat} (hd : DkN N d) (hN : N ≤ 800000) :
    ∃ d' steps, run P (k + 3) 20 [d, .tuple rs, s0, .bool al] = .ret (.tuple steps) d' ∧ DkN (N + 6) d' ∧ (∀ st ∈ steps, StepD rs.length st) ∧ steps.length ≤ 5 ∧ isNone (walk false rs s0 steps) = false ∧ FlatD (walk false rs s0 steps) := by
  rw [run_ret (fn := x__law_legs.fn) (by rw [hP]; rfl) rfl rfl]
  show ∃ d' steps, (x__law_legs.fn).endS (evS (runB P (k + 2)).1 (runB P (k + 2)).2 .none b__law_legs [some d, some (.tuple rs), some s0, some (.bool al), none, none, none, none, none, none]) = _ ∧ _
  rw [legB_eq]
  obtain ⟨r, d1, e1, hr1, hd1⟩ := takeR hP (k + 1) hd (by omega) 6 (by omega) (by omega)
  have e1' : (runB P (k + 2)).1 8 [d, .int 6] = .ret (.int r) d1 := e1
  have hL : ∀ b c e f g h i j l : Option D, hasL [some d, b, c, e, f, g, h, i, j, l] 0 = true := by
    obtain ⟨ys, ey⟩ := hd.isL
    subst ey
    exact fun _ _ _ _ _ _ _ _ _ => rfl
  have hil : ∀ l, items (.list l) = some l := fun _ => rfl
  have hwl : evW (runB P (k + 2)).1 (runB P (k + 2)).2 .none (.rng (.econs (.calld 8 0 (.econs (.cst (.int 6)) .enil)) .enil)) [some d, some (.tuple rs), some s0, some (.bool al), some (.tuple []), none, none, none, none, none] = .ok ((List.range r).map fun (k : Nat) => .int k) [some d1, some (.tuple rs), some s0, some (.bool al), some (.tuple []), none, none, none, none, none] := by
    rw [evW]
    simp -implicitDefEqProofs only [g10_0, z10_0, g10_1, z10_1, g10_2, z10_2, g10_3, z10_3, g10_4, z10_4, g10_5, z10_5, g10_6, z10_6, g10_7, z10_7, g10_8, z10_8, g10_9, z10_9, hL, e1', backD, rng_run r (by omega), hil, evS, evE, evA, evAnd, evOr, evH, Option.map_some, Out.bind_ok, Out.lift_some, Out.toS_ok, SOut.thn_next, SOut.thn_ret, tru_b, backC_ret, if_true, Bool.false_eq_true, if_false, Bool.not_true, Bool.not_false]
  obtain ⟨ρ', el, d2, s2, st2, b5, b6, b7, b8, b9, rfl, q1, q2, q3, q4, q5, q6⟩ := forLoop_inv (f := forT (.s 5) (E1 P k legO)) (fun j ρ => ∃ d s steps b5 b6 b7 b8 b9, ρ = [some d, some (.tuple rs), some s, some (.bool al), some (.tuple steps), b5, b6, b7, b8, b9] ∧ DkN (N + 1 + j) d ∧ FlatD s ∧ isNone s = false ∧ walk false rs s0 steps = s ∧ (∀ st ∈ steps, StepD rs.length st) ∧ steps.length ≤ j)
    ((List.range r).map fun (k : Nat) => .int k) 0 [some d1, some (.tuple rs), some s0, some (.bool al), some (.tuple []), none, none, none, none, none] ⟨d1, s0, [], none, none, none, none, none, rfl, hd1, hs, hz, rfl, (fun st h => by cases h), Nat.le_refl _⟩ (by
    rintro i y ρ hi ⟨d, s, steps, b5, b6, b7, b8, b9, rfl, g1, g2, g3, g4, g5, g6⟩
    have hil : i < r := by
      have := (List.getElem?_eq_some_iff.mp hi).1
      simpa using this
    obtain ⟨d', s', st', c6, c7, c8, c9, f0, f1, f2, f3, f4, f5, f6⟩ := leg_turn hP k hr hrl g2 g3 hz al g4 g5 (by omega) g1 (by omega) y b5 b6 b7 b8 b9
    exact ⟨_, f0, d', s', st', _, c6, c7, c8, c9, rfl, f1, f2, f3, f4, f5, by omega⟩)
  have hrlen : ((List.range r).map fun (k : Nat) => PyData.int k).length = r := by simp
  rw [hrlen] at q1 q6
  refine ⟨d2, st2, ?_, q1.mono (by omega), q5, by omega, by rw [q4]; exact q3, by rw [q4]; exact q2⟩
  have hL2 : ∀ a, evS (runB P (k + 2)).1 (runB P (k + 2)).2 .none (.set 4 (.tup .enil)) [some d, some (.tuple rs), some s0, some (.bool al), a, none, none, none, none, none] = .next [some d, some (.tuple rs), some s0, some (.bool al), some (.tuple []), none, none, none, none, none] := fun _ => rfl
  have e5 : evS (runB P (k + 2)).1 (runB P (k + 2)).2 .none (.fors (.s 5) (.rng (.econs (.calld 8 0 (.econs (.cst (.int 6)) .enil)) .enil)) legO) [some d, some (.tuple rs), some s0, some (.bool al), some (.tuple []), none, none, none, none, none] = .next [some d2, some (.tuple rs), some s2, some (.bool al), some (.tuple st2), b5, b6, b7, b8, b9] := by
    rw [evS, hwl, Out.toS_ok]
    exact el
  unfold legB
  rw [evS, hL2, SOut.thn_next, evS, e5, SOut.thn_next]
  rfl
end
end LX
set_option Elab.async false
set_option linter.all false
set_option maxRecDepth 100000
set_option maxHeartbeats 4000000
namespace LX
open PySem BV
section
variable (a0 a1 a2 a3 a4 a5 a6 a7 a8 a9 a10 a11 a12 a13 a14 x : Option D)
theorem g15_0 : getV [a0, a1, a2, a3, a4, a5, a6, a7, a8, a9, a10, a11, a12, a13, a14] 0 = a0 := rfl
theorem z15_0 : List.set [a0, a1, a2, a3, a4, a5, a6, a7, a8, a9, a10, a11, a12, a13, a14] 0 x = [x, a1, a2, a3, a4, a5, a6, a7, a8, a9, a10, a11, a12, a13, a14] := rfl
theorem g15_1 : getV [a0, a1, a2, a3, a4, a5, a6, a7, a8, a9, a10, a11, a12, a13, a14] 1 = a1 := rfl
theorem z15_1 : List.set [a0, a1, a2, a3, a4, a5, a6, a7, a8, a9, a10, a11, a12, a13, a14] 1 x = [a0, x, a2, a3, a4, a5, a6, a7, a8, a9, a10, a11, a12, a13, a14] := rfl
theorem g15_2 : getV [a0, a1, a2, a3, a4, a5, a6, a7, a8, a9, a10, a11, a12, a13, a14] 2 = a2 := rfl
theorem z15_2 : List.set [a0, a1, a2, a3, a4, a5, a6, a7, a8, a9, a10, a11, a12, a13, a14] 2 x = [a0, a1, x, a3, a4, a5, a6, a7, a8, a9, a10, a11, a12, a13, a14] := rfl
theorem g15_3 : getV [a0, a1, a2, a3, a4, a5, a6, a7, a8, a9, a10, a11, a12, a13, a14] 3 = a3 := rfl
theorem z15_3 : List.set [a0, a1, a2, a3, a4, a5, a6, a7, a8, a9, a10, a11, a12, a13, a14] 3 x = [a0, a1, a2, x, a4, a5, a6, a7, a8, a9, a10, a11, a12, a13, a14] := rfl
theorem g15_4 : getV [a0, a1, a2, a3, a4, a5, a6, a7, a8, a9, a10, a11, a12, a13, a14] 4 = a4 := rfl
theorem z15_4 : List.set [a0, a1, a2, a3, a4, a5, a6, a7, a8, a9, a10, a11, a12, a13, a14] 4 x = [a0, a1, a2, a3, x, a5, a6, a7, a8, a9, a10, a11, a12, a13, a14] := rfl
theorem g15_5 : getV [a0, a1, a2, a3, a4, a5, a6, a7, a8, a9, a10, a11, a12, a13, a14] 5 = a5 := rfl
theorem z15_5 : List.set [a0, a1, a2, a3, a4, a5, a6, a7, a8, a9, a10, a11, a12, a13, a14] 5 x = [a0, a1, a2, a3, a4, x, a6, a7, a8, a9, a10, a11, a12, a13, a14] := rfl
theorem g15_6 : getV [a0, a1, a2, a3, a4, a5, a6, a7, a8, a9, a10, a11, a12, a13, a14] 6 = a6 := rfl
theorem z15_6 : List.set [a0, a1, a2, a3, a4, a5, a6, a7, a8, a9, a10, a11, a12, a13, a14] 6 x = [a0, a1, a2, a3, a4, a5, x, a7, a8, a9, a10, a11, a12, a13, a14] := rfl
theorem g15_7 : getV [a0, a1, a2, a3, a4, a5, a6, a7, a8, a9, a10, a11, a12, a13, a14] 7 = a7 := rfl
theorem z15_7 : List.set [a0, a1, a2, a3, a4, a5, a6, a7, a8, a9, a10, a11, a12, a13, a14] 7 x = [a0, a1, a2, a3, a4, a5, a6, x, a8, a9, a10, a11, a12, a13, a14] := rfl
theorem g15_8 : getV [a0, a1, a2, a3, a4, a5, a6, a7, a8, a9, a10, a11, a12, a13, a14] 8 = a8 := rfl
theorem z15_8 : List.set [a0, a1, a2, a3, a4, a5, a6, a7, a8, a9, a10, a11, a12, a13, a14] 8 x = [a0, a1, a2, a3, a4, a5, a6, a7, x, a9, a10, a11, a12, a13, a14] := rfl
theorem g15_9 : getV [a0, a1, a2, a3, a4, a5, a6, a7, a8, a9, a10, a11, a12, a13, a14] 9 = a9 := rfl
theorem z15_9 : List.set [a0, a1, a2, a3, a4, a5, a6, a7, a8, a9, a10, a11, a12, a13, a14] 9 x = [a0, a1, a2, a3, a4, a5, a6, a7, a8, x, a10, a11, a12, a13, a14] := rfl
theorem g15_10 : getV [a0, a1, a2, a3, a4, a5, a6, a7, a8, a9, a10, a11, a12, a13, a14] 10 = a10 := rfl
theorem z15_10 : List.set [a0, a1, a2, a3, a4, a5, a6, a7, a8, a9, a10, a11, a12, a13, a14] 10 x = [a0, a1, a2, a3, a4, a5, a6, a7, a8, a9, x, a11, a12, a13, a14] := rfl
theorem g15_11 : getV [a0, a1, a2, a3, a4, a5, a6, a7, a8, a9, a10, a11, a12, a13, a14] 11 = a11 := rfl
theorem z15_11 : List.set [a0, a1, a2, a3, a4, a5, a6, a7, a8, a9, a10, a11, a12, a13, a14] 11 x = [a0, a1, a2, a3, a4, a5, a6, a7, a8, a9, a10, x, a12, a13, a14] := rfl
theorem g15_12 : getV [a0, a1, a2, a3, a4, a5, a6, a7, a8, a9, a10, a11, a12, a13, a14] 12 = a12 := rfl
theorem z15_12 : List.set [a0, a1, a2, a3, a4, a5, a6, a7, a8, a9, a10, a11, a12, a13, a14] 12 x = [a0, a1, a2, a3, a4, a5, a6, a7, a8, a9, a10, a11, x, a13, a14] := rfl
theorem g15_13 : getV [a0, a1, a2, a3, a4, a5, a6, a7, a8, a9, a10, a11, a12, a13, a14] 13 = a13 := rfl
theorem z15_13 : List.set [a0, a1, a2, a3, a4, a5, a6, a7, a8, a9, a10, a11, a12, a13, a14] 13 x = [a0, a1, a2, a3, a4, a5, a6, a7, a8, a9, a10, a11, a12, x, a14] := rfl
theorem g15_14 : getV [a0, a1, a2, a3, a4, a5, a6, a7, a8, a9, a10, a11, a12, a13, a14] 14 = a14 := rfl
theorem z15_14 : List.set [a0, a1, a2, a3, a4, a5, a6, a7, a8, a9, a10, a11, a12, a13, a14] 14 x = [a0, a1, a2, a3, a4, a5, a6, a7, a8, a9, a10, a11, a12, a13, x] := rfl
end
def lawP : IS := (.cons (.set 2 (.cmp .gt (.calld 8 1 (.econs (.cst (.int 6)) .enil)) (.cst (.int 0)))) (.cons (.set 3 (.lst (.econs (.cmp .eq (.calld 8 1 (.econs (.cst (.int 4)) .enil)) (.cst (.int 0))) (.econs (.cmp .eq (.calld 8 1 (.econs (.cst (.int 4)) .enil)) (.cst (.int 0))) .enil)))) (.cons (.set 4 (.calld 8 1 (.econs (.cst (.int 3)) .enil))) (.cons (.set 5 (.calld 9 1 (.econs (.cst (.int 6)) .enil))) (.cons (.set 6 (.slc (.var 5) .nop (.cst (.int 3)))) (.cons (.set 7 (.slc (.slc (.var 5) (.bin .mul (.cst (.int 3)) (.calld 8 1 (.econs (.cst (.int 2)) .enil))) .nop) .nop (.cst (.int 2)))) (.cons (.set 8 (.blt .tuple (.econs (.calld 13 1 (.econs (.var 6) (.econs (.var 7) (.econs (.bin .add (.cst (.int 2)) (.calld 8 1 (.econs (.cst (.int 6)) .enil))) .enil)))) .enil))) .nil)))))))
def oneC : IE := (.or (.econs (.not (.call 22 (.econs (.var 8) (.econs (.var 10) (.econs (.var 12) (.econs (.var 13) .enil)))))) (.econs (.not (.call 22 (.econs (.var 8) (.econs (.var 10) (.econs (.var 12) (.econs (.var 11) .enil)))))) .enil)))
def turnB : IS := (.cons (.ifs (.and (.econs (.cmp .eq (.blt .len (.econs (.var 12) .enil)) (.cst (.int 2))) (.econs (.not (.call 23 (.econs (.var 8) (.econs (.var 10) (.econs (.var 12) (.econs (.var 14) .enil)))))) .enil))) (.cons (.ret (.cst (.bool false))) .nil) .nil) .nil)
def bendS : IS := (.ifs (.var 2) (.cons (.set 13 (.calld 19 1 (.econs (.var 11) (.econs (.var 4) .enil)))) .nil) .nil)
def astrS : IS := (.ifs (.idx (.var 3) (.cst (.int 0))) (.cons (.set 12 (.calld 11 1 (.econs (.var 6) (.econs (.var 7) .enil)))) .nil) .nil)
def lawI2 : IS := (.cons (.set 10 (.calld 10 1 (.econs (.var 7) .enil))) (.cons (.set 11 (.calld 20 1 (.econs (.var 8) (.econs (.var 10) (.econs (.idx (.var 3) (.cst (.int 1))) .enil))))) (.cons (.set 12 (.call 17 (.econs (.var 8) (.econs (.var 10) (.econs (.var 11) (.econs (.cst (.bool false)) .enil)))))) (.cons (.set 13 (.var 11)) (.cons bendS (.cons (.fors (.s 14) (.lst (.econs (.var 13) (.econs (.var 11) .enil))) turnB) .nil))))))
def lawI1 : IS := (.cons (.set 10 (.calld 11 1 (.econs (.var 6) (.econs (.var 7) .enil)))) (.cons (.set 11 (.calld 20 1 (.econs (.var 8) (.econs (.var 10) (.econs (.cst (.bool false)) .enil))))) (.cons (.set 12 (.call 17 (.econs (.var 8) (.econs (.var 10) (.econs (.var 11) (.econs (.cst (.bool false)) .enil)))))) (.cons astrS (.cons (.set 13 (.var 11)) (.cons bendS (.cons (.ifs oneC (.cons (.ret (.cst (.bool false))) .nil) .nil) .nil)))))))
def lawQ : IS := (.cons (.fors (.s 9) (.rng (.econs (.cst (.int 3)) .enil)) (appS lawI1 lawI2)) (.cons (.set 10 (.calld 10 1 (.econs (.var 7) .enil))) (.cons (.ret (.and (.econs (.call 21 (.econs (.call 4 (.econs (.var 8) (.econs (.var 10) (.econs (.var 10) (.econs (.tup .enil) .enil))))) (.econs (.cst (.bool true)) .enil))) (.econs (.call 21 (.econs (.call 6 (.econs (.var 8) (.econs (.var 10) (.econs (.var 10) (.econs (.tup .enil) .enil))))) (.econs (.cst (.bool true)) .enil))) .enil)))) .nil)))
theorem b_law_eq : b_law = .cons (.deck 1 7 (.var 0)) (appS lawP lawQ) := rfl
/-! types -/
def sm0 : Sm := fun _ => none
abbrev AJ := acJ px.P 8 sm0 58
def wdT : T := .str 1 16
def kT3 : T := .seq true 3 3 wdT
def rT2 : T := .seq true 2 2 wdT
def turnT : T := .tup (.cons wdT (.cons (.int 0 1) .nil))
def sortT : T := .or (.tup (.cons wdT .nil)) turnT
def rule4 (w : Str) (t : T) : T := .tup (.cons (.cs w) (.cons t (.cons t .nil)))
def ruleT : T := .or (.or (rule4 "within" sortT) (rule4 "along" turnT)) (.or (rule4 "apart" sortT) (rule4 "away" turnT))
def stepT : T := .tup (.cons (.int 0 6) (.cons (.int 0 1) .nil))
def legsT : Nat → T
  | 0 => .tup .nil
  | n + 1 => .or (legsT n) (.tup (repT stepT (n + 1)))
def Γ0 : TS := [none, some .dk, none, none, none, none, none, none, none, none, none, none, none, none, none]
def Γ8 : TS := [none, some .dk, some .bl, some (.lst (.cons .bl (.cons .bl .nil))), some (.int 0 2), none, some kT3, some rT2, some (.seq false 0 7 ruleT), none, none, none, none, none, none]
def BN : Nat → Nat := fun j => 1000 * (j + 1)
theorem cP : chkS (aS AJ.1 AJ.2 8 false lawP Γ0 0) Γ8 (BN 0) = true := by kernel_rfl
theorem cS : ((List.range 3).all fun j => chk (AJ.2 11 (.cons kT3 (.cons rT2 .nil)) (BN j)) sortT (BN j + 10)) = true := by kernel_rfl
theorem cS2 : ((List.range 3).all fun j => chk (AJ.2 11 (.cons kT3 (.cons rT2 .nil)) (BN j + 16)) sortT (BN j + 30)) = true := by kernel_rfl
theorem cT : ((List.range 4).all fun j => chk (AJ.2 10 (.cons rT2 .nil) (BN j + 300)) turnT (BN j + 310)) = true := by kernel_rfl
theorem cB : ((List.range 3).all fun j => chkR (AJ.2 19 (.cons (legsT 5) (.cons (.int 0 2) .nil)) (BN j + 30)) (BN j + 300)) = true := by kernel_rfl
theorem cB2 : ((List.range 3).all fun j => chkR (AJ.2 19 (.cons (legsT 5) (.cons (.int 0 2) .nil)) (BN j + 316)) (BN j + 600)) = true := by kernel_rfl
end LX
set_option Elab.async false
set_option linter.all false
set_option maxRecDepth 100000
set_option maxHeartbeats 4000000
namespace LX
open PySem BV
def TupD (d : D) : Prop := ∃ ys, d = .tuple ys
def TupR (r : D) : Prop := ∃ w x y, r = .tuple [.str w, x, y] ∧ TupD y
theorem tup_rnd {d : D} (h : TupD d) : TupD (rnd d) := by
  obtain ⟨ys, rfl⟩ := h
  unfold rnd
  split
  · exact ⟨_, rfl⟩
  · exact ⟨_, rfl⟩
theorem stepR_tup {w : Str} {x y sort : D} {t : Int} (hy : TupD y) : isNone (stepR w x y sort t) = true ∨ TupD (stepR w x y sort t) := by
  unfold stepR
  split
  · split
    · split
      · exact .inr hy
      · exact .inl rfl
    · exact .inl rfl
  · split
    · split
      · split
        · exact .inr hy
        · exact .inl rfl
      · split
        · split
          · exact .inr (tup_rnd hy)
          · exact .inl rfl
        · exact .inl rfl
    · exact .inl rfl
theorem oneStep_tup {al : Bool} {rs : List D} {sort st : D} (hr : ∀ r ∈ rs, TupR r) : isNone (oneStep al rs sort st) = true ∨ TupD (oneStep al rs sort st) := by
  unfold oneStep
  split
  · split
    · rename_i n t h
      have hn : n.toNat < rs.length := by omega
      have hm : rs.getD n.toNat .none ∈ rs := by simp [List.getD, hn]
      obtain ⟨w, x, y, e, hy⟩ := hr _ hm
      rw [e]
      show isNone (if (al && !decide (w = "along")) = true then .none else stepR w x y sort t) = true ∨ TupD (if (al && !decide (w = "along")) = true then .none else stepR w x y sort t)
      split
      · exact .inl rfl
      · exact stepR_tup hy
    · exact .inl rfl
  · exact .inl rfl
theorem walk_tup {al : Bool} {rs : List D} (hr : ∀ r ∈ rs, TupR r) : ∀ (steps : List D) (sort : D), TupD sort → isNone (walk al rs sort steps) = true ∨ TupD (walk al rs sort steps)
  | [], sort, h => .inr h
  | st :: r, sort, h => by
    unfold walk
    split
    · exact .inl rfl
    · rename_i hn
      rcases oneStep_tup (al := al) (sort := sort) (st := st) hr with z | z
      · exact absurd z hn
      · exact walk_tup hr r _ z
/-! out of the types -/
theorem turn_in {N : Nat} {d : D} (i : In N turnT d) : TurnD d := by
  obtain ⟨xs, rfl, x, ys, rfl, ⟨s, rfl, _, _⟩, y, zs, rfl, ⟨k, rfl, _, _⟩, hz⟩ := i
  rw [show zs = [] from hz]
  exact ⟨s, k, rfl⟩
theorem turn_tup {d : D} (h : TurnD d) : TupD d := by
  obtain ⟨s, i, rfl⟩ := h
  exact ⟨_, rfl⟩
theorem sort_in {N : Nat} {d : D} (i : In N sortT d) : FlatD d ∧ TupD d := by
  rcases i with i | i
  · obtain ⟨xs, rfl, x, ys, rfl, ⟨s, rfl, _, _⟩, hz⟩ := i
    rw [show ys = [] from hz]
    exact ⟨⟨rfl, by simp [PyData.depth, PyData.depthAll]⟩, _, rfl⟩
  · have h := turn_in i
    exact ⟨flat_turn h, turn_tup h⟩
theorem rule4_in {N : Nat} {w : Str} {t : T} {d : D} (i : In N (rule4 w t) d) : ∃ x y, d = .tuple [.str w, x, y] ∧ In N t x ∧ In N t y := by
  obtain ⟨xs, rfl, x, ys, rfl, hx, y, zs, rfl, h1, z, us, rfl, h2, hz⟩ := i
  rw [show us = [] from hz, show x = .str w from hx]
  exact ⟨_, _, rfl, h1, h2⟩
theorem rule_in {N : Nat} {d : D} (i : In N ruleT d) : GoodR d ∧ TupR d := by
  have key : ∀ (w : Str) (x y : D), (FlatD x ∧ TupD x) → (FlatD y ∧ TupD y) → (w = "along" → TurnD x ∧ TurnD y) → GoodR (.tuple [.str w, x, y]) ∧ TupR (.tuple [.str w, x, y]) := fun w x y hx hy hw => ⟨⟨w, x, y, rfl, hx.1, hy.1, hw⟩, w, x, y, rfl, hy.2⟩
  have n1 : ¬ (("within" : Str) = "along") := by decide +kernel
  have n2 : ¬ (("apart" : Str) = "along") := by decide +kernel
  have n3 : ¬ (("away" : Str) = "along") := by decide +kernel
  rcases i with (i | i) | (i | i)
  · obtain ⟨x, y, rfl, h1, h2⟩ := rule4_in i
    exact key _ _ _ (sort_in h1) (sort_in h2) fun z => absurd z n1
  · obtain ⟨x, y, rfl, h1, h2⟩ := rule4_in i
    exact key _ _ _ ⟨flat_turn (turn_in h1), turn_tup (turn_in h1)⟩ ⟨flat_turn (turn_in h2), turn_tup (turn_in h2)⟩ fun _ => ⟨turn_in h1, turn_in h2⟩
  · obtain ⟨x, y, rfl, h1, h2⟩ := rule4_in i
    exact key _ _ _ (sort_in h1) (sort_in h2) fun z => absurd z n2
  · obtain ⟨x, y, rfl, h1, h2⟩ := rule4_in i
    exact key _ _ _ ⟨flat_turn (turn_in h1), turn_tup (turn_in h1)⟩ ⟨flat_turn (turn_in h2), turn_tup (turn_in h2)⟩ fun z => absurd z n3
theorem step_in {N m : Nat} (hm : m ≤ 7) {st : D} (h : StepD m st) : In N stepT st := by
  obtain ⟨n, t, rfl, hn, ht⟩ := h
  exact ⟨_, rfl, _, _, rfl, ⟨_, rfl, by omega, by omega⟩, _, _, rfl, ⟨_, rfl, by omega, by omega⟩, rfl⟩
theorem legs_in {N : Nat} : ∀ (n : Nat) {steps : List D}, steps.length ≤ n → (∀ st ∈ steps, In N stepT st) → In N (legsT n) (.tuple steps)
  | 0, steps, h, _ => ⟨steps, rfl, List.length_eq_zero_iff.mp (by omega)⟩
  | n + 1, steps, h, i => by
    by_cases h2 : steps.length ≤ n
    · exact .inl (legs_in n h2 i)
    · exact .inr ⟨steps, rfl, repT_ok (by omega) i⟩
theorem cLR : repB (legsT 5) = true := by kernel_rfl
/-! the checks of any program of that kind -/
theorem env15 {ρ : Ev} (h : ρ.length = 15) : ∃ a0 a1 a2 a3 a4 a5 a6 a7 a8 a9 a10 a11 a12 a13 a14, ρ = [a0, a1, a2, a3, a4, a5, a6, a7, a8, a9, a10, a11, a12, a13, a14] := by
  match ρ, h with
  | [a0, a1, a2, a3, a4, a5, a6, a7, a8, a9, a10, a11, a12, a13, a14], _ => exact ⟨a0, a1, a2, a3, a4, a5, a6, a7, a8, a9, a10, a11, a12, a13, a14, rfl⟩
section
variable {P : Nat → Option Fn} (hP : P = px.P)
include hP
theorem cPP : chkS (aS (acJ P 8 sm0 58).1 (acJ P 8 sm0 58).2 8 false lawP Γ0 0) Γ8 (BN 0) = true := by rw [hP]; exact cP
theorem cSP {j : Nat} (h : j < 3) : chk ((acJ P 8 sm0 58).2 11 (.cons kT3 (.cons rT2 .nil)) (BN j)) sortT (BN j + 10) = true := by rw [hP]; exact List.all_eq_true.mp cS j (List.mem_range.mpr h)
theorem cS2P {j : Nat} (h : j < 3) : chk ((acJ P 8 sm0 58).2 11 (.cons kT3 (.cons rT2 .nil)) (BN j + 16)) sortT (BN j + 30) = true := by rw [hP]; exact List.all_eq_true.mp cS2 j (List.mem_range.mpr h)
theorem cTP {j : Nat} (h : j < 4) : chk ((acJ P 8 sm0 58).2 10 (.cons rT2 .nil) (BN j + 300)) turnT (BN j + 310) = true := by rw [hP]; exact List.all_eq_true.mp cT j (List.mem_range.mpr h)
theorem cBP {j : Nat} (h : j < 3) : chkR ((acJ P 8 sm0 58).2 19 (.cons (legsT 5) (.cons (.int 0 2) .nil)) (BN j + 30)) (BN j + 300) = true := by rw [hP]; exact List.all_eq_true.mp cB j (List.mem_range.mpr h)
theorem cB2P {j : Nat} (h : j < 3) : chkR ((acJ P 8 sm0 58).2 19 (.cons (legsT 5) (.cons (.int 0 2) .nil)) (BN j + 316)) (BN j + 600) = true := by rw [hP]; exact List.all_eq_true.mp cB2 j (List.mem_range.mpr h)
theorem smOk : SmOk P 8 sm0 := ⟨fun j N dk many h hN h0 h1 => takeR hP (j + 1) h hN many h0 h1, fun f m g e => by cases e⟩
end
end LX
set_option Elab.async false
set_option linter.all false
set_option maxRecDepth 100000
set_option maxHeartbeats 4000000
namespace LX
open PySem BV
structure Ctx (rs : List D) (kk rr : D) : Prop where
  good : ∀ r ∈ rs, GoodR r
  tupl : ∀ r ∈ rs, TupR r
  len : rs.length ≤ 7
  k : ∀ N, In N kT3 kk
  r : ∀ N, In N rT2 rr
theorem hL15 {N : Nat} {d : D} (h : DkN N d) : ∀ (a0 a2 a3 a4 a5 a6 a7 a8 a9 a10 a11 a12 a13 a14 : Option D), hasL [a0, some d, a2, a3, a4, a5, a6, a7, a8, a9, a10, a11, a12, a13, a14] 1 = true := by
  obtain ⟨ys, ey⟩ := h.isL
  subst ey
  exact fun _ _ _ _ _ _ _ _ _ _ _ _ _ _ => rfl
abbrev R60 (P : Nat → Option Fn) : IS → Ev → SOut := evS (runB P 60).1 (runB P 60).2 .none
section
variable {P : Nat → Option Fn} (hP : P = px.P)
include hP
theorem bend_or {j : Nat} (b bent : Bool) {p q : Nat} (hc : chkR ((acJ P 8 sm0 58).2 19 (.cons (legsT 5) (.cons (.int 0 2) .nil)) p) q = true) (hpq : p ≤ q) {d : D} (hd : DkN p d) {steps : List D} (hs : ∀ N, In N (legsT 5) (.tuple steps)) {deep : Int} (h0 : 0 ≤ deep) (h2 : deep ≤ 2) (a0 a3 a5 a6 a7 a8 a9 a10 a12 a14 : Option D) :
    ∃ d' legs, R60 P bendS [a0, some d, some (.bool bent), a3, some (.int deep), a5, a6, a7, a8, a9, a10, some (.tuple steps), a12, some (.tuple steps), a14] = .next [a0, some d', some (.bool bent), a3, some (.int deep), a5, a6, a7, a8, a9, a10, some (.tuple steps), a12, some legs, a14] ∧ DkN q d' ∧ ∃ s : Str, opBlt .repr [legs] = some (.str s) := by
  cases bent with
  | false =>
    refine ⟨d, .tuple steps, ?_, hd.mono hpq, _, repr_ok cLR (hs 0)⟩
    simp -implicitDefEqProofs only [R60, bendS, g15_0, z15_0, g15_1, z15_1, g15_2, z15_2, g15_3, z15_3, g15_4, z15_4, g15_5, z15_5, g15_6, z15_6, g15_7, z15_7, g15_8, z15_8, g15_9, z15_9, g15_10, z15_10, g15_11, z15_11, g15_12, z15_12, g15_13, z15_13, g15_14, z15_14, evS, evE, evA, evAnd, evOr, evH, Option.map_some, Out.bind_ok, Out.lift_some, Out.toS_ok, SOut.thn_next, SOut.thn_ret, tru_b, backC_ret, if_true, Bool.false_eq_true, if_false, Bool.not_true, Bool.not_false]
  | true =>
    obtain ⟨legs, d', e, hr, hd'⟩ := io_repr (smOk hP) hc hd (ds := [.tuple steps, .int deep]) ⟨_, _, rfl, hs _, _, _, rfl, ⟨_, rfl, h0, h2⟩, rfl⟩
    have e' : (runB P 60).1 19 [d, .tuple steps, .int deep] = .ret legs d' := e
    refine ⟨d', legs, ?_, hd', hr⟩
    simp -implicitDefEqProofs only [R60, bendS, g15_0, z15_0, g15_1, z15_1, g15_2, z15_2, g15_3, z15_3, g15_4, z15_4, g15_5, z15_5, g15_6, z15_6, g15_7, z15_7, g15_8, z15_8, g15_9, z15_9, g15_10, z15_10, g15_11, z15_11, g15_12, z15_12, g15_13, z15_13, g15_14, z15_14, hL15 hd, e', backD, evS, evE, evA, evAnd, evOr, evH, Option.map_some, Out.bind_ok, Out.lift_some, Out.toS_ok, SOut.thn_next, SOut.thn_ret, tru_b, backC_ret, if_true, Bool.false_eq_true, if_false, Bool.not_true, Bool.not_false]
theorem part1 {rs : List D} {kk rr : D} (C : Ctx rs kk rr) {j : Nat} (hj : j < 3) {d : D} (hd : DkN (BN j) d) (bent x y : Bool) {deep : Int} (h0 : 0 ≤ deep) (h2 : deep ≤ 2) (a0 a5 a9 a10 a11 a12 a13 a14 : Option D) :
    ∃ d' b10 b11 b12 b13, R60 P lawI1 [a0, some d, some (.bool bent), some (.list [.bool x, .bool y]), some (.int deep), a5, some kk, some rr, some (.tuple rs), a9, a10, a11, a12, a13, a14] = .next [a0, some d', some (.bool bent), some (.list [.bool x, .bool y]), some (.int deep), a5, some kk, some rr, some (.tuple rs), a9, b10, b11, b12, b13, a14] ∧ DkN (BN j + 300) d' := by
  obtain ⟨sort, d1, e1, i1, hd1⟩ := io_spec (smOk hP) (cSP hP hj) hd (ds := [kk, rr]) ⟨_, _, rfl, C.k _, _, _, rfl, C.r _, rfl⟩
  have e1' : (runB P 60).1 11 [d, kk, rr] = .ret sort d1 := e1
  obtain ⟨fs, ts⟩ := sort_in i1
  have hz : isNone sort = false := by obtain ⟨ys, rfl⟩ := ts; rfl
  have hB : BN j + 400 ≤ 100000 := by unfold BN; omega
  obtain ⟨d2, steps, e2, hd2, hst, hsl, hwn, hwf⟩ := legs_run hP 57 C.good (by have := C.len; omega) fs hz false hd1 (by omega)
  have e2' : (runB P 60).1 20 [d1, .tuple rs, sort, .bool false] = .ret (.tuple steps) d2 := e2
  have e3 : (runB P 60).1 17 [.tuple rs, sort, .tuple steps, .bool false] = .ret (walk false rs sort steps) .none := end_run hP 57 C.good fs (.tuple steps) false
  have hlegs : ∀ N, In N (legsT 5) (.tuple steps) := fun N => legs_in 5 hsl fun st h => step_in C.len (hst st h)
  have i3 : opIdx (.list [.bool x, .bool y]) (.int 0) = some (.bool x) := rfl
  -- the other sort
  obtain ⟨d3, other, e4, hd3, fo⟩ : ∃ d3 other, R60 P astrS [a0, some d2, some (.bool bent), some (.list [.bool x, .bool y]), some (.int deep), a5, some kk, some rr, some (.tuple rs), a9, some sort, some (.tuple steps), some (walk false rs sort steps), a13, a14] = .next [a0, some d3, some (.bool bent), some (.list [.bool x, .bool y]), some (.int deep), a5, some kk, some rr, some (.tuple rs), a9, some sort, some (.tuple steps), some other, a13, a14] ∧ DkN (BN j + 30) d3 ∧ FlatD other := by
    cases x with
    | false =>
      refine ⟨d2, _, ?_, hd2.mono (by omega), hwf⟩
      simp -implicitDefEqProofs only [R60, astrS, g15_0, z15_0, g15_1, z15_1, g15_2, z15_2, g15_3, z15_3, g15_4, z15_4, g15_5, z15_5, g15_6, z15_6, g15_7, z15_7, g15_8, z15_8, g15_9, z15_9, g15_10, z15_10, g15_11, z15_11, g15_12, z15_12, g15_13, z15_13, g15_14, z15_14, i3, evS, evE, evA, evAnd, evOr, evH, Option.map_some, Out.bind_ok, Out.lift_some, Out.toS_ok, SOut.thn_next, SOut.thn_ret, tru_b, backC_ret, if_true, Bool.false_eq_true, if_false, Bool.not_true, Bool.not_false]
    | true =>
      obtain ⟨o, d3, e4, i4, hd3⟩ := io_spec (smOk hP) (cS2P hP hj) (hd2.mono (by omega)) (ds := [kk, rr]) ⟨_, _, rfl, C.k _, _, _, rfl, C.r _, rfl⟩
      have e4' : (runB P 60).1 11 [d2, kk, rr] = .ret o d3 := e4
      refine ⟨d3, o, ?_, hd3, (sort_in i4).1⟩
      simp -implicitDefEqProofs only [R60, astrS, g15_0, z15_0, g15_1, z15_1, g15_2, z15_2, g15_3, z15_3, g15_4, z15_4, g15_5, z15_5, g15_6, z15_6, g15_7, z15_7, g15_8, z15_8, g15_9, z15_9, g15_10, z15_10, g15_11, z15_11, g15_12, z15_12, g15_13, z15_13, g15_14, z15_14, i3, hL15 hd2, e4', backD, evS, evE, evA, evAnd, evOr, evH, Option.map_some, Out.bind_ok, Out.lift_some, Out.toS_ok, SOut.thn_next, SOut.thn_ret, tru_b, backC_ret, if_true, Bool.false_eq_true, if_false, Bool.not_true, Bool.not_false]
  obtain ⟨d4, legs, e5, hd4, s, hrep⟩ := bend_or hP (j := j) false bent (cBP hP hj) (by omega) hd3 hlegs h0 h2 a0 (some (.list [.bool x, .bool y])) a5 (some kk) (some rr) (some (.tuple rs)) a9 (some sort) (some other) a14
  have e6 : (runB P 60).1 22 [.tuple rs, sort, other, legs] = .ret (.bool true) .none := alike_run hP 55 C.good fs fo hrep
  have e7 : (runB P 60).1 22 [.tuple rs, sort, other, .tuple steps] = .ret (.bool true) .none := alike_run hP 55 C.good fs fo (repr_ok cLR (hlegs 0))
  refine ⟨d4, some sort, some (.tuple steps), some other, some legs, ?_, hd4⟩
  have q1 : R60 P (.set 10 (.calld 11 1 (.econs (.var 6) (.econs (.var 7) .enil)))) [a0, some d, some (.bool bent), some (.list [.bool x, .bool y]), some (.int deep), a5, some kk, some rr, some (.tuple rs), a9, a10, a11, a12, a13, a14] = .next [a0, some d1, some (.bool bent), some (.list [.bool x, .bool y]), some (.int deep), a5, some kk, some rr, some (.tuple rs), a9, some sort, a11, a12, a13, a14] := by
    simp -implicitDefEqProofs only [R60, g15_0, z15_0, g15_1, z15_1, g15_2, z15_2, g15_3, z15_3, g15_4, z15_4, g15_5, z15_5, g15_6, z15_6, g15_7, z15_7, g15_8, z15_8, g15_9, z15_9, g15_10, z15_10, g15_11, z15_11, g15_12, z15_12, g15_13, z15_13, g15_14, z15_14, hL15 hd, e1', backD, evS, evE, evA, evAnd, evOr, evH, Option.map_some, Out.bind_ok, Out.lift_some, Out.toS_ok, SOut.thn_next, SOut.thn_ret, tru_b, backC_ret, if_true, Bool.false_eq_true, if_false, Bool.not_true, Bool.not_false]
  have q2 : R60 P (.set 11 (.calld 20 1 (.econs (.var 8) (.econs (.var 10) (.econs (.cst (.bool false)) .enil))))) [a0, some d1, some (.bool bent), some (.list [.bool x, .bool y]), some (.int deep), a5, some kk, some rr, some (.tuple rs), a9, some sort, a11, a12, a13, a14] = .next [a0, some d2, some (.bool bent), some (.list [.bool x, .bool y]), some (.int deep), a5, some kk, some rr, some (.tuple rs), a9, some sort, some (.tuple steps), a12, a13, a14] := by
    simp -implicitDefEqProofs only [R60, g15_0, z15_0, g15_1, z15_1, g15_2, z15_2, g15_3, z15_3, g15_4, z15_4, g15_5, z15_5, g15_6, z15_6, g15_7, z15_7, g15_8, z15_8, g15_9, z15_9, g15_10, z15_10, g15_11, z15_11, g15_12, z15_12, g15_13, z15_13, g15_14, z15_14, hL15 hd1, e2', backD, evS, evE, evA, evAnd, evOr, evH, Option.map_some, Out.bind_ok, Out.lift_some, Out.toS_ok, SOut.thn_next, SOut.thn_ret, tru_b, backC_ret, if_true, Bool.false_eq_true, if_false, Bool.not_true, Bool.not_false]
  have q3 : R60 P (.set 12 (.call 17 (.econs (.var 8) (.econs (.var 10) (.econs (.var 11) (.econs (.cst (.bool false)) .enil)))))) [a0, some d2, some (.bool bent), some (.list [.bool x, .bool y]), some (.int deep), a5, some kk, some rr, some (.tuple rs), a9, some sort, some (.tuple steps), a12, a13, a14] = .next [a0, some d2, some (.bool bent), some (.list [.bool x, .bool y]), some (.int deep), a5, some kk, some rr, some (.tuple rs), a9, some sort, some (.tuple steps), some (walk false rs sort steps), a13, a14] := by
    simp -implicitDefEqProofs only [R60, g15_0, z15_0, g15_1, z15_1, g15_2, z15_2, g15_3, z15_3, g15_4, z15_4, g15_5, z15_5, g15_6, z15_6, g15_7, z15_7, g15_8, z15_8, g15_9, z15_9, g15_10, z15_10, g15_11, z15_11, g15_12, z15_12, g15_13, z15_13, g15_14, z15_14, e3, evS, evE, evA, evAnd, evOr, evH, Option.map_some, Out.bind_ok, Out.lift_some, Out.toS_ok, SOut.thn_next, SOut.thn_ret, tru_b, backC_ret, if_true, Bool.false_eq_true, if_false, Bool.not_true, Bool.not_false]
  have q5 : R60 P (.set 13 (.var 11)) [a0, some d3, some (.bool bent), some (.list [.bool x, .bool y]), some (.int deep), a5, some kk, some rr, some (.tuple rs), a9, some sort, some (.tuple steps), some other, a13, a14] = .next [a0, some d3, some (.bool bent), some (.list [.bool x, .bool y]), some (.int deep), a5, some kk, some rr, some (.tuple rs), a9, some sort, some (.tuple steps), some other, some (.tuple steps), a14] := rfl
  have q7 : R60 P (.ifs oneC (.cons (.ret (.cst (.bool false))) .nil) .nil) [a0, some d4, some (.bool bent), some (.list [.bool x, .bool y]), some (.int deep), a5, some kk, some rr, some (.tuple rs), a9, some sort, some (.tuple steps), some other, some legs, a14] = .next [a0, some d4, some (.bool bent), some (.list [.bool x, .bool y]), some (.int deep), a5, some kk, some rr, some (.tuple rs), a9, some sort, some (.tuple steps), some other, some legs, a14] := by
    simp -implicitDefEqProofs only [R60, oneC, g15_0, z15_0, g15_1, z15_1, g15_2, z15_2, g15_3, z15_3, g15_4, z15_4, g15_5, z15_5, g15_6, z15_6, g15_7, z15_7, g15_8, z15_8, g15_9, z15_9, g15_10, z15_10, g15_11, z15_11, g15_12, z15_12, g15_13, z15_13, g15_14, z15_14, e6, e7, evS, evE, evA, evAnd, evOr, evH, Option.map_some, Out.bind_ok, Out.lift_some, Out.toS_ok, SOut.thn_next, SOut.thn_ret, tru_b, backC_ret, if_true, Bool.false_eq_true, if_false, Bool.not_true, Bool.not_false]
  unfold lawI1
  unfold R60 at q1 q2 q3 e4 q5 e5 q7 ⊢
  rw [evS, q1, SOut.thn_next, evS, q2, SOut.thn_next, evS, q3, SOut.thn_next, evS, e4, SOut.thn_next, evS, q5, SOut.thn_next, evS, e5, SOut.thn_next, evS, q7, SOut.thn_next, evS]
theorem part2 {rs : List D} {kk rr : D} (C : Ctx rs kk rr) {j : Nat} (hj : j < 3) {d : D} (hd : DkN (BN j + 300) d) (bent x y : Bool) {deep : Int} (h0 : 0 ≤ deep) (h2 : deep ≤ 2) (a0 a5 a9 a10 a11 a12 a13 a14 : Option D) :
    ∃ d' b10 b11 b12 b13 b14, R60 P lawI2 [a0, some d, some (.bool bent), some (.list [.bool x, .bool y]), some (.int deep), a5, some kk, some rr, some (.tuple rs), a9, a10, a11, a12, a13, a14] = .next [a0, some d', some (.bool bent), some (.list [.bool x, .bool y]), some (.int deep), a5, some kk, some rr, some (.tuple rs), a9, b10, b11, b12, b13, b14] ∧ DkN (BN (j + 1)) d' := by
  obtain ⟨sort, d1, e1, i1, hd1⟩ := io_spec (smOk hP) (cTP hP (show j < 4 by omega)) hd (ds := [rr]) ⟨_, _, rfl, C.r _, rfl⟩
  have e1' : (runB P 60).1 10 [d, rr] = .ret sort d1 := e1
  have tt := turn_in i1
  have fs := flat_turn tt
  have ts := turn_tup tt
  have hz : isNone sort = false := by obtain ⟨ys, rfl⟩ := ts; rfl
  have hB : BN j + 400 ≤ 100000 := by unfold BN; omega
  obtain ⟨d2, steps, e2, hd2, hst, hsl, hwn, hwf⟩ := legs_run hP 57 C.good (by have := C.len; omega) fs hz y hd1 (by omega)
  have e2' : (runB P 60).1 20 [d1, .tuple rs, sort, .bool y] = .ret (.tuple steps) d2 := e2
  have e3 : (runB P 60).1 17 [.tuple rs, sort, .tuple steps, .bool false] = .ret (walk false rs sort steps) .none := end_run hP 57 C.good fs (.tuple steps) false
  have hlegs : ∀ N, In N (legsT 5) (.tuple steps) := fun N => legs_in 5 hsl fun st h => step_in C.len (hst st h)
  have i3 : opIdx (.list [.bool x, .bool y]) (.int 1) = some (.bool y) := rfl
  obtain ⟨other, ho⟩ : ∃ other, other = walk false rs sort steps := ⟨_, rfl⟩
  rw [← ho] at e3 hwn hwf
  obtain ⟨d4, legs, e5, hd4, s, hrep⟩ := bend_or hP (j := j) false bent (cB2P hP hj) (by omega) (hd2.mono (by omega)) hlegs h0 h2 a0 (some (.list [.bool x, .bool y])) a5 (some kk) (some rr) (some (.tuple rs)) a9 (some sort) (some other) a14
  have e6 : ∀ l, (runB P 60).1 23 [.tuple rs, sort, other, l] = .ret (.bool true) .none := fun l => turns_run hP 55 C.good fs hwf l
  obtain ⟨ys, hys⟩ : TupD other := by
    rcases walk_tup (al := false) C.tupl steps sort ts with z | z
    · rw [← ho, hwn] at z; cases z
    · rw [ho]; exact z
  have hln : opBlt .len [other] = some (.int (ys.length : Int)) := by rw [hys]; rfl
  have q1 : R60 P (.set 10 (.calld 10 1 (.econs (.var 7) .enil))) [a0, some d, some (.bool bent), some (.list [.bool x, .bool y]), some (.int deep), a5, some kk, some rr, some (.tuple rs), a9, a10, a11, a12, a13, a14] = .next [a0, some d1, some (.bool bent), some (.list [.bool x, .bool y]), some (.int deep), a5, some kk, some rr, some (.tuple rs), a9, some sort, a11, a12, a13, a14] := by
    simp -implicitDefEqProofs only [R60, g15_0, z15_0, g15_1, z15_1, g15_2, z15_2, g15_3, z15_3, g15_4, z15_4, g15_5, z15_5, g15_6, z15_6, g15_7, z15_7, g15_8, z15_8, g15_9, z15_9, g15_10, z15_10, g15_11, z15_11, g15_12, z15_12, g15_13, z15_13, g15_14, z15_14, hL15 hd, e1', backD, evS, evE, evA, evAnd, evOr, evH, Option.map_some, Out.bind_ok, Out.lift_some, Out.toS_ok, SOut.thn_next, SOut.thn_ret, tru_b, backC_ret, if_true, Bool.false_eq_true, if_false, Bool.not_true, Bool.not_false]
  have q2 : R60 P (.set 11 (.calld 20 1 (.econs (.var 8) (.econs (.var 10) (.econs (.idx (.var 3) (.cst (.int 1))) .enil))))) [a0, some d1, some (.bool bent), some (.list [.bool x, .bool y]), some (.int deep), a5, some kk, some rr, some (.tuple rs), a9, some sort, a11, a12, a13, a14] = .next [a0, some d2, some (.bool bent), some (.list [.bool x, .bool y]), some (.int deep), a5, some kk, some rr, some (.tuple rs), a9, some sort, some (.tuple steps), a12, a13, a14] := by
    simp -implicitDefEqProofs only [R60, g15_0, z15_0, g15_1, z15_1, g15_2, z15_2, g15_3, z15_3, g15_4, z15_4, g15_5, z15_5, g15_6, z15_6, g15_7, z15_7, g15_8, z15_8, g15_9, z15_9, g15_10, z15_10, g15_11, z15_11, g15_12, z15_12, g15_13, z15_13, g15_14, z15_14, i3, hL15 hd1, e2', backD, evS, evE, evA, evAnd, evOr, evH, Option.map_some, Out.bind_ok, Out.lift_some, Out.toS_ok, SOut.thn_next, SOut.thn_ret, tru_b, backC_ret, if_true, Bool.false_eq_true, if_false, Bool.not_true, Bool.not_false]
  have q3 : R60 P (.set 12 (.call 17 (.econs (.var 8) (.econs (.var 10) (.econs (.var 11) (.econs (.cst (.bool false)) .enil)))))) [a0, some d2, some (.bool bent), some (.list [.bool x, .bool y]), some (.int deep), a5, some kk, some rr, some (.tuple rs), a9, some sort, some (.tuple steps), a12, a13, a14] = .next [a0, some d2, some (.bool bent), some (.list [.bool x, .bool y]), some (.int deep), a5, some kk, some rr, some (.tuple rs), a9, some sort, some (.tuple steps), some other, a13, a14] := by
    simp -implicitDefEqProofs only [R60, g15_0, z15_0, g15_1, z15_1, g15_2, z15_2, g15_3, z15_3, g15_4, z15_4, g15_5, z15_5, g15_6, z15_6, g15_7, z15_7, g15_8, z15_8, g15_9, z15_9, g15_10, z15_10, g15_11, z15_11, g15_12, z15_12, g15_13, z15_13, g15_14, z15_14, e3, evS, evE, evA, evAnd, evOr, evH, Option.map_some, Out.bind_ok, Out.lift_some, Out.toS_ok, SOut.thn_next, SOut.thn_ret, tru_b, backC_ret, if_true, Bool.false_eq_true, if_false, Bool.not_true, Bool.not_false]
  have q5 : R60 P (.set 13 (.var 11)) [a0, some d2, some (.bool bent), some (.list [.bool x, .bool y]), some (.int deep), a5, some kk, some rr, some (.tuple rs), a9, some sort, some (.tuple steps), some other, a13, a14] = .next [a0, some d2, some (.bool bent), some (.list [.bool x, .bool y]), some (.int deep), a5, some kk, some rr, some (.tuple rs), a9, some sort, some (.tuple steps), some other, some (.tuple steps), a14] := rfl
  have one : ∀ (l : D) (z : Option D), forT (.s 14) (R60 P turnB) l [a0, some d4, some (.bool bent), some (.list [.bool x, .bool y]), some (.int deep), a5, some kk, some rr, some (.tuple rs), a9, some sort, some (.tuple steps), some other, some legs, z] = .next [a0, some d4, some (.bool bent), some (.list [.bool x, .bool y]), some (.int deep), a5, some kk, some rr, some (.tuple rs), a9, some sort, some (.tuple steps), some other, some legs, some l] := by
    intro l z
    have hb : bindT (.s 14) l [a0, some d4, some (.bool bent), some (.list [.bool x, .bool y]), some (.int deep), a5, some kk, some rr, some (.tuple rs), a9, some sort, some (.tuple steps), some other, some legs, z] = some [a0, some d4, some (.bool bent), some (.list [.bool x, .bool y]), some (.int deep), a5, some kk, some rr, some (.tuple rs), a9, some sort, some (.tuple steps), some other, some legs, some l] := rfl
    unfold forT
    rw [hb, Out.lift_some, Out.toS_ok]
    cases hc : decide ((ys.length : Int) = 2) <;>
    simp -implicitDefEqProofs only [R60, turnB, g15_0, z15_0, g15_1, z15_1, g15_2, z15_2, g15_3, z15_3, g15_4, z15_4, g15_5, z15_5, g15_6, z15_6, g15_7, z15_7, g15_8, z15_8, g15_9, z15_9, g15_10, z15_10, g15_11, z15_11, g15_12, z15_12, g15_13, z15_13, g15_14, z15_14, hln, cmpEq_int, hc, e6, evS, evE, evA, evAnd, evOr, evH, Option.map_some, Out.bind_ok, Out.lift_some, Out.toS_ok, SOut.thn_next, SOut.thn_ret, tru_b, backC_ret, if_true, Bool.false_eq_true, if_false, Bool.not_true, Bool.not_false]
  have hil : ∀ l, items (.list l) = some l := fun _ => rfl
  have q7 : R60 P (.fors (.s 14) (.lst (.econs (.var 13) (.econs (.var 11) .enil))) turnB) [a0, some d4, some (.bool bent), some (.list [.bool x, .bool y]), some (.int deep), a5, some kk, some rr, some (.tuple rs), a9, some sort, some (.tuple steps), some other, some legs, a14] = .next [a0, some d4, some (.bool bent), some (.list [.bool x, .bool y]), some (.int deep), a5, some kk, some rr, some (.tuple rs), a9, some sort, some (.tuple steps), some other, some legs, some (.tuple steps)] := by
    have hw : evW (runB P 60).1 (runB P 60).2 .none (.lst (.econs (.var 13) (.econs (.var 11) .enil))) [a0, some d4, some (.bool bent), some (.list [.bool x, .bool y]), some (.int deep), a5, some kk, some rr, some (.tuple rs), a9, some sort, some (.tuple steps), some other, some legs, a14] = .ok [legs, .tuple steps] [a0, some d4, some (.bool bent), some (.list [.bool x, .bool y]), some (.int deep), a5, some kk, some rr, some (.tuple rs), a9, some sort, some (.tuple steps), some other, some legs, a14] := by
      rw [evW]
      simp -implicitDefEqProofs only [g15_0, z15_0, g15_1, z15_1, g15_2, z15_2, g15_3, z15_3, g15_4, z15_4, g15_5, z15_5, g15_6, z15_6, g15_7, z15_7, g15_8, z15_8, g15_9, z15_9, g15_10, z15_10, g15_11, z15_11, g15_12, z15_12, g15_13, z15_13, g15_14, z15_14, hil, evS, evE, evA, evAnd, evOr, evH, Option.map_some, Out.bind_ok, Out.lift_some, Out.toS_ok, SOut.thn_next, SOut.thn_ret, tru_b, backC_ret, if_true, Bool.false_eq_true, if_false, Bool.not_true, Bool.not_false]
    unfold R60 at one ⊢
    rw [evS, hw, Out.toS_ok, forLoop, one, SOut.thn_next, forLoop, one, SOut.thn_next, forLoop]
  refine ⟨d4, some sort, some (.tuple steps), some other, some legs, some (.tuple steps), ?_, hd4.mono (by unfold BN; omega)⟩
  unfold lawI2
  unfold R60 at q1 q2 q3 q5 e5 q7 ⊢
  rw [evS, q1, SOut.thn_next, evS, q2, SOut.thn_next, evS, q3, SOut.thn_next, evS, q5, SOut.thn_next, evS, e5, SOut.thn_next, evS, q7, SOut.thn_next, evS]
end
end LX
set_option Elab.async false
set_option linter.all false
set_option maxRecDepth 100000
set_option maxHeartbeats 4000000
namespace LX
open PySem BV
theorem bl_in {N : Nat} {d : D} (i : In N .bl d) : ∃ b, d = .bool b := i
theorem eqv_turn {d : D} (h : TurnD d) : PyData.eqv d d = true := by
  obtain ⟨s, i, rfl⟩ := h
  simp [PyData.eqv, PyData.eqvAll]
theorem Γ8_out {ρ : Ev} (g : InG (BN 0) Γ8 ρ) : ∃ a0 d bent x y deep a5 kk rr rs a9 a10 a11 a12 a13 a14, ρ = [a0, some d, some (.bool bent), some (.list [.bool x, .bool y]), some (.int deep), a5, some kk, some rr, some (.tuple rs), a9, a10, a11, a12, a13, a14] ∧ DkN (BN 0) d ∧ 0 ≤ deep ∧ deep ≤ 2 ∧ Ctx rs kk rr := by
  obtain ⟨a0, a1, a2, a3, a4, a5, a6, a7, a8, a9, a10, a11, a12, a13, a14, rfl⟩ := env15 g.len
  obtain ⟨d, e1, i1⟩ := g.at_ 1 .dk rfl
  obtain ⟨v2, e2, i2⟩ := g.at_ 2 .bl rfl
  obtain ⟨v3, e3, i3⟩ := g.at_ 3 (.lst (.cons .bl (.cons .bl .nil))) rfl
  obtain ⟨v4, e4, i4⟩ := g.at_ 4 (.int 0 2) rfl
  obtain ⟨kk, e6, i6⟩ := g.at_ 6 kT3 rfl
  obtain ⟨rr, e7, i7⟩ := g.at_ 7 rT2 rfl
  obtain ⟨v8, e8, i8⟩ := g.at_ 8 (.seq false 0 7 ruleT) rfl
  cases (show a1 = some d from e1)
  cases (show a2 = some v2 from e2)
  cases (show a3 = some v3 from e3)
  cases (show a4 = some v4 from e4)
  cases (show a6 = some kk from e6)
  cases (show a7 = some rr from e7)
  cases (show a8 = some v8 from e8)
  obtain ⟨bent, rfl⟩ := bl_in i2
  obtain ⟨xs, rfl, u, us, rfl, hu, w, ws, rfl, hw, hz⟩ := i3
  rw [show ws = [] from hz]
  obtain ⟨x, rfl⟩ := bl_in hu
  obtain ⟨y, rfl⟩ := bl_in hw
  obtain ⟨deep, rfl, h0, h2⟩ := i4
  obtain ⟨rs, rfl, _, hl, hr⟩ := i8
  exact ⟨a0, d, bent, x, y, deep, a5, kk, rr, rs, a9, a10, a11, a12, a13, a14, rfl, i1, h0, h2, fun r h => (rule_in (hr r h)).1, fun r h => (rule_in (hr r h)).2, hl, fun N => by
    obtain ⟨xs, e, h1, h2, h3⟩ := i6
    exact ⟨xs, e, h1, h2, h3⟩, fun N => by
    obtain ⟨xs, e, h1, h2, h3⟩ := i7
    exact ⟨xs, e, h1, h2, h3⟩⟩
section
variable {P : Nat → Option Fn} (hP : P = px.P)
include hP
theorem loop3 {rs : List D} {kk rr : D} (C : Ctx rs kk rr) {d : D} (hd : DkN (BN 0) d) (bent x y : Bool) {deep : Int} (h0 : 0 ≤ deep) (h2 : deep ≤ 2) (a0 a5 a9 a10 a11 a12 a13 a14 : Option D) :
    ∃ d' b9 b10 b11 b12 b13 b14, forLoop (forT (.s 9) (R60 P (appS lawI1 lawI2))) [.int 0, .int 1, .int 2] [a0, some d, some (.bool bent), some (.list [.bool x, .bool y]), some (.int deep), a5, some kk, some rr, some (.tuple rs), a9, a10, a11, a12, a13, a14] = .next [a0, some d', some (.bool bent), some (.list [.bool x, .bool y]), some (.int deep), a5, some kk, some rr, some (.tuple rs), b9, b10, b11, b12, b13, b14] ∧ DkN (BN 3) d' := by
  obtain ⟨ρ', el, d', b9, b10, b11, b12, b13, b14, rfl, h'⟩ := forLoop_inv (f := forT (.s 9) (R60 P (appS lawI1 lawI2))) (fun j ρ => ∃ d' a9 a10 a11 a12 a13 a14, ρ = [a0, some d', some (.bool bent), some (.list [.bool x, .bool y]), some (.int deep), a5, some kk, some rr, some (.tuple rs), a9, a10, a11, a12, a13, a14] ∧ DkN (BN j) d') [.int 0, .int 1, .int 2] 0 [a0, some d, some (.bool bent), some (.list [.bool x, .bool y]), some (.int deep), a5, some kk, some rr, some (.tuple rs), a9, a10, a11, a12, a13, a14] ⟨d, _, _, _, _, _, _, rfl, hd⟩ (by
    rintro i z ρ hi ⟨d1, a9, a10, a11, a12, a13, a14, rfl, h1⟩
    have hil : i < 3 := (List.getElem?_eq_some_iff.mp hi).1
    rw [Nat.zero_add] at h1
    obtain ⟨d2, c10, c11, c12, c13, q1, h3⟩ := part1 hP C hil h1 bent x y h0 h2 a0 a5 (some z) a10 a11 a12 a13 a14
    obtain ⟨d3, f10, f11, f12, f13, f14, q2, h4⟩ := part2 hP C hil h3 bent x y h0 h2 a0 a5 (some z) c10 c11 c12 c13 a14
    refine ⟨_, ?_, d3, some z, f10, f11, f12, f13, f14, rfl, by rw [Nat.zero_add]; exact h4⟩
    have hb : bindT (.s 9) z [a0, some d1, some (.bool bent), some (.list [.bool x, .bool y]), some (.int deep), a5, some kk, some rr, some (.tuple rs), a9, a10, a11, a12, a13, a14] = some [a0, some d1, some (.bool bent), some (.list [.bool x, .bool y]), some (.int deep), a5, some kk, some rr, some (.tuple rs), some z, a10, a11, a12, a13, a14] := rfl
    unfold forT
    rw [hb, Out.lift_some, Out.toS_ok]
    unfold R60 at q1 q2 ⊢
    rw [evS_app _ _ rfl, q1, SOut.thn_next, q2])
  exact ⟨d', b9, b10, b11, b12, b13, b14, el, h'⟩
theorem law_end_run {rs : List D} {kk rr : D} (C : Ctx rs kk rr) {d : D} (hd : DkN (BN 3) d) (a0 a2 a3 a4 a5 a9 a10 a11 a12 a13 a14 : Option D) :
    ∃ ρ, R60 P (.cons (.set 10 (.calld 10 1 (.econs (.var 7) .enil))) (.cons (.ret (.and (.econs (.call 21 (.econs (.call 4 (.econs (.var 8) (.econs (.var 10) (.econs (.var 10) (.econs (.tup .enil) .enil))))) (.econs (.cst (.bool true)) .enil))) (.econs (.call 21 (.econs (.call 6 (.econs (.var 8) (.econs (.var 10) (.econs (.var 10) (.econs (.tup .enil) .enil))))) (.econs (.cst (.bool true)) .enil))) .enil)))) .nil)) [a0, some d, a2, a3, a4, a5, some kk, some rr, some (.tuple rs), a9, a10, a11, a12, a13, a14] = .ret (.bool true) ρ := by
  obtain ⟨sort, d1, e1, i1, hd1⟩ := io_spec (smOk hP) (cTP hP (show 3 < 4 by omega)) (hd.mono (show BN 3 ≤ BN 3 + 300 by omega)) (ds := [rr]) ⟨_, _, rfl, C.r _, rfl⟩
  have e1' : (runB P 60).1 10 [d, rr] = .ret sort d1 := e1
  have tt := turn_in i1
  have fs := flat_turn tt
  have w1 : (runB P 60).1 4 [.tuple rs, sort, sort, .tuple []] = .ret (.bool true) .none := by
    have h : run P 60 4 [.tuple rs, sort, sort, .tuple []] = .ret (.bool (PyData.eqv sort sort)) .none := is_way_run hP 56 C.good fs fs (.tuple [])
    rw [eqv_turn tt] at h
    exact h
  have w2 : (runB P 60).1 6 [.tuple rs, sort, sort, .tuple []] = .ret (.bool true) .none := by
    have h : run P 60 6 [.tuple rs, sort, sort, .tuple []] = .ret (.bool (PyData.eqv sort sort)) .none := is_turn_way_run hP 56 C.good fs fs (.tuple [])
    rw [eqv_turn tt] at h
    exact h
  have w3 : (runB P 60).1 21 [.bool true, .bool true] = .ret (.bool true) .none := held_run hP 59 true true
  refine ⟨[a0, some d1, a2, a3, a4, a5, some kk, some rr, some (.tuple rs), a9, some sort, a11, a12, a13, a14], ?_⟩
  simp -implicitDefEqProofs only [R60, g15_0, z15_0, g15_1, z15_1, g15_2, z15_2, g15_3, z15_3, g15_4, z15_4, g15_5, z15_5, g15_6, z15_6, g15_7, z15_7, g15_8, z15_8, g15_9, z15_9, g15_10, z15_10, g15_11, z15_11, g15_12, z15_12, g15_13, z15_13, g15_14, z15_14, hL15 hd, e1', backD, w1, w2, w3, evS, evE, evA, evAnd, evOr, evH, Option.map_some, Out.bind_ok, Out.lift_some, Out.toS_ok, SOut.thn_next, SOut.thn_ret, tru_b, backC_ret, if_true, Bool.false_eq_true, if_false, Bool.not_true, Bool.not_false]
theorem law_run (ns : List Int) (hl : ns.length ≤ 63) : ∃ o, run P 61 24 [.list (ns.map .int)] = .ret (.bool true) o := by
  rw [run_ret (fn := x_law.fn) (by rw [hP]; rfl) rfl rfl]
  show ∃ o, (x_law.fn).endS (R60 P b_law [some (.list (ns.map .int)), none, none, none, none, none, none, none, none, none, none, none, none, none, none]) = _
  rw [b_law_eq]
  obtain ⟨d, e, hd⟩ := deck2_run (P := P) (f := 7) (by rw [hP]; rfl) 59 ns hl
  have e' : (runB P 60).1 7 [.list (ns.map .int)] = .ret d .none := e
  have s1 : R60 P (.deck 1 7 (.var 0)) [some (.list (ns.map .int)), none, none, none, none, none, none, none, none, none, none, none, none, none, none] = .next [some (.list (ns.map .int)), some d, none, none, none, none, none, none, none, none, none, none, none, none, none] := by
    simp -implicitDefEqProofs only [R60, g15_0, z15_0, g15_1, z15_1, g15_2, z15_2, g15_3, z15_3, g15_4, z15_4, g15_5, z15_5, g15_6, z15_6, g15_7, z15_7, g15_8, z15_8, g15_9, z15_9, g15_10, z15_10, g15_11, z15_11, g15_12, z15_12, g15_13, z15_13, g15_14, z15_14, e', deckD, evS, evE, evA, evAnd, evOr, evH, Option.map_some, Out.bind_ok, Out.lift_some, Out.toS_ok, SOut.thn_next, SOut.thn_ret, tru_b, backC_ret, if_true, Bool.false_eq_true, if_false, Bool.not_true, Bool.not_false]
  have g0 : InG 0 Γ0 [some (.list (ns.map .int)), some d, none, none, none, none, none, none, none, none, none, none, none, none, none] := ⟨rfl, fun i t h => by
    match i with
    | 0 => cases h
    | 1 => cases h; exact ⟨d, rfl, hd⟩
    | i + 2 =>
      exfalso
      have : gT Γ0 (i + 2) = none := by
        unfold gT Γ0
        rcases i with _ | _ | _ | _ | _ | _ | _ | _ | _ | _ | _ | _ | _ | i <;> rfl
      rw [this] at h
      cases h⟩
  obtain ⟨ρ8, e8, g8⟩ := st_spec (smOk hP) (hcall := (runB P 60).2) (cur := .none) (cPP hP) g0
  have e8 : R60 P lawP [some (.list (ns.map .int)), some d, none, none, none, none, none, none, none, none, none, none, none, none, none] = .next ρ8 := e8
  obtain ⟨a0, d8, bent, x, y, deep, a5, kk, rr, rs, a9, a10, a11, a12, a13, a14, rfl, hd8, h0, h2, C⟩ := Γ8_out g8
  obtain ⟨d9, b9, b10, b11, b12, b13, b14, el, hd9⟩ := loop3 hP C hd8 bent x y h0 h2 a0 a5 a9 a10 a11 a12 a13 a14
  obtain ⟨ρ9, er⟩ := law_end_run hP C hd9 a0 (some (.bool bent)) (some (.list [.bool x, .bool y])) (some (.int deep)) a5 b9 b10 b11 b12 b13 b14
  have hw : evW (runB P 60).1 (runB P 60).2 .none (.rng (.econs (.cst (.int 3)) .enil)) [a0, some d8, some (.bool bent), some (.list [.bool x, .bool y]), some (.int deep), a5, some kk, some rr, some (.tuple rs), a9, a10, a11, a12, a13, a14] = .ok [.int 0, .int 1, .int 2] [a0, some d8, some (.bool bent), some (.list [.bool x, .bool y]), some (.int deep), a5, some kk, some rr, some (.tuple rs), a9, a10, a11, a12, a13, a14] := rfl
  refine ⟨.none, ?_⟩
  unfold R60 at s1 e8 el er ⊢
  rw [evS, s1, SOut.thn_next, evS_app _ _ rfl, e8, SOut.thn_next]
  unfold lawQ
  rw [evS, evS, hw, Out.toS_ok, el, SOut.thn_next, er]
  rfl
end
theorem plain : ∀ ns : List Int, ns.length ≤ 63 → Small ns → ∃ o, run px.P 61 24 [.list (ns.map .int)] = .ret (.bool true) o := fun ns h _ => law_run rfl ns h
end LX
set_option Elab.async false
set_option linter.all false
set_option maxRecDepth 100000
set_option maxHeartbeats 0
namespace LX
open PySem PySem.Spec L2 BV
open PyProof.Rows hiding St
theorem bindL (K : PySem.W.Frag) (f : Addr) (fd : FuncData) (F : FunD K x_law.d.name x_law.d.qual x_law.d.params x_law.d.body x_law.d.scope [] [] f fd) (s : Shared) (u : Value) : BindsTo s fd ⟨[u], []⟩ [("script", u)] := FunD.bindsA (ps := ["script"]) F (fun kV doc pm an cdv ct us hl => bd_law kV doc pm an cdv ct us hl) s [u] rfl
end LX
open PySem PySem.W PySem.Calls PyProof.Rows
theorem PySem.Challenge.cw_ledquestions_k06_ways_held_holds : PySem.Challenge.rw_ledquestions_k06_ways_held.Holds := by
  w_on; o_law
  refine HandSHeadRun.head_any (r := OpenLaw.row PySem.Challenge.rw_ledquestions_k06_ways_held) (q := view (OpenLaw.row PySem.Challenge.rw_ledquestions_k06_ways_held).prog [27]) (H := LX.hk) (ob := LX.ob) (M := 20000) (loose := LX.loose)
    (d := HandSHeadRun.topDef (OpenLaw.row PySem.Challenge.rw_ledquestions_k06_ways_held).prog 27) (kwd := []) LX.ob_eq (by kernel_rfl) (fun s => by kernel_rfl) LX.run0 (by kernel_rfl) (by kernel_rfl) (by kernel_rfl) (by rfl) (by first | assumption | decide +kernel) (by decide +kernel)
    ⟨rfl, rfl, rfl, rfl, rfl, by decide +kernel⟩ ?hw ?hc
  case hw => w_witness2
  case hc =>
    refine BV.law_walk (l := PySem.Challenge.rw_ledquestions_k06_ways_held) (n := 63) (k := 61) (i := 24) (p := LX.px) (dx := LX.x_law) (x := "script") rfl (by decide) (by kernel_rfl) ⟨⟨rfl, by decide, by decide⟩, rfl⟩ rfl (by kernel_rfl) rfl (by kernel_rfl) rfl rfl rfl rfl (by decide) ?facts LX.bindL LX.plain
    intro w mg h Y G
    obtain ⟨K, KX, c, ck⟩ := Y
    exact ⟨K, KX, BV.facts_of KX G c ck LX.defsOk LX.okAll LX.bdAll⟩
