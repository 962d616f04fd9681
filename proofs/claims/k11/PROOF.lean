import PyProof.Rows.All
import Wide.All
import OpenK.AllK
import Wide.FinOn
import HandS.ForMost
import HandS.Exc
import HandS.TryOnly
import HandS.ExcOwn
import HandS.WordsExc
import HandS.Defaults
import HandS.MakeKw
import HandS.MakeKwOnly
import HandS.Property
import HandS.FStr
import HandS.IsInst
import HandS.HeadEnd
import HandS.HeadHook1
import HandS.HeadHook2
import HandS.Wide
import HandS.Deep
import HandS.HeadWalk
import HandS.Text
import HandS.Iter
import OpenK.KOps
import OpenK.KWalk
import PyProof.InstEq
import HandS.Comp
import HandS.Style
import HandS.Star
import HandS.Head0
import HandS.Head1
import HandS.Head2
import PySem.Challenge.RW_sheetsums_k11_rows_that_are_held
section
set_option Elab.async false
set_option linter.all false
set_option maxRecDepth 100000
namespace Mp
open PySem

/-! ### the small language: values, store, forms -/
inductive Val where
  | non | bl (b : Bool) | int (i : Int) | str (x : Str)
  | tup (xs : List Val) | lst (xs : List Val)
  | ins (c : Str) (ns : List Str) (vs : List Val)
  | scr (ns : List Int)
  | ref (i : Nat)

inductive SO where
  | lst (xs : List Val)
  | ins (c : Str) (ns : List Str) (vs : List Val)
abbrev Store := List SO
abbrev Env := List (Option Val)

inductive Bop where | add | sub | mul | fdiv | mod | pow
  deriving DecidableEq
inductive Cop where | eq | ne | lt | le | gt | ge | isn | notn | inn | notin
  deriving DecidableEq
/-- how a call's result is taken: as it is; frozen, the store as it was; a new list over frozen items -/
inductive Mode where | raw | pure | fresh | back
  deriving DecidableEq
inductive SrcK where | seq | range1 | range2 | range3 | enum | zip
  deriving DecidableEq
inductive MT where
  | v (i : Nat)
  | t (ts : List MT)
/-- where a parameter's value comes from: a positional argument, a keyword's, a default -/
inductive Src where
  | pos (i : Nat)
  | kw (i : Nat)
  | dfl (j : Nat) (v : Val)
  | rest (i : Nat)

inductive ME where
  | var (i : Nat)
  | non | bl (b : Bool) | int (i : Int) | str (x : Str)
  | glob (x : Str)
  | bin (op : Bop) (a b : ME)
  | neg (a : ME)
  | cmp (op : Cop) (a b : ME)
  | chain (o1 o2 : Cop) (a b c : ME)
  | and (es : List ME)
  | or (es : List ME)
  | not (a : ME)
  | ite (c a b : ME)
  | tup (es : List ME)
  | lst (mu : Bool) (es : List ME)
  | ix (a b : ME)
  | slc (a : ME) (lo hi : List ME)
  | attr (a : ME) (f : Str)
  | call (m : Mode) (f : Str) (es : List ME) (kn : List Str) (ks : List ME)
  | make (m : Mode) (c : Str) (es : List ME) (kn : List Str) (ks : List ME)
  | meth (m : Mode) (a : ME) (f : Str) (es : List ME)
  | bcall (f : String) (es : List ME)
  | bmeth (f : String) (a : ME) (es : List ME)
  | isin (a : ME) (ts : List Str)
  | comp (mu : Bool) (elt : ME) (tg : MT) (k : SrcK) (es : List ME) (ifs : List ME)
  | fstr (es : List ME)
  | own1 (len : Bool) (a : ME)
  | own2 (ne : Bool) (a b : ME)
  | lcopy (a : ME)

inductive MS where
  | expr (e : ME)
  | set (t : MT) (e : ME)
  | setc (i : Nat) (e : ME)
  | sett (t : MT) (e : ME)
  | par (i j : Nat) (a b : ME)
  | par3 (i j l : Nat) (es : List ME)
  | fld (o : ME) (f : Str) (e : ME)
  | fldaug (o : ME) (f : Str) (op : Bop) (e : ME)
  | sub (o i e : ME)
  | aug (i : Nat) (op : Bop) (e : ME)
  | ret (e : ME)
  | retN
  | ite (c : ME) (a b : List MS)
  | for_ (t : MT) (k : SrcK) (es : List ME) (body : List MS)
  | while_ (c : ME) (body : List MS)
  | pass | brk | cont
  | never

structure MFun where
  np : Nat
  ns : Nat
  body : List MS

/-- a program: functions by their qualified names, constants of the module, of classes; methods, properties -/
structure Prog where
  fn : Str → Option MFun
  glob : Str → Option Val
  meth : Str → Str → Option Str
  prop : Str → Str → Option Str
  con : Str → Str → Option Val
  /-- parameters' places of a call: function, number of positional arguments, keywords -/
  bind : Str → Nat → List Str → Option (List Src)
  sub : Str → Str → Option Bool
  /-- names of fields, of the module's functions, of its classes -/
  fl : Str → Str → Bool
  isg : Str → Bool
  isc : Str → Bool
  fuel : Nat

/-! ### equality of values as data -/
mutual
def veq : Val → Val → Bool
  | .non, .non => true
  | .bl a, .bl b => a == b
  | .bl a, .int j => (if a then 1 else 0) == j
  | .int i, .bl b => i == (if b then 1 else 0)
  | .int i, .int j => i == j
  | .str x, .str y => x == y
  | .tup xs, .tup ys => veqs xs ys
  | .lst xs, .lst ys => veqs xs ys
  | _, _ => false
def veqs : List Val → List Val → Bool
  | [], [] => true
  | x :: xs, y :: ys => veq x y && veqs xs ys
  | _, _ => false
end
mutual
/-- plain data: no instances, no references -/
def isD : Val → Bool
  | .non | .bl _ | .int _ | .str _ => true
  | .tup xs | .lst xs => isDs xs
  | _ => false
def isDs : List Val → Bool
  | [] => true
  | x :: xs => isD x && isDs xs
end
mutual
def vdep : Val → Nat
  | .tup xs | .lst xs => vdeps xs + 1
  | _ => 0
def vdeps : List Val → Nat
  | [] => 0
  | x :: xs => max (vdep x) (vdeps xs)
end

/-! ### results -/
inductive R (α : Type) where
  | ok (a : α) (st : Store)
  | err (c : Str) (ns : List Str) (vs : List Val) (st : Store)
  | stuck
def R.then_ {α β : Type} (r : R α) (k : α → Store → R β) : R β := match r with
  | .ok a st => k a st
  | .err c ns vs st => .err c ns vs st
  | .stuck => .stuck
theorem R.then_ok {α β : Type} (a : α) (st : Store) (k : α → Store → R β) : (R.ok a st).then_ k = k a st := rfl
def R.of {α : Type} (o : Option α) (st : Store) : R α := match o with
  | some a => .ok a st
  | none => .stuck
theorem R.of_some {α : Type} (a : α) (st : Store) : R.of (some a) st = .ok a st := rfl

abbrev Cal := Str → List Val → Store → R Val

/-! ### freezing -/
mutual
/-- the value with its references read by rd -/
def frzV (rd : Nat → Option Val) : Val → Option Val
  | .non => some .non
  | .bl b => some (.bl b)
  | .int i => some (.int i)
  | .str x => some (.str x)
  | .tup xs => (frzVs rd xs).map .tup
  | .lst xs => (frzVs rd xs).map .lst
  | .ins c ns vs => (frzVs rd vs).map (.ins c ns)
  | .scr ns => some (.scr ns)
  | .ref i => rd i
def frzVs (rd : Nat → Option Val) : List Val → Option (List Val)
  | [] => some []
  | x :: xs => match frzV rd x with
    | none => none
    | some y => match frzVs rd xs with
      | none => none
      | some ys => some (y :: ys)
end
/-- what stands at a place of the store, frozen (places below n stay references; sk must not come) -/
def rdK (st : Store) (n : Nat) (sk : Option Nat) : Nat → Nat → Option Val
  | 0, i => if i < n then some (.ref i) else none
  | k + 1, i => if i < n then some (.ref i) else if some i = sk then none else match st[i]? with
    | some (.lst xs) => (frzVs (rdK st n sk k) xs).map .lst
    | some (.ins c ns vs) => (frzVs (rdK st n sk k) vs).map (.ins c ns)
    | none => none
def frzO (rd : Nat → Option Val) : SO → Option SO
  | .lst xs => (frzVs rd xs).map .lst
  | .ins c ns vs => (frzVs rd vs).map (.ins c ns)
def frzOs (rd : Nat → Option Val) : Store → Option Store
  | [] => some []
  | o :: os => match frzO rd o with
    | none => none
    | some b => match frzOs rd os with
      | none => none
      | some bs => some (b :: bs)
def rdV (st : Store) (n : Nat) (v : Val) : Option Val := frzV (rdK st n none 8) v
end Mp
end

section
set_option Elab.async false
set_option linter.all false
set_option maxRecDepth 100000
namespace Mp
open PySem

/-! ### operations on values -/
def lstOf (st : Store) : Val → Option (List Val)
  | .lst xs => some xs
  | .ref i => match st[i]? with
    | some (.lst xs) => some xs
    | _ => none
  | _ => none
/-- the items of a list or a tuple -/
def seqOf (st : Store) : Val → Option (List Val)
  | .tup xs => some xs
  | v => lstOf st v
def binI : Bop → Int → Int → Option Int
  | .add, i, j => some (i + j)
  | .sub, i, j => some (i - j)
  | .mul, i, j => if (-(2 ^ 64) < i ∧ i < 2 ^ 64) ∨ (-(2 ^ 64) < j ∧ j < 2 ^ 64) then some (i * j) else none
  | .fdiv, i, j => if 0 < j ∧ j < 1073741824 then some (i / j) else none
  | .mod, i, j => if 0 < j then some (i % j) else none
  | .pow, i, j => if 0 ≤ j ∧ j ≤ 1000000 ∧ i.natAbs < 2 ^ 64 then some (i ^ j.toNat) else none
def binV (st : Store) (op : Bop) (a b : Val) : Option Val :=
  match a, b with
  | .int i, .int j => (binI op i j).map .int
  | .str x, .str y => if op = .add ∧ x.length + y.length ≤ sizeLine then some (.str (x ++ y)) else none
  | .tup xs, .tup ys => if op = .add ∧ xs ≠ [] ∧ xs.length + ys.length ≤ sizeLine then some (.tup (xs ++ ys)) else none
  | .lst xs, .int k => if op = .mul ∧ 0 ≤ k ∧ k ≤ 1000 ∧ xs.length ≤ 1000 then some (.lst (List.replicate k.toNat xs).flatten) else none
  | a, b => match lstOf st a, lstOf st b with
    | some xs, some ys => if op = .add ∧ xs.length + ys.length ≤ sizeLine then some (.lst (xs ++ ys)) else none
    | _, _ => none
def cmpI : Cop → Int → Int → Option Bool
  | .lt, i, j => some (decide (i < j))
  | .le, i, j => some (decide (i ≤ j))
  | .gt, i, j => some (decide (j < i))
  | .ge, i, j => some (decide (j ≤ i))
  | .eq, i, j => some (decide (i = j))
  | .ne, i, j => some (!decide (i = j))
  | _, _, _ => none
/-- a list in the store, read -/
def top (st : Store) (v : Val) : Val := match lstOf st v with
  | some xs => .lst xs
  | none => v
def okD (v : Val) : Bool := isD v && decide (vdep v ≤ 60)
def eqD (st : Store) (a b : Val) : Option Bool := if okD (top st a) && okD (top st b) then some (veq (top st a) (top st b)) else none
/-- the flat values: None, boolL, intL, texts -/
def flat : Val → Bool
  | .non | .bl _ | .int _ | .str _ => true
  | _ => false
def inL (x : Val) (xs : List Val) : Bool := xs.any fun y => veq y x
/-- one sign in a text -/
def inS (x y : Str) : Bool := !(Builtin.Str.occurrences y x 0 y.length 1).isEmpty
def isNon : Val → Bool
  | .non => true
  | _ => false
/-- among the items -/
def memV (st : Store) (a b : Val) : Option Bool := match seqOf st b with
  | some xs => if flat a && xs.all flat then some (inL a xs) else if okD (top st a) && okD (top st b) && (lstOf st b).isSome then some (inL (top st a) xs) else none
  | none => none
def cmpV (st : Store) (op : Cop) (a b : Val) : Option Bool :=
  match op with
  | .isn => match b with
    | .non => some (isNon a)
    | _ => none
  | .notn => match b with
    | .non => some (!isNon a)
    | _ => none
  | .inn => match a, b with
    | .str x, .str y => some (inS x y)
    | a, b => memV st a b
  | .notin => match a, b with
    | .str x, .str y => some (!inS x y)
    | a, b => (memV st a b).map (!·)
  | .eq => eqD st a b
  | .ne => (eqD st a b).map (!·)
  | op => match a, b with
    | .int i, .int j => cmpI op i j
    | _, _ => none
/-- truth -/
def truV (st : Store) : Val → Option Bool
  | .non => some false
  | .bl b => some b
  | .int i => some (i != 0)
  | .str x => some ((x.length : Int) != 0)
  | .tup xs => some (!xs.isEmpty)
  | v => (lstOf st v).map fun xs => !xs.isEmpty
def ixV (st : Store) (a b : Val) : Option Val :=
  match a, b with
  | .str z, .int i => (L2.atI z.cps.toList i).map fun c => .str ⟨#[c]⟩
  | a, .int i => match seqOf st a with
    | some xs => L2.atI xs i
    | none => none
  | _, _ => none
def cut {α : Type} (xs : List α) (lo hi : Option Int) : List α := (xs.drop (HT.sIx xs.length 0 lo)).take (HT.sIx xs.length xs.length hi - HT.sIx xs.length 0 lo)
/-- the bounds of a slice: no value, one value that is an int -/
def partOf : List Val → Option (Option Int)
  | [] => some none
  | [.int i] => some (some i)
  | _ => none
def slcV (st : Store) (a : Val) (lo hi : Option Int) : Option Val :=
  match a with
  | .tup xs => if HT.sIx xs.length 0 lo = 0 ∧ HT.sIx xs.length xs.length hi = xs.length then none else some (.tup (cut xs lo hi))
  | .str z => some (.str (L2.cutS z lo hi))
  | .scr ns => some (.lst ((cut ns lo hi).map .int))
  | a => (lstOf st a).map fun xs => .lst (cut xs lo hi)
def intL : List Val → Option (List Int)
  | [] => some []
  | .int i :: r => (intL r).map (i :: ·)
  | _ :: _ => none
def boolL : List Val → Option (List Bool)
  | [] => some []
  | .bl b :: r => (boolL r).map (b :: ·)
  | _ :: _ => none
def strL : List Val → Option (List Str)
  | [] => some []
  | .str x :: r => (strL r).map (x :: ·)
  | _ :: _ => none
def smallI (i : Int) : Bool := decide (i.natAbs.log2 < 1920)
/-- a built-in function of values -/
def bV (st : Store) (f : String) (vs : List Val) : Option Val :=
  match f, vs with
  | "len", [.str z] => some (.int z.length)
  | "len", [v] => (seqOf st v).map fun xs => .int xs.length
  | "sum", [v] => ((lstOf st v).bind intL).map fun ns => .int ns.sum
  | "any", [v] => ((lstOf st v).bind boolL).map fun bs => .bl (bs.any id)
  | "all", [v] => ((lstOf st v).bind boolL).map fun bs => .bl (bs.all id)
  | "int", [.int i] => some (.int i)
  | "int", [.bl b] => some (.int (if b then 1 else 0))
  | "str", [.int i] => if smallI i then some (.str (toString i)) else none
  | "list", [v] => (seqOf st v).map .lst
  | "tuple", [v] => (seqOf st v).map .tup
  | "max", [.int i, .int j] => some (.int (if j > i then j else i))
  | "min", [.int i, .int j] => some (.int (if j < i then j else i))
  | _, _ => none
/-- the receiver of a built-in method -/
def bmTy (st : Store) (f : String) : Val → Bool
  | .str _ => decide (f = "join")
  | v => (decide (f = "append") || decide (f = "extend") || decide (f = "clear")) && (lstOf st v).isSome
/-- built-in methods: the value handed back, the store -/
def appendV (st : Store) : Val → List Val → Option (Val × Store)
  | .ref i, [v] => match st[i]? with
    | some (.lst xs) => if xs.length < sizeLine then some (.non, st.set i (.lst (xs ++ [v]))) else none
    | _ => none
  | _, _ => none
def extendV (st : Store) : Val → List Val → Option (Val × Store)
  | .ref i, [v] => match st[i]?, lstOf st v with
    | some (.lst xs), some ys => if xs.length + ys.length ≤ sizeLine then some (.non, st.set i (.lst (xs ++ ys))) else none
    | _, _ => none
  | _, _ => none
def clearV (st : Store) : Val → List Val → Option (Val × Store)
  | .ref i, [] => match st[i]? with
    | some (.lst _) => some (.non, st.set i (.lst []))
    | _ => none
  | _, _ => none
def joinV (st : Store) : Val → List Val → Option (Val × Store)
  | .str x, [v] => match (lstOf st v).bind strL with
    | some ys => if (ys.map (·.length)).sum + ys.length * x.length ≤ 16777216 then some (.str (Str.join x ys), st) else none
    | none => none
  | _, _ => none
def bmV (st : Store) (f : String) (a : Val) (vs : List Val) : Option (Val × Store) :=
  if f = "append" then appendV st a vs else if f = "extend" then extendV st a vs else if f = "clear" then clearV st a vs else if f = "join" then joinV st a vs else none
/-- an item stored -/
def setV (st : Store) (o i v : Val) : Option Store :=
  match o, i with
  | .ref k, .int j => match st[k]? with
    | some (.lst xs) => (L2.ixN xs.length j).map fun n => st.set k (.lst (xs.set n v))
    | _ => none
  | _, _ => none
/-- an instance's class, attributes -/
def insOf (st : Store) : Val → Option (Str × List Str × List Val)
  | .ins c ns vs => some (c, ns, vs)
  | .ref i => match st[i]? with
    | some (.ins c ns vs) => some (c, ns, vs)
    | _ => none
  | _ => none
def fld : List Str → List Val → Str → Option Val
  | n :: ns, v :: vs, f => if n = f then some v else fld ns vs f
  | _, _, _ => none
/-- a field stored -/
def putV : List Str → List Val → Str → Val → List Str × List Val
  | n :: ns, v :: vs, f, y => if n = f then (n :: ns, y :: vs) else let r := putV ns vs f y; (n :: r.1, v :: r.2)
  | _, _, f, y => ([f], [y])
def fldSet (P : Prog) (st : Store) (o : Val) (f : Str) (y : Val) : Option Store :=
  match o with
  | .ref i => match st[i]? with
    | some (.ins c ns vs) => if ns.length < 1000 ∧ P.fl c f = true ∧ P.isc c = true then some (st.set i (.ins c (putV ns vs f y).1 (putV ns vs f y).2)) else none
    | _ => none
  | _ => none
/-- the name of a value's type -/
def tyN (st : Store) : Val → Option Str
  | .non => some "NoneType"
  | .bl _ => some "bool"
  | .int _ => some "int"
  | .str _ => some "str"
  | .tup _ => some "tuple"
  | v => match lstOf st v with
    | some _ => some "list"
    | none => (insOf st v).map (·.1)
/-- the items of a walk, and the lists in the store that must stay -/
def liveOf (v : Val) (xs : List Val) : List (Nat × List Val) := match v with
  | .ref i => [(i, xs)]
  | _ => []
def seqS (st : Store) : List Val → Option (List Val × List (Nat × List Val))
  | [.scr ns] => some (ns.map .int, [])
  | [.str z] => some (z.cps.toList.map fun c => .str ⟨#[c]⟩, [])
  | [.tup xs] => some (xs, [])
  | [v] => (lstOf st v).map fun xs => (xs, liveOf v xs)
  | _ => none
def rng1S : List Val → Option (List Val × List (Nat × List Val))
  | [.int j] => if -16777216 ≤ j ∧ j ≤ 16777216 then some ((List.range j.toNat).map fun (k : Nat) => .int (0 + k), []) else none
  | _ => none
def rng2S : List Val → Option (List Val × List (Nat × List Val))
  | [.int i, .int j] => if -16777216 ≤ i ∧ i ≤ 16777216 ∧ -16777216 ≤ j ∧ j ≤ 16777216 then some ((List.range (j - i).toNat).map fun (k : Nat) => .int (i + k), []) else none
  | _ => none
/-- counted down by one -/
def rng3S : List Val → Option (List Val × List (Nat × List Val))
  | [.int i, .int j, .int c] => if c = -1 ∧ -16777216 ≤ i ∧ i ≤ 16777216 ∧ -16777216 ≤ j ∧ j ≤ 16777216 then some ((List.range (i - j).toNat).map fun (k : Nat) => .int (i + (k : Nat) * -1), []) else none
  | _ => none
def enumS (st : Store) : List Val → Option (List Val × List (Nat × List Val))
  | [v] => (lstOf st v).map fun xs => (((List.range xs.length).zip xs).map fun p => .tup [.int p.1, p.2], liveOf v xs)
  | _ => none
def zipS (st : Store) : List Val → Option (List Val × List (Nat × List Val))
  | [v, u] => match lstOf st v, lstOf st u with
    | some xs, some ys => some ((xs.zip ys).map fun p => .tup [p.1, p.2], liveOf v xs ++ liveOf u ys)
    | _, _ => none
  | _ => none
def srcV (st : Store) (k : SrcK) (vs : List Val) : Option (List Val × List (Nat × List Val)) := match k with
  | .seq => seqS st vs
  | .range1 => rng1S vs
  | .range2 => rng2S vs
  | .range3 => rng3S vs
  | .enum => enumS st vs
  | .zip => zipS st vs
/-! ### the same value, written alike -/
mutual
def same : Val → Val → Bool
  | .non, .non => true
  | .bl a, .bl b => a == b
  | .int i, .int j => decide (i = j)
  | .str x, .str y => decide (x = y)
  | .tup xs, .tup ys => sames xs ys
  | .lst xs, .lst ys => sames xs ys
  | .ins c ns vs, .ins d ms us => decide (c = d) && (decide (ns = ms) && sames vs us)
  | .scr ns, .scr ms => decide (ns = ms)
  | .ref i, .ref j => decide (i = j)
  | _, _ => false
def sames : List Val → List Val → Bool
  | [], [] => true
  | x :: xs, y :: ys => same x y && sames xs ys
  | _, _ => false
end
mutual
theorem same_eq : ∀ (a b : Val), same a b = true → a = b
  | .non, b, h => by cases b <;> first | rfl | cases h
  | .bl a, b, h => by
    cases b <;> first | (cases h; done) | skip
    exact congrArg Val.bl (eq_of_beq h)
  | .int a, b, h => by
    cases b <;> first | (cases h; done) | skip
    exact congrArg Val.int (of_decide_eq_true h)
  | .str a, b, h => by
    cases b <;> first | (cases h; done) | skip
    exact congrArg Val.str (of_decide_eq_true h)
  | .tup xs, b, h => by
    cases b <;> first | (cases h; done) | skip
    exact congrArg Val.tup (sames_eq xs _ h)
  | .lst xs, b, h => by
    cases b <;> first | (cases h; done) | skip
    exact congrArg Val.lst (sames_eq xs _ h)
  | .ins c ns vs, b, h => by
    cases b <;> first | (cases h; done) | skip
    rename_i d ms us
    replace h : (decide (c = d) && (decide (ns = ms) && sames vs us)) = true := h
    simp only [Bool.and_eq_true, decide_eq_true_eq] at
                                                       h
    obtain ⟨rfl, rfl, h3⟩ := h
    rw [sames_eq vs us h3]
  | .scr ns, b, h => by
    cases b <;> first | (cases h; done) | skip
    exact congrArg Val.scr (of_decide_eq_true h)
  | .ref i, b, h => by
    cases b <;> first | (cases h; done) | skip
    exact congrArg Val.ref (of_decide_eq_true h)
theorem sames_eq : ∀ (a b : List Val), sames a b = true → a = b
  | [], b, h => by cases b <;> first | rfl | cases h
  | x :: xs, b, h => by
    cases b with
    | nil => cases h
    | cons y ys =>
      replace h : (same x y && sames xs ys) = true := h
      rw [Bool.and_eq_true] at h
      rw [same_eq x y h.1, sames_eq xs ys h.2]
end
mutual
theorem same_refl : ∀ a : Val, same a a = true
  | .non => rfl
  | .bl a => by cases a <;> rfl
  | .int a => decide_eq_true rfl
  | .str a => decide_eq_true rfl
  | .tup xs => sames_refl xs
  | .lst xs => sames_refl xs
  | .ins c ns vs => by
    show (decide (c = c) && (decide (ns = ns) && sames vs vs)) = true
    simp [sames_refl vs]
  | .scr ns => decide_eq_true rfl
  | .ref i => decide_eq_true rfl
theorem sames_refl : ∀ a : List Val, sames a a = true
  | [] => rfl
  | x :: xs => by
    show (same x x && sames xs xs) = true
    rw [same_refl x, sames_refl xs]; rfl
end
def sameO : SO → SO → Bool
  | .lst xs, .lst ys => sames xs ys
  | .ins c ns vs, .ins d ms us => decide (c = d) && (decide (ns = ms) && sames vs us)
  | _, _ => false
theorem sameO_eq {a b : SO} (h : sameO a b = true) : a = b := by
  cases a <;> cases b <;> first | (cases h; done) | skip
  · exact congrArg SO.lst (sames_eq _ _ h)
  · rename_i c ns vs d ms us
    replace h : (decide (c = d) && (decide (ns = ms) && sames vs us)) = true := h
    simp only [Bool.and_eq_true, decide_eq_true_eq] at
                                                       h
    obtain ⟨rfl, rfl, h3⟩ := h
    rw [sames_eq vs us h3]
theorem sameO_refl (a : SO) : sameO a a = true := by
  cases a with
  | lst xs => exact sames_refl xs
  | ins c ns vs =>
    show (decide (c = c) && (decide (ns = ns) && sames vs vs)) = true
    simp [sames_refl vs]
/-- st' begins with st -/
def begins : Store → Store → Bool
  | [], _ => true
  | _ :: _, [] => false
  | a :: as, b :: bs => sameO a b && begins as bs
theorem begins_eq : ∀ {a b : Store}, begins a b = true → b.take a.length = a
  | [], _, _ => by simp
  | _ :: _, [], h => by cases h
  | a :: as, b :: bs, h => by
    replace h : (sameO a b && begins as bs) = true := h
    rw [Bool.and_eq_true] at h
    rw [List.length_cons, List.take_succ_cons, ← sameO_eq h.1, begins_eq h.2]
theorem begins_app : ∀ (a b : Store), begins a (a ++ b) = true
  | [], _ => rfl
  | a :: as, b => by
    show (sameO a a && begins as (as ++ b)) = true
    rw [sameO_refl, begins_app as b]; rfl
theorem begins_refl (a : Store) : begins a a = true := by
  have := begins_app a []
  rwa [List.append_nil] at this
/-- the lists of a walk stand as they stood -/
def stillB (st : Store) : List (Nat × List Val) → Bool
  | [] => true
  | p :: l => (match st[p.1]? with
    | some (.lst ys) => sames p.2 ys
    | _ => false) && stillB st l
def still (st : Store) (l : List (Nat × List Val)) : Prop := ∀ p ∈ l, st[p.1]? = some (.lst p.2)
theorem still_of {st : Store} : ∀ {l : List (Nat × List Val)}, stillB st l = true → still st l
  | [], _, p, h => by cases h
  | q :: l, h, p, hp => by
    unfold stillB at h
    rw [Bool.and_eq_true] at h
    rcases List.mem_cons.mp hp with e |
                                        hp
    · subst e
      have h1 := h.1
      split at h1
      · rename_i ys e2
        rw [e2, sames_eq _ _ h1]
      · cases h1
    · exact still_of h.2 p hp

/-! ### targets -/
mutual
def bindT : MT → Val → Env → Option Env
  | .v i, v, env => if i < env.length then some (env.set i (some v)) else none
  | .t ts, .tup vs, env => bindTs ts vs env
  | .t ts, .lst vs, env => bindTs ts vs env
  | .t _, _, _ => none
def bindTs : List MT → List Val → Env → Option Env
  | [], [], env => some env
  | t :: ts, v :: vs, env => match bindT t v env with
    | some env' => bindTs ts vs env'
    | none => none
  | _, _, _ => none
end
mutual
def slots : MT → List Nat
  | .v i => [i]
  | .t ts => slotsL ts
def slotsL : List MT → List Nat
  | [] => []
  | t :: ts => slots t ++ slotsL ts
end
def wipeE (env : Env) : List Nat → Env
  | [] => env
  | v :: vs => (wipeE env vs).set v none

/-! ### how a call's result is taken -/
def finish (m : Mode) (st : Store) (r : R Val) : R Val := match m with
  | .raw => r
  | .back => r.then_ fun v st' => if st.length ≤ st'.length then (match rdV st' st.length v, frzOs (rdK st' st.length none 8) (st'.take st.length) with
    | some y, some base => .ok y base
    | _, _ => .stuck) else .stuck
  | .pure => r.then_ fun v st' => if begins st st' = true then (match rdV st' st.length v with
    | some y => .ok y st
    | none => .stuck) else .stuck
  | .fresh => r.then_ fun v st' => if begins st st' = true then (match v with
    | .ref i => if st.length ≤ i then (match st'[i]? with
      | some (.lst xs) => match frzVs (rdK st' st.length (some i) 8) xs with
        | some ys => .ok (.ref st.length) (st ++ [.lst ys])
        | none => .stuck
      | _ => .stuck) else .stuck
    | _ => .stuck) else .stuck
end Mp
end

section
set_option Elab.async false
set_option linter.all false
set_option maxRecDepth 100000
namespace Mp
open PySem

inductive Fl where
  | next (env : Env) | ret (v : Val) | brk (env : Env) | cont (env : Env)
def noErr {α : Type} : R α → R α
  | .ok a st => .ok a st
  | _ => .stuck
def compL (f : Val → Store → R (Option Val)) (live : List (Nat × List Val)) : List Val → List Val → Store → R (List Val)
  | [], acc, st => if stillB st live = true then .ok acc st else .stuck
  | x :: r, acc, st => if stillB st live = true then (noErr (f x st)).then_ fun o st' => match o with
      | some y => compL f live r (acc ++ [y]) st'
      | none => compL f live r acc st'
    else .stuck
def loopF (step : Val → Env → Store → R Fl) (live : List (Nat × List Val)) : List Val → Env → Store → R Fl
  | [], env, st => if stillB st live = true then .ok (.next env) st else .stuck
  | x :: r, env, st => if stillB st live = true then (step x env st).then_ fun f st' => match f with
      | .next env' => loopF step live r env' st'
      | .cont env' => loopF step live r env' st'
      | .brk env' => .ok (.next env') st'
      | .ret v => .ok (.ret v) st'
    else .stuck
def loopW (c : Env → Store → R Bool) (step : Env → Store → R Fl) : Nat → Env → Store → R Fl
  | 0, _, _ => .stuck
  | n + 1, env, st => (c env st).then_ fun b st1 => match b with
    | false => .ok (.next env) st1
    | true => (step env st1).then_ fun f st' => match f with
      | .next env' => loopW c step n env' st'
      | .cont env' => loopW c step n env' st'
      | .brk env' => .ok (.next env') st'
      | .ret v => .ok (.ret v) st'

section
variable (P : Prog) (Φ : Cal)
/-- the parameters' values -/
def srcs (vs ks : List Val) : List Src → Option (List Val)
  | [] => some []
  | .pos i :: r => match vs[i]? with
    | some v => (srcs vs ks r).map (v :: ·)
    | none => none
  | .kw i :: r => match ks[i]? with
    | some v => (srcs vs ks r).map (v :: ·)
    | none => none
  | .dfl _ v :: r => (srcs vs ks r).map (v :: ·)
  | .rest i :: r => if (vs.drop i).length ≤ 1000 then (srcs vs ks r).map (.tup (vs.drop i) :: ·) else none
def callM (m : Mode) (f : Str) (kn : List Str) (vs ks : List Val) (st : Store) : R Val :=
  match P.bind f vs.length kn with
  | none => .stuck
  | some tp => match srcs vs ks tp with
    | none => .stuck
    | some args => finish m st (Φ f args st)
/-- a new instance, then its __init__ (vs: what is written; the instance stands ahead) -/
def makeM (m : Mode) (c : Str) (kn : List Str) (vs ks : List Val) (st : Store) : R Val :=
  match P.meth c "__init__" with
  | none => .stuck
  | some f => if P.isc c then match P.bind f (vs.length + 1) kn with
    | none => .stuck
    | some tp => match srcs (.ref st.length :: vs) ks tp with
      | none => .stuck
      | some args => finish m st ((Φ f args (st ++ [.ins c [] []])).then_ fun v st' => match v with
        | .non => .ok (.ref st.length) st'
        | _ => .stuck)
    else .stuck
/-- the method that a receiver's class has -/
def methG (a : Val) (f : Str) (n : Nat) (st : Store) : Option Str :=
  match insOf st a with
  | none => none
  | some (c, ns, ws) => match P.isc c, fld ns ws f, P.meth c f with
    | true, none, some g => match P.bind g n [] with
      | some _ => some g
      | none => none
    | _, _, _ => none
def attrM (a : Val) (f : Str) (st : Store) : R Val :=
  match insOf st a with
  | none => .stuck
  | some (c, ns, ws) => if P.isc c then (match P.prop c f with
    | some g => noErr (finish .pure st (Φ g [a] st))
    | none => match fld ns ws f with
      | some v => if P.fl c f then .ok v st else .stuck
      | none => R.of (P.con c f) st) else .stuck
/-- comparisons -/
def cmpM (P : Prog) (Φ : Cal) (op : Cop) (a b : Val) (st : Store) : R Val := R.of ((cmpV st op a b).map .bl) st
def bcallM (f : String) (vs : List Val) (st : Store) : R Val := R.of (bV st f vs) st
/-- one class or type of isinstance -/
def isT (st : Store) (v : Val) (t : Str) : Option Bool := (tyN st v).bind fun n => if (insOf st v).isSome && !P.isc n then none else P.sub n t
def isTs (st : Store) (v : Val) : List Str → Option Bool
  | [] => some false
  | t :: ts => match isT P st v t with
    | none => none
    | some true => some true
    | some false => isTs st v ts
/-- a special method of an own class, called: no error leaves it -/
def specM (g : Str) (args : List Val) (st : Store) : R Val := noErr (callM P Φ .pure g [] args [] st)
/-- len and repr of an own instance -/
def back1 (len : Bool) : Val → Store → R Val := fun r st => match len, r with
  | true, .int n => if 0 ≤ n ∧ n < 9223372036854775808 then .ok (.int n) st else .stuck
  | false, .str z => .ok (.str z) st
  | _, _ => .stuck
def name1 (len : Bool) : Str := if len = true then "__len__" else "__repr__"
def own1M (len : Bool) (v : Val) (st : Store) : R Val := match insOf st v with
  | some (c, _, _) => if P.isc c = true then (match P.meth c (name1 len) with
    | some g => (specM P Φ g [v] st).then_ (back1 len)
    | none => .stuck) else .stuck
  | none => .stuck
/-- what stands at the right of an own == -/
def besideB (c : Str) (st : Store) (b : Val) : Bool := match tyN st b with
  | some n => !((insOf st b).isSome && !P.isc n) && (decide (n = c) || decide (P.sub n c = some false))
  | none => false
/-- == and != of an own instance at the left -/
def back2 (ne : Bool) : Val → Store → R Val := fun r st => match r with
  | .bl v => .ok (.bl (xor ne v)) st
  | _ => .stuck
def own2M (ne : Bool) (a b : Val) (st : Store) : R Val := match insOf st a with
  | some (c, _, _) => if P.isc c = true ∧ besideB P c st b = true then (match P.meth c "__eq__" with
    | some g => (specM P Φ g [a, b] st).then_ (back2 ne)
    | none => .stuck) else .stuck
  | none => .stuck
def fmt : Val → Option Val
  | .str y => some (.str y)
  | .int i => if smallI i then some (.str (toString i)) else none
  | _ => none
def asB : R Val → R Bool
  | .ok (.bl b) st => .ok b st
  | .err c ns vs st => .err c ns vs st
  | _ => .stuck

mutual
def evalE : ME → Env → Store → R Val
  | .var i, env, st => match env[i]? with
    | some (some v) => .ok v st
    | _ => .stuck
  | .non, _, st => .ok .non st
  | .bl b, _, st => .ok (.bl b) st
  | .int i, _, st => .ok (.int i) st
  | .str x, _, st => .ok (.str x) st
  | .glob x, _, st => R.of (P.glob x) st
  | .bin op a b, env, st => (evalE a env st).then_ fun x st => (evalE b env st).then_ fun y st => R.of (binV st op x y) st
  | .neg a, env, st => (evalE a env st).then_ fun x st => match x with
    | .int i => .ok (.int (-i)) st
    | _ => .stuck
  | .cmp op a b, env, st => (evalE a env st).then_ fun x st => (evalE b env st).then_ fun y st => cmpM P Φ op x y st
  | .chain o1 o2 a b c, env, st => (evalE a env st).then_ fun x st => (evalE b env st).then_ fun y st => match cmpV st o1 x y with
    | none => .stuck
    | some false => .ok (.bl false) st
    | some true => (evalE c env st).then_ fun z st => R.of ((cmpV st o2 y z).map .bl) st
  | .and es, env, st => andE es env st
  | .or es, env, st => orE es env st
  | .not a, env, st => (evalE a env st).then_ fun x st => match x with
    | .bl b => .ok (.bl !b) st
    | _ => .stuck
  | .ite c a b, env, st => (evalT c env st).then_ fun k st => match k with
    | true => evalE a env st
    | false => evalE b env st
  | .tup es, env, st => (evalEs es env st).then_ fun vs st => .ok (.tup vs) st
  | .lst mu es, env, st => (evalEs es env st).then_ fun vs st => match mu with
    | true => .ok (.ref st.length) (st ++ [.lst vs])
    | false => .ok (.lst vs) st
  | .ix a b, env, st => (evalE a env st).then_ fun x st => (evalE b env st).then_ fun y st => R.of (ixV st x y) st
  | .slc a lo hi, env, st => (evalE a env st).then_ fun x st => (evalEs lo env st).then_ fun l st => match partOf l with
    | none => .stuck
    | some l => (evalEs hi env st).then_ fun h st => match partOf h with
      | none => .stuck
      | some h => R.of (slcV st x l h) st
  | .attr a f, env, st => (evalE a env st).then_ fun x st => attrM P Φ x f st
  | .call m f es kn ks, env, st => (evalEs es env st).then_ fun vs st => (evalEs ks env st).then_ fun zs st => callM P Φ m f kn vs zs st
  | .make m c es kn ks, env, st => (evalEs es env st).then_ fun vs st => (evalEs ks env st).then_ fun zs st => makeM P Φ m c kn vs zs st
  | .meth m a f es, env, st => (evalE a env st).then_ fun x st => match methG P x f (es.length + 1) st with
    | none => .stuck
    | some g => (evalEs es env st).then_ fun vs st => callM P Φ m g [] (x :: vs) [] st
  | .bcall f es, env, st => (evalEs es env st).then_ fun vs st => bcallM f vs st
  | .bmeth f a es, env, st => (evalE a env st).then_ fun x st => match bmTy st f x with
    | false => .stuck
    | true => (evalEs es env st).then_ fun vs st => match bmV st f x vs with
      | some (v, st') => .ok v st'
      | none => .stuck
  | .isin a ts, env, st => (evalE a env st).then_ fun x st => R.of ((isTs P st x ts).map .bl) st
  | .comp mu elt tg k es ifs, env, st => ((evalEs es env st).then_ fun vs st => R.of (srcV st k vs) st).then_ fun p st => if p.1.length ≤ sizeLine then (compL (fun x st => match bindT tg x (wipeE env (slots tg)) with
        | none => .stuck
        | some env' => (testL ifs env' st).then_ fun b st => match b with
          | true => (evalE elt env' st).then_ fun y st => .ok (some y) st
          | false => .ok none st) p.2 p.1 [] st).then_ fun ys st => match mu with
      | true => .ok (.ref st.length) (st ++ [.lst ys])
      | false => .ok (.lst ys) st else .stuck
  | .fstr es, env, st => fmtL es Str.empty env st
  | .own1 o a, env, st => (evalE a env st).then_ fun x st => own1M P Φ o x st
  | .lcopy a, env, st => (evalE a env st).then_ fun x st => match seqOf st x with
    | some xs => .ok (.ref st.length) (st ++ [.lst xs])
    | none => .stuck
  | .own2 o a b, env, st => (evalE a env st).then_ fun x st => (evalE b env st).then_ fun y st => own2M P Φ o x y st
def evalEs : List ME → Env → Store → R (List Val)
  | [], _, st => .ok [] st
  | e :: es, env, st => (evalE e env st).then_ fun v st => (evalEs es env st).then_ fun vs st => .ok (v :: vs) st
def andE : List ME → Env → Store → R Val
  | [], _, _ => .stuck
  | [e], env, st => evalE e env st
  | e :: e' :: es, env, st => (evalE e env st).then_ fun v st => match v with
    | .bl true => andE (e' :: es) env st
    | .bl false => .ok (.bl false) st
    | _ => .stuck
def orE : List ME → Env → Store → R Val
  | [], _, _ => .stuck
  | [e], env, st => evalE e env st
  | e :: e' :: es, env, st => (evalE e env st).then_ fun v st => match v with
    | .bl false => orE (e' :: es) env st
    | .bl true => .ok (.bl true) st
    | _ => .stuck
def fmtL : List ME → Str → Env → Store → R Val
  | [], acc, _, st => .ok (.str acc) st
  | e :: es, acc, env, st => (evalE e env st).then_ fun v st => match fmt v with
    | some (.str y) => if (acc ++ y).length ≤ sizeLine then fmtL es (acc ++ y) env st else .stuck
    | _ => .stuck
def evalT : ME → Env → Store → R Bool
  | .and es, env, st => andT es env st
  | .or es, env, st => orT es env st
  | .not a, env, st => (evalT a env st).then_ fun b st => .ok (!b) st
  | .cmp op a b, env, st => asB ((evalE a env st).then_ fun x st => (evalE b env st).then_ fun y st => cmpM P Φ op x y st)
  | .chain o1 o2 a b c, env, st => asB ((evalE a env st).then_ fun x st => (evalE b env st).then_ fun y st => match cmpV st o1 x y with
    | none => .stuck
    | some false => .ok (.bl false) st
    | some true => (evalE c env st).then_ fun z st => R.of ((cmpV st o2 y z).map .bl) st)
  | .ite _ _ _, _, _ => .stuck
  | .own2 o a b, env, st => asB ((evalE a env st).then_ fun x st => (evalE b env st).then_ fun y st => own2M P Φ o x y st)
  | .var i, env, st => match env[i]? with
    | some (some v) => R.of (truV st v) st
    | _ => .stuck
  | .bl b, _, st => .ok b st
  | .glob x, _, st => .stuck
  | .attr a f, env, st => ((evalE a env st).then_ fun x st => attrM P Φ x f st).then_ fun v st => R.of (truV st v) st
  | .call m f es kn ks, env, st => ((evalEs es env st).then_ fun vs st => (evalEs ks env st).then_ fun zs st => callM P Φ m f kn vs zs st).then_ fun v st => R.of (truV st v) st
  | .meth m a f es, env, st => ((evalE a env st).then_ fun x st => match methG P x f (es.length + 1) st with
    | none => .stuck
    | some g => (evalEs es env st).then_ fun vs st => callM P Φ m g [] (x :: vs) [] st).then_ fun v st => R.of (truV st v) st
  | .bcall f es, env, st => ((evalEs es env st).then_ fun vs st => bcallM f vs st).then_ fun v st => R.of (truV st v) st
  | .ix a b, env, st => ((evalE a env st).then_ fun x st => (evalE b env st).then_ fun y st => R.of (ixV st x y) st).then_ fun v st => R.of (truV st v) st
  | .isin a ts, env, st => ((evalE a env st).then_ fun x st => R.of ((isTs P st x ts).map .bl) st).then_ fun v st => R.of (truV st v) st
  | _, _, _ => .stuck
def andT : List ME → Env → Store → R Bool
  | [], _, _ => .stuck
  | [e], env, st => evalT e env st
  | e :: e' :: es, env, st => (evalT e env st).then_ fun b st => match b with
    | true => andT (e' :: es) env st
    | false => .ok false st
def orT : List ME → Env → Store → R Bool
  | [], _, _ => .stuck
  | [e], env, st => evalT e env st
  | e :: e' :: es, env, st => (evalT e env st).then_ fun b st => match b with
    | false => orT (e' :: es) env st
    | true => .ok true st
/-- a comprehension's tests: none or one -/
def testL : List ME → Env → Store → R Bool
  | [], _, st => .ok true st
  | e :: es, env, st => match es with
    | [] => evalT e env st
    | _ => .stuck
end

/-- an int field, with its class -/
def fldGet (P : Prog) (st : Store) (x : Val) (f : Str) : Option (Str × Int) := match insOf st x with
  | some (c, ns, vs) => if P.isc c = true ∧ P.fl c f = true then (match fld ns vs f with
    | some (.int i) => some (c, i)
    | _ => none) else none
  | none => none
def binJ (op : Bop) (i : Int) (v : Val) : Option Int := match op, v with
  | .add, .int j => some (i + j)
  | .sub, .int j => some (i - j)
  | _, _ => none
mutual
def evalS : MS → Env → Store → R Fl
  | .expr e, env, st => (evalE P Φ e env st).then_ fun _ st => .ok (.next env) st
  | .set t e, env, st => (evalE P Φ e env st).then_ fun v st => match bindT t v env with
    | some env' => .ok (.next env') st
    | none => .stuck
  | .setc i e, env, st => (evalE P Φ e env st).then_ fun v st => if i < env.length then .ok (.next (env.set i (some v))) st else .stuck
  | .sett t e, env, st => (evalE P Φ e env st).then_ fun v st => match bindT t v env with
    | some env' => .ok (.next env') st
    | none => .stuck
  | .par3 i j l es, env, st => (evalEs P Φ es env st).then_ fun vs st => match vs with
    | [u, v, w] => if i < env.length ∧ j < env.length ∧ l < env.length then .ok (.next (((env.set i (some u)).set j (some v)).set l (some w))) st else .stuck
    | _ => .stuck
  | .par i j a b, env, st => (evalE P Φ a env st).then_ fun v st => (evalE P Φ b env st).then_ fun u st =>
    if i < env.length ∧ j < env.length then .ok (.next ((env.set i (some v)).set j (some u))) st else .stuck
  | .fld o f e, env, st => (evalE P Φ e env st).then_ fun v st => (evalE P Φ o env st).then_ fun x st => match fldSet P st x f v with
    | some st' => .ok (.next env) st'
    | none => .stuck
  | .fldaug o f op e, env, st => (evalE P Φ o env st).then_ fun x st => match fldGet P st x f with
    | none => .stuck
    | some (c, i) => (evalE P Φ e env st).then_ fun v st => match binJ op i v with
      | none => .stuck
      | some k => if (insOf st x).map (·.1) = some c then (match fldSet P st x f (.int k) with
          | some st' => .ok (.next env) st'
          | none => .stuck) else .stuck
  | .sub o i e, env, st => (evalE P Φ e env st).then_ fun v st => (evalE P Φ o env st).then_ fun x st => (evalE P Φ i env st).then_ fun y st => match setV st x y v with
    | some st' => .ok (.next env) st'
    | none => .stuck
  | .aug i op e, env, st => match env[i]? with
    | some (some (.int a)) => (evalE P Φ e env st).then_ fun v st => match binJ op a v with
      | some k => .ok (.next (env.set i (some (.int k)))) st
      | none => .stuck
    | _ => .stuck
  | .ret e, env, st => (evalE P Φ e env st).then_ fun v st => .ok (.ret v) st
  | .retN, _, st => .ok (.ret .non) st
  | .ite c a b, env, st => (evalT P Φ c env st).then_ fun k st => match k with
    | true => evalSs a env st
    | false => evalSs b env st
  | .for_ t k es body, env, st => ((evalEs P Φ es env st).then_ fun vs st => R.of (srcV st k vs) st).then_ fun p st => loopF (fun x env st => match bindT t x env with
        | none => .stuck
        | some env' => evalSs body env' st) p.2 p.1 env st
  | .while_ c body, env, st => loopW (fun env st => evalT P Φ c env st) (fun env st => evalSs body env st) P.fuel env st
  | .pass, env, st => .ok (.next env) st
  | .brk, env, st => .ok (.brk env) st
  | .cont, env, st => .ok (.cont env) st
  | .never, _, _ => .stuck
def evalSs : List MS → Env → Store → R Fl
  | [], env, st => .ok (.next env) st
  | s :: ss, env, st => (evalS s env st).then_ fun f st => match f with
    | .next env' => evalSs ss env' st
    | f => .ok f st
end
def runF (F : MFun) (args : List Val) (st : Store) : R Val :=
  if args.length = F.np then (evalSs P Φ F.body (args.map some ++ List.replicate (F.ns - args.length) none) st).then_ fun f st => match f with
    | .next _ => .ok .non st
    | .ret v => .ok v st
    | _ => .stuck
  else .stuck
end
/-- calls, d deep -/
def call (P : Prog) : Nat → Cal
  | 0 => fun _ _ _ => .stuck
  | d + 1 => fun f args st => match P.fn f with
    | some F => runF P (call P d) F args st
    | none => .stuck
end Mp
end

section
set_option Elab.async false
set_option linter.all false
set_option maxRecDepth 100000
namespace Mp
open PySem L2

/-! ### worlds: what is frozen, where the store's objects stand -/
structure Wd where
  F : Hp
  e : List Addr
  /-- objects in the making, at rest -/
  G : Hp
structure Le (w w' : Wd) : Prop where
  F : ∀ p o, w.F p = some o → w'.F p = some o
  e : ∀ (i : Nat) (p : Addr), w.e[i]? = some p → w'.e[i]? = some p
  G : w'.G = w.G
theorem Le.refl (w : Wd) : Le w w := ⟨fun _ _ h => h, fun _ _ h => h, rfl⟩
theorem Le.trans {a b c : Wd} (h : Le a b) (k : Le b c) : Le a c := ⟨fun p o q => k.F p o (h.F p o q), fun i p q => k.e i p (h.e i p q), k.G.trans h.G⟩
def sOk (x : Str) : Prop := x.length ≤ sizeLine ∧ PyData.strOk x = true
def cA (K : PySem.W.Frag) (c : Str) : Addr := He.ga K c

section
variable (K : PySem.W.Frag)
mutual
def RV (w : Wd) : Val → V → Prop
  | .non, x => x = .non
  | .bl b, x => x = .bl b
  | .int i, x => x = .int i
  | .str y, x => x = .str y ∧ sOk y
  | .tup vs, x => ∃ p xs, x = .ref p ∧ SqT K w.F p xs ∧ vs.length ≤ sizeLine ∧ RVs w vs xs
  | .lst vs, x => ∃ p xs, x = .ref p ∧ w.F p = some (.lst xs) ∧ vs.length ≤ sizeLine ∧ RVs w vs xs
  | .ins c ns vs, x => ∃ p dx fs, x = .ref p ∧ w.F p = some (.ins (cA K c) dx fs) ∧ fs.map (·.1) = ns ∧ RVs w vs (fs.map (·.2))
  | .scr ns, x => ∃ p, x = .ref p ∧ SqL K w.F p (ns.map V.int) ∧ ns.length ≤ sizeLine
  | .ref i, x => ∃ p, x = .ref p ∧ w.e[i]? = some p
def RVs (w : Wd) : List Val → List V → Prop
  | [], xs => xs = []
  | v :: vs, xs => ∃ y ys, xs = y :: ys ∧ RV w v y ∧ RVs w vs ys
end
/-- an object of the store -/
def RO (w : Wd) (H : Hp) (p : Addr) : SO → Prop
  | .lst vs => ∃ xs, H p = some (.lst xs) ∧ vs.length ≤ sizeLine ∧ RVs K w vs xs
  | .ins c ns vs => ∃ dx fs, H p = some (.ins (cA K c) dx fs) ∧ fs.map (·.1) = ns ∧ RVs K w vs (fs.map (·.2))
structure RS (w : Wd) (st : Store) (H : Hp) : Prop where
  sub : ∀ p o, w.F p = some o → H p = some o
  len : w.e.length = st.length
  obj : ∀ (i : Nat) (p : Addr) (s : SO), w.e[i]? = some p → st[i]? = some s → RO K w H p s
  nd : w.e.Nodup
  sep : ∀ (i : Nat) (p : Addr), w.e[i]? = some p → w.F p = none
  gub : ∀ p o, w.G p = some o → H p = some o
  gse : ∀ (i : Nat) (p : Addr), w.e[i]? = some p → w.G p = none
  gF : ∀ p, w.G p ≠ none → w.F p = none
def RE (w : Wd) (env : Env) (σ : St) : Prop := env.length = σ.length ∧ ∀ (i : Nat) (v : Val), env[i]? = some (some v) → ∃ x, σ[i]? = some (some x) ∧ RV K w v x
/-- an exception: its class, its dict -/
def XR (w : Wd) (c : Str) (ns : List Str) (vs : List Val) (cls : Value) (d : Option Addr) : Prop :=
  cls = .ref (cA K c) ∧ ∃ dd fs, d = some dd ∧ w.F dd = some (.xd fs) ∧ fs.map (·.1) = ns ∧ RVs K w vs (fs.map (·.2))
end

section
variable {K : PySem.W.Frag} {w w' : Wd}
theorem SqT.mono {F F' : Hp} (h : ∀ p o, F p = some o → F' p = some o) {p : Addr} {xs : List V} (s : SqT K F p xs) : SqT K F' p xs := by
  rcases s with s | s
  · rcases s with s | ⟨o, s⟩
    · exact .inl (.inl (h _ _ s))
    · exact .inl (.inr ⟨o, h _ _ s⟩)
  · exact .inr s
theorem SqL.mono {F F' : Hp} (h : ∀ p o, F p = some o → F' p = some o) {p : Addr} {xs : List V} (s : SqL K F p xs) : SqL K F' p xs := by
  rcases s with s | s
  · rcases s with s | ⟨o, s⟩
    · exact .inl (.inl (h _ _ s))
    · exact .inl (.inr ⟨o, h _ _ s⟩)
  · exact .inr s
mutual
theorem RV.mono (l : Le w w') : ∀ (v : Val) {x : V}, RV K w v x → RV K w' v x
  | .non, _, h => h
  | .bl _, _, h => h
  | .int _, _, h => h
  | .str _, _, h => h
  | .tup vs, _, h => by
    obtain ⟨p, xs, e, s, z, r⟩ := h
    exact ⟨p, xs, e, SqT.mono l.F s, z, RVs.mono l vs r⟩
  | .lst vs, _, h => by
    obtain ⟨p, xs, e, s, z, r⟩ := h
    exact ⟨p, xs, e, l.F _ _ s, z, RVs.mono l vs r⟩
  | .ins c ns vs, _, h => by
    obtain ⟨p, dx, fs, e, s, z, r⟩ := h
    exact ⟨p, dx, fs, e, l.F _ _ s, z, RVs.mono l vs r⟩
  | .scr ns, _, h => by
    obtain ⟨p, e, s, z⟩ := h
    exact ⟨p, e, SqL.mono l.F s, z⟩
  | .ref i, _, h => by
    obtain ⟨p, e, s⟩ := h
    exact ⟨p, e, l.e _ _ s⟩
theorem RVs.mono (l : Le w w') : ∀ (vs : List Val) {xs : List V}, RVs K w vs xs → RVs K w' vs xs
  | [], _, h => h
  | v :: vs, _, h => by
    obtain ⟨y, ys, e, h1, h2⟩ := h
    exact ⟨y, ys, e, RV.mono l v h1, RVs.mono l vs h2⟩
end
theorem RE.mono (l : Le w w') {env : Env} {σ : St} (h : RE K w env σ) : RE K w' env σ := ⟨h.1, fun i v e => by
  obtain ⟨x, e1, r⟩ := h.2 i v e
  exact ⟨x, e1, RV.mono l v r⟩⟩
theorem RVs.nil : RVs K w [] [] := rfl
theorem RVs.cons {v : Val} {vs : List Val} {x : V} {xs : List V} (h : RV K w v x) (t : RVs K w vs xs) : RVs K w (v :: vs) (x :: xs) := ⟨x, xs, rfl, h, t⟩
theorem RVs.length : ∀ {vs : List Val} {xs : List V}, RVs K w vs xs → vs.length = xs.length
  | [], _, h => by cases (show _ = [] from h); rfl
  | _ :: _, _, h => by
    obtain ⟨y, ys, rfl, _, h2⟩ := h
    simp [RVs.length h2]
theorem RVs.get : ∀ {vs : List Val} {xs : List V} {i : Nat} {v : Val}, RVs K w vs xs → vs[i]? = some v → ∃ x, xs[i]? = some x ∧ RV K w v x
  | [], _, _, _, _, e => by simp at e
  | _ :: _, _, 0, _, h, e => by
    obtain ⟨y, ys, rfl, h1, _⟩ := h
    simp at e
    subst e
    exact ⟨y, rfl, h1⟩
  | _ :: _, _, i + 1, _, h, e => by
    obtain ⟨y, ys, rfl, _, h2⟩ := h
    obtain ⟨x, e1, r⟩ := RVs.get (i := i) h2 (by simpa using e)
    exact ⟨x, by simpa using e1, r⟩
theorem RVs.append : ∀ {vs us : List Val} {xs ys : List V}, RVs K w vs xs → RVs K w us ys → RVs K w (vs ++ us) (xs ++ ys)
  | [], _, _, _, h, k => by cases (show _ = [] from h); exact k
  | _ :: _, _, _, _, h, k => by
    obtain ⟨y, ys, rfl, h1, h2⟩ := h
    exact RVs.cons h1 (RVs.append h2 k)
theorem RVs.take : ∀ {vs : List Val} {xs : List V} (n : Nat), RVs K w vs xs → RVs K w (vs.take n) (xs.take n)
  | _, _, 0, _ => by simp [RVs.nil]
  | [], _, _ + 1, h => by cases (show _ = [] from h); exact rfl
  | _ :: _, _, n + 1, h => by
    obtain ⟨y, ys, rfl, h1, h2⟩ := h
    exact RVs.cons h1 (RVs.take n h2)
theorem RVs.drop : ∀ {vs : List Val} {xs : List V} (n : Nat), RVs K w vs xs → RVs K w (vs.drop n) (xs.drop n)
  | _, _, 0, h => h
  | [], _, _ + 1, h => by cases (show _ = [] from h); exact rfl
  | _ :: _, _, n + 1, h => by
    obtain ⟨y, ys, rfl, h1, h2⟩ := h
    exact RVs.drop n h2
theorem RVs.set : ∀ {vs : List Val} {xs : List V} (i : Nat) {v : Val} {x : V}, RVs K w vs xs → RV K w v x → RVs K w (vs.set i v) (xs.set i x)
  | [], _, _, _, _, h, _ => by cases (show _ = [] from h); exact rfl
  | _ :: _, _, 0, _, _, h, r => by
    obtain ⟨y, ys, rfl, h1, h2⟩ := h
    exact RVs.cons r h2
  | _ :: _, _, i + 1, _, _, h, r => by
    obtain ⟨y, ys, rfl, h1, h2⟩ := h
    exact RVs.cons h1 (RVs.set i h2 r)
theorem RVs.ints : ∀ (ns : List Int), RVs K w (ns.map Val.int) (ns.map V.int)
  | [] => rfl
  | _ :: ns => RVs.cons rfl (RVs.ints ns)
/-- the same store, more frozen -/
theorem RS.freeze {st : Store} {H : Hp} {p : Addr} {o : HO} (h : RS K w st H) (hp : H p = none) : RS K ⟨upd w.F p o, w.e, w.G⟩ st (upd H p o) := by
  have nF : w.F p = none := by
    cases e : w.F p with
    | none => rfl
    | some o' => rw [h.sub _ _ e] at hp; cases hp
  have le : Le w ⟨upd w.F p o, w.e, w.G⟩ := ⟨fun q o' e => by
    show upd w.F p o q = some o'
    rw [upd_ne (fun z => by rw [z, nF] at e; cases e)]; exact e, fun _ _ e => e, rfl⟩
  have ne : ∀ i q, w.e[i]? = some q → q ≠ p := fun i q e z => by
    subst z
    have hl : i < st.length := by rw [← h.len]; exact (List.getElem?_eq_some_iff.mp e).1
    have := h.obj i q _ e (List.getElem?_eq_getElem hl)
    revert this
    cases st[i] with
    | lst vs => rintro ⟨xs, e', _⟩; rw [hp] at e'; cases e'
    | ins c ns vs => rintro ⟨dx, fs, e', _⟩; rw [hp] at e'; cases e'
  refine ⟨fun q o' e => ?_, h.len, fun i q s e1 e2 => ?_, h.nd, fun i q e => ?_, fun q o' e => ?_, h.gse, fun q n => ?_⟩
  · have e' : upd w.F p o q = some o' := e
    by_cases z : q = p
    · subst z
      rw [upd_same] at e'
      rw [upd_same]; exact e'
    · rw [upd_ne z] at e'
      rw [upd_ne z]; exact h.sub _ _ e'
  · have q' := h.obj i q s e1 e2
    have n := ne i q e1
    cases s with
    | lst vs =>
      obtain ⟨xs, e', z, r⟩ := q'
      exact ⟨xs, by rw [upd_ne n]; exact e', z, RVs.mono le vs r⟩
    | ins c ns vs =>
      obtain ⟨dx, fs, e', z, r⟩ := q'
      exact ⟨dx, fs, by rw [upd_ne n]; exact e', z, RVs.mono le vs r⟩
  · show upd w.F p o q = none
    rw [upd_ne (ne i q e)]; exact h.sep i q e
  · have e' := h.gub q o' e
    rw [upd_ne (fun z => by rw [z, hp] at e'; cases e')]; exact e'
  · show upd w.F p o q = none
    have nq : q ≠ p := fun z => by
      cases e : w.G q with
      | none => exact n e
      | some o' =>
        have := h.gub q o' e
        rw [z, hp] at this; cases this
    rw [upd_ne nq]; exact h.gF q n
theorem RS.freeze_le {st : Store} {H : Hp} {p : Addr} {o : HO} (h : RS K w st H) (hp : H p = none) : Le w ⟨upd w.F p o, w.e, w.G⟩ := ⟨fun q o' e => by
    show upd w.F p o q = some o'
    rw [upd_ne (fun z => by rw [z] at e; rw [h.sub _ _ e] at hp; cases hp)]; exact e, fun _ _ e => e, rfl⟩
theorem ro_some {H : Hp} {p : Addr} {s : SO} (h : RO K w H p s) : H p ≠ none := by
  cases s with
  | lst vs => obtain ⟨xs, e', _⟩ := h; rw [e']; exact fun z => nomatch z
  | ins c ns vs => obtain ⟨dx, fs, e', _⟩ := h; rw [e']; exact fun z => nomatch z
theorem RO.keep {H H' : Hp} {p : Addr} {s : SO} (l : Le w w') (h : RO K w H p s) (e : H' p = H p) : RO K w' H' p s := by
  cases s with
  | lst vs => obtain ⟨xs, e', z, r⟩ := h; exact ⟨xs, e.trans e', z, RVs.mono l vs r⟩
  | ins c ns vs => obtain ⟨dx, fs, e', z, r⟩ := h; exact ⟨dx, fs, e.trans e', z, RVs.mono l vs r⟩
theorem RS.at {st : Store} {H : Hp} {i : Nat} {p : Addr} (h : RS K w st H) (e : w.e[i]? = some p) : ∃ s, st[i]? = some s ∧ RO K w H p s := by
  have hl : i < st.length := by rw [← h.len]; exact (List.getElem?_eq_some_iff.mp e).1
  exact ⟨st[i], List.getElem?_eq_getElem hl, h.obj i p _ e (List.getElem?_eq_getElem hl)⟩
/-- a new object in the store -/
theorem RS.push {st : Store} {H H' : Hp} {p : Addr} {s : SO} (h : RS K w st H) (hp : H p = none) (k : ∀ q, q ≠ p → H q ≠ none → H' q = H q) (o : RO K ⟨w.F, w.e ++ [p], w.G⟩ H' p s) : RS K ⟨w.F, w.e ++ [p], w.G⟩ (st ++ [s]) H' := by
  have le : Le w ⟨w.F, w.e ++ [p], w.G⟩ := ⟨fun _ _ e => e, fun i q e => by
    show (w.e ++ [p])[i]? = some q
    rw [List.getElem?_append_left (List.getElem?_eq_some_iff.mp e).1]; exact e, rfl⟩
  have ne : ∀ q, H q ≠ none → q ≠ p := fun q n z => n (by rw [z]; exact hp)
  refine ⟨fun q o' e => ?_, by simp [h.len], fun i q s' e1 e2 => ?_, ?_, fun i q e => ?_, fun q o' e => ?_, fun i q e => ?_, h.gF⟩
  · have n : H q ≠ none := by rw [h.sub q o' e]; exact fun z => nomatch z
    rw [k q (ne q n) n]; exact h.sub q o' e
  · by_cases hi : i < w.e.length
    · have e1' : w.e[i]? = some q := by
        have z : (w.e ++ [p])[i]? = some q := e1
        rw [List.getElem?_append_left hi] at z; exact z
      rw [List.getElem?_append_left (by rw [← h.len]; exact hi)] at e2
      have q' := h.obj i q s' e1' e2
      have n := ro_some q'
      exact q'.keep le (k q (ne q n) n)
    · have e1' : (w.e ++ [p])[i]? = some q := e1
      rw [List.getElem?_append_right (by omega)] at e1'
      have h0 : i - w.e.length = 0 := by
        have := (List.getElem?_eq_some_iff.mp e1').1
        simp at this; omega
      rw [h0] at e1'
      have hq : p = q := by simpa using e1'
      subst hq
      rw [List.getElem?_append_right (by rw [← h.len]; omega), ← h.len, h0] at e2
      have hs : s = s' := by simpa using e2
      subst hs
      exact o
  · show (w.e ++ [p]).Nodup
    rw [List.nodup_append]
    refine ⟨h.nd, by simp, fun a ha b hb z => ?_⟩
    have hb' : b = p := by simpa using hb
    subst z hb'
    obtain ⟨i, hi⟩ := List.getElem?_of_mem ha
    obtain ⟨s', _, r⟩ := h.at hi
    exact ro_some r hp
  · have e' : (w.e ++ [p])[i]? = some q := e
    by_cases hi : i < w.e.length
    · rw [List.getElem?_append_left hi] at e'
      exact h.sep i q e'
    · rw [List.getElem?_append_right (by omega)] at e'
      have hq : p = q := by
        have := List.mem_of_getElem? e'
        simp at this; exact this.symm
      subst hq
      show w.F p = none
      cases z : w.F p with
      | none => rfl
      | some o' => rw [h.sub _ _ z] at hp; cases hp
  · have e' := h.gub q o' e
    have n : H q ≠ none := by rw [e']; exact fun z => nomatch z
    rw [k q (ne q n) n]; exact e'
  · have e' : (w.e ++ [p])[i]? = some q := e
    by_cases hi : i < w.e.length
    · rw [List.getElem?_append_left hi] at e'
      exact h.gse i q e'
    · rw [List.getElem?_append_right (by omega)] at e'
      have hq : p = q := by
        have := List.mem_of_getElem? e'
        simp at this; exact this.symm
      subst hq
      show w.G p = none
      cases z : w.G p with
      | none => rfl
      | some o' => rw [h.gub _ _ z] at hp; cases hp
theorem RS.push_le (p : Addr) : Le w ⟨w.F, w.e ++ [p], w.G⟩ := ⟨fun _ _ e => e, fun i q e => by
    show (w.e ++ [p])[i]? = some q
    rw [List.getElem?_append_left (List.getElem?_eq_some_iff.mp e).1]; exact e, rfl⟩
/-- an object of the store is changed -/
theorem RS.set {st : Store} {H : Hp} {i : Nat} {p : Addr} {s : SO} {o : HO} (h : RS K w st H) (e : w.e[i]? = some p) (r : RO K w (upd H p o) p s) : RS K w (st.set i s) (upd H p o) := by
  have il : i < w.e.length := (List.getElem?_eq_some_iff.mp e).1
  refine ⟨fun q o' z => ?_, by simp [h.len], fun j q s' e1 e2 => ?_, h.nd, h.sep, fun q o' z => ?_, h.gse, h.gF⟩
  · have n : q ≠ p := fun y => by subst y; rw [h.sep i q e] at z; cases z
    rw [upd_ne n]; exact h.sub q o' z
  · by_cases hj : j = i
    · subst hj
      rw [e] at e1; cases e1
      rw [List.getElem?_set_self (by rw [← h.len]; exact il)] at e2
      cases e2
      exact r
    · rw [List.getElem?_set_ne (Ne.symm hj)] at
                                                e2
      have n : q ≠ p := fun y => by
        subst y
        have jl : j < w.e.length := (List.getElem?_eq_some_iff.mp e1).1
        have a1 := (List.getElem?_eq_some_iff.mp e1).2
        have a2 := (List.getElem?_eq_some_iff.mp e).2
        exact hj ((List.getElem_inj h.nd).mp (a1.trans a2.symm))
      exact (h.obj j q s' e1 e2).keep (Le.refl w) (upd_ne n)
  · have n : q ≠ p := fun y => by subst y; rw [h.gse i q e] at z; cases z
    rw [upd_ne n]; exact h.gub q o' z
end

/-! ### results and what is wanted -/
section
variable (K : PySem.W.Frag)
def Post {α : Type} (w : Wd) (r : R α) (A : Wd → α → Store → Hp → Prop) (B : XK) : Prop := match r with
  | .ok a st' => ∀ w' H', Le w w' → RS K w' st' H' → A w' a st' H'
  | .err c ns vs st' => ∀ w' cls d H', Le w w' → RS K w' st' H' → XR K w' c ns vs cls d → B cls d H'
  | .stuck => False
end
section
variable {K : PySem.W.Frag} {w w' : Wd}
theorem Post.mono {α : Type} {r : R α} {A : Wd → α → Store → Hp → Prop} {B : XK} (l : Le w w') (h : Post K w r A B) : Post K w' r A B := by
  cases r with
  | ok a st => exact fun w2 H' l2 s => h w2 H' (l.trans l2) s
  | err c ns vs st => exact fun w2 cls d H' l2 s x => h w2 cls d H' (l.trans l2) s x
  | stuck => exact h
theorem Post.imp {α : Type} {r : R α} {A A' : Wd → α → Store → Hp → Prop} {B : XK} (h : Post K w r A B) (k : ∀ w' a st' H', Le w w' → RS K w' st' H' → A w' a st' H' → A' w' a st' H') : Post K w r A' B := by
  cases r with
  | ok a st => exact fun w2 H' l2 s => k w2 a st H' l2 s (h w2 H' l2 s)
  | err c ns vs st => exact h
  | stuck => exact h
/-- the first part of a result, then the rest -/
theorem Post.seq {α β : Type} {r : R α} {k : α → Store → R β} {A : Wd → β → Store → Hp → Prop} {B : XK} (h : Post K w (r.then_ k) A B) : Post K w r (fun w' a st' _ => Post K w' (k a st') A B) B := by
  cases r with
  | ok a st => exact fun w2 H' l2 s => (show Post K w (k a st) A B from h).mono l2
  | err c ns vs st => exact h
  | stuck => exact h
theorem Post.ok {α : Type} {a : α} {st : Store} {H : Hp} {A : Wd → α → Store → Hp → Prop} {B : XK} (h : Post K w (.ok a st) A B) (s : RS K w st H) : A w a st H := h w H (Le.refl w) s
theorem Post.of {α : Type} {o : Option α} {st : Store} {A : Wd → α → Store → Hp → Prop} {B : XK} (h : Post K w (R.of o st) A B) : ∃ a, o = some a ∧ ∀ w' H', Le w w' → RS K w' st H' → A w' a st H' := by
  cases o with
  | none => exact h.elim
  | some a => exact ⟨a, rfl, h⟩
end
end Mp
end

section
set_option Elab.async false
set_option linter.all false
set_option maxRecDepth 100000
set_option maxHeartbeats
                         1000000
namespace Mp
open PySem L2

/-! ### small facts -/
theorem sOk_append {x y : Str} (hx : sOk x) (hy : sOk y) (h : x.length + y.length ≤ sizeLine) : sOk (x ++ y) := by
  refine ⟨?_, ?_⟩
  · show (x.cps ++ y.cps).size ≤ _
    rw [Array.size_append]; exact h
  · have h1 := hx.2
    have h2 := hy.2
    unfold PyData.strOk at *
    show (x.cps ++ y.cps).all _ = true
    rw [Array.all_append, h1, h2]; rfl
theorem length_append (x y : Str) : (x ++ y).length = x.length + y.length := by
  show (x.cps ++ y.cps).size = _
  rw [Array.size_append]; rfl
theorem sOk_int {i : Int} (h : i.natAbs.log2 < 1920) : sOk (toString i : String) := by
  refine ⟨int_text_fits h, ?_⟩
  unfold PyData.strOk
  rw [Str.ofString_eq_toList]
  rw [← Array.all_toList]
  rw [List.all_eq_true]
  intro n hn
  simp only [List.mem_map] at hn
  obtain ⟨c, hc, rfl⟩ := hn
  have := int_ascii i c hc
  simp only [decide_eq_true_eq]
  omega
theorem sOk_one {z : Str} {c : Nat} (h : sOk z) (hc : c ∈ z.cps.toList) : sOk ⟨#[c]⟩ := by
  refine ⟨by show 1 ≤ sizeLine; rw [sizeLine_eq]; decide, ?_⟩
  have h1 := h.2
  unfold PyData.strOk at *
  rw [← Array.all_toList, List.all_eq_true] at h1
  simpa using h1 c hc
theorem sOk_sub {z : Str} {l : List Nat} (h : sOk z) (hl : l.length ≤ z.length) (hc : ∀ c ∈ l, c ∈ z.cps.toList) : sOk ⟨l.toArray⟩ := by
  refine ⟨?_, ?_⟩
  · show l.toArray.size ≤ sizeLine
    have := h.1
    rw [List.size_toArray]; omega
  · have h1 := h.2
    unfold PyData.strOk at *
    rw [← Array.all_toList, List.all_eq_true] at h1 ⊢
    intro c hm
    exact h1 c (hc c (by simpa using hm))

section
variable {K : PySem.W.Frag} {w : Wd} {st : Store} {H : Hp}
/-- a list of values: where it stands -/
theorem lstOf_rel {v : Val} {x : V} {vs : List Val} (hS : RS K w st H) (r : RV K w v x) (h : lstOf st v = some vs) : ∃ p xs, x = .ref p ∧ H p = some (.lst xs) ∧ vs.length ≤ sizeLine ∧ RVs K w vs xs := by
  cases v with
  | lst us =>
    obtain ⟨p, xs, e, s, z, rr⟩ := r
    have : us = vs := by simpa [lstOf] using h
    subst this
    exact ⟨p, xs, e, hS.sub _ _ s, z, rr⟩
  | ref i =>
    obtain ⟨p, e, s⟩ := r
    obtain ⟨o, h1, h2⟩ := hS.at s
    simp only [lstOf, h1] at h
    cases o with
    | lst us =>
      have : us = vs := by simpa using h
      subst this
      obtain ⟨xs, e', z, rr⟩ := h2
      exact ⟨p, xs, e, e', z, rr⟩
    | ins c ns ws => simp at h
  | _ => simp [lstOf] at h
theorem seqOf_rel {v : Val} {x : V} {vs : List Val} (hS : RS K w st H) (r : RV K w v x) (h : seqOf st v = some vs) : ∃ p xs, x = .ref p ∧ (SqL K H p xs ∨ SqT K H p xs) ∧ vs.length ≤ sizeLine ∧ RVs K w vs xs := by
  cases v with
  | tup us =>
    obtain ⟨p, xs, e, s, z, rr⟩ := r
    have : us = vs := by simpa [seqOf] using h
    subst this
    exact ⟨p, xs, e, .inr (SqT.mono hS.sub s), z, rr⟩
  | lst us =>
    obtain ⟨p, xs, e, s, z, rr⟩ := lstOf_rel hS r (show lstOf st (.lst us) = some vs from h)
    exact ⟨p, xs, e, .inl (SqL.of s), z, rr⟩
  | ref i =>
    obtain ⟨p, xs, e, s, z, rr⟩ := lstOf_rel hS r (show lstOf st (.ref i) = some vs from h)
    exact ⟨p, xs, e, .inl (SqL.of s), z, rr⟩
  | _ => simp [seqOf, lstOf] at h
theorem insOf_rel {v : Val} {x : V} {c : Str} {ns : List Str} {vs : List Val} (hS : RS K w st H) (r : RV K w v x) (h : insOf st v = some (c, ns, vs)) : ∃ p dx fs, x = .ref p ∧ H p = some (.ins (cA K c) dx fs) ∧ fs.map (·.1) = ns ∧ RVs K w vs (fs.map (·.2)) := by
  cases v with
  | ins c' ns' us =>
    obtain ⟨p, dx, fs, e, s, z, rr⟩ := r
    simp only [insOf, Option.some.injEq, Prod.mk.injEq] at h
    obtain ⟨rfl, rfl, rfl⟩ := h
    exact ⟨p, dx, fs, e, hS.sub _ _ s, z, rr⟩
  | ref i =>
    obtain ⟨p, e, s⟩ := r
    obtain ⟨o, h1, h2⟩ := hS.at s
    simp only [insOf, h1] at h
    cases o with
    | lst us => simp at h
    | ins c' ns' ws =>
      simp only [Option.some.injEq, Prod.mk.injEq] at h
      obtain ⟨rfl, rfl, rfl⟩ := h
      obtain ⟨dx, fs, e', z, rr⟩ := h2
      exact ⟨p, dx, fs, e, e', z, rr⟩
  | _ => simp [insOf] at h
theorem fld_rel {f : Str} : ∀ {ns : List Str} {vs : List Val} {fs : List (Str × V)}, fs.map (·.1) = ns → RVs K w vs (fs.map (·.2)) → (∀ v, fld ns vs f = some v → ∃ x, fs.lookup f = some x ∧ RV K w v x) ∧ (fld ns vs f = none → fs.lookup f = none)
  | _, vs, [], e, r => by
    subst e
    cases vs with
    | nil => exact ⟨fun v h => by simp [fld] at h, fun _ => rfl⟩
    | cons _ _ => obtain ⟨y, ys, e, _⟩ := r; simp at e
  | _, vs, (n, x) :: fs, e, r => by
    subst e
    cases vs with
    | nil => have := r.length; simp at this
    | cons v vs =>
      obtain ⟨y, ys, e, h1, h2⟩ := r
      simp only [List.map_cons, List.cons.injEq] at
                                                    e
      obtain ⟨rfl, rfl⟩ := e
      have ih := fld_rel (f := f) (fs := fs) rfl h2
      by_cases q : n = f
      · subst q
        refine ⟨fun u h => ⟨x, by simp, ?_⟩, fun h => ?_⟩
        · simp [fld] at h; subst h; exact h1
        · simp [fld] at h
      · have hb : (f == n) = false := beq_eq_false_iff_ne.mpr fun z => q z.symm
        refine ⟨fun u h => ?_, fun h => ?_⟩
        · have h' : fld (fs.map (·.1)) vs f = some u := by simpa [fld, q] using h
          obtain ⟨z, h3, h4⟩ := ih.1 u h'
          exact ⟨z, by simpa [List.lookup, hb] using h3, h4⟩
        · have h' : fld (fs.map (·.1)) vs f = none := by simpa [fld, q] using h
          simpa [List.lookup, hb] using ih.2 h'
theorem putV_rel {f : Str} {y : Val} {x : V} (rx : RV K w y x) : ∀ {ns : List Str} {vs : List Val} {fs : List (Str × V)}, fs.map (·.1) = ns → RVs K w vs (fs.map (·.2)) → (putF f x fs).map (·.1) = (putV ns vs f y).1 ∧ RVs K w (putV ns vs f y).2 ((putF f x fs).map (·.2))
  | _, vs, [], e, r => by
    subst e
    cases vs with
    | nil => exact ⟨rfl, RVs.cons rx RVs.nil⟩
    | cons _ _ => obtain ⟨y, ys, e, _⟩ := r; simp at e
  | _, vs, (n, z) :: fs, e, r => by
    subst e
    cases vs with
    | nil => have := r.length; simp at this
    | cons v vs =>
      obtain ⟨y', ys, e, h1, h2⟩ := r
      simp only [List.map_cons, List.cons.injEq] at
                                                    e
      obtain ⟨rfl, rfl⟩ := e
      by_cases q : n = f
      · subst q
        simp only [putF, putV, List.map_cons, if_true]
        exact ⟨trivial, RVs.cons rx h2⟩
      · have ih := putV_rel (f := f) rx (fs := fs) rfl h2
        simp only [putF, putV, List.map_cons, if_neg q]
        exact ⟨by rw [ih.1], RVs.cons h1 ih.2⟩
/-- ints, bools, texts -/
theorem ints_rel : ∀ {vs : List Val} {xs : List V} {ns : List Int}, RVs K w vs xs → intL vs = some ns → xs = ns.map V.int
  | [], _, ns, h, e => by cases (show _ = [] from h); simp [intL] at e; subst e; rfl
  | v :: vs, _, ns, h, e => by
    obtain ⟨y, ys, rfl, h1, h2⟩ := h
    cases v with
    | int i =>
      simp only [intL, Option.map_eq_some_iff] at e
      obtain ⟨ms, e1, rfl⟩ := e
      cases (show y = .int i from h1)
      rw [ints_rel h2 e1]; rfl
    | _ => simp [intL] at e
theorem bools_rel : ∀ {vs : List Val} {xs : List V} {ns : List Bool}, RVs K w vs xs → boolL vs = some ns → xs = ns.map V.bl
  | [], _, ns, h, e => by cases (show _ = [] from h); simp [boolL] at e; subst e; rfl
  | v :: vs, _, ns, h, e => by
    obtain ⟨y, ys, rfl, h1, h2⟩ := h
    cases v with
    | bl i =>
      simp only [boolL, Option.map_eq_some_iff] at e
      obtain ⟨ms, e1, rfl⟩ := e
      cases (show y = .bl i from h1)
      rw [bools_rel h2 e1]; rfl
    | _ => simp [boolL] at e
theorem strs_rel : ∀ {vs : List Val} {xs : List V} {ns : List Str}, RVs K w vs xs → strL vs = some ns → xs = ns.map V.str ∧ ∀ z ∈ ns, sOk z
  | [], _, ns, h, e => by cases (show _ = [] from h); simp [strL] at e; subst e; exact ⟨rfl, by simp⟩
  | v :: vs, _, ns, h, e => by
    obtain ⟨y, ys, rfl, h1, h2⟩ := h
    cases v with
    | str i =>
      simp only [strL, Option.map_eq_some_iff] at e
      obtain ⟨ms, e1, rfl⟩ := e
      obtain ⟨rfl, hs⟩ : y = .str i ∧ sOk i := h1
      obtain ⟨e2, e3⟩ := strs_rel h2 e1
      exact ⟨by rw [e2]; rfl, by simpa using ⟨hs, e3⟩⟩
    | _ => simp [strL] at e
/-- a new frozen thing is handed on -/
theorem give_tup {vs : List Val} {xs : List V} {A : Wd → Val → Store → Hp → Prop} (hS : RS K w st H) (r : RVs K w vs xs) (hz : vs.length ≤ sizeLine) (h : ∀ w' H', Le w w' → RS K w' st H' → A w' (.tup vs) st H') {Q : VK} (k : ∀ w' H', A w' (.tup vs) st H' → ∀ x, RV K w' (.tup vs) x → Q x H') : ∀ p, H p = none → Q (.ref p) (upd H p (.tup xs)) := by
  intro p hp
  have s := hS.freeze (o := .tup xs) hp
  have l := hS.freeze_le (o := .tup xs) hp
  refine k _ _ (h _ _ l s) (.ref p) ⟨p, xs, rfl, SqT.of (H := upd w.F p (.tup xs)) upd_same, hz, RVs.mono l _ r⟩
theorem give_lst {vs : List Val} {xs : List V} {A : Wd → Val → Store → Hp → Prop} (hS : RS K w st H) (r : RVs K w vs xs) (hz : vs.length ≤ sizeLine) (h : ∀ w' H', Le w w' → RS K w' st H' → A w' (.lst vs) st H') {Q : VK} (k : ∀ w' H', A w' (.lst vs) st H' → ∀ x, RV K w' (.lst vs) x → Q x H') : ∀ p, H p = none → Q (.ref p) (upd H p (.lst xs)) := by
  intro p hp
  have s := hS.freeze (o := .lst xs) hp
  have l := hS.freeze_le (o := .lst xs) hp
  exact k _ _ (h _ _ l s) (.ref p) ⟨p, xs, rfl, show (upd w.F p (.lst xs)) p = _ from upd_same, hz, RVs.mono l _ r⟩
end

/-! ### rules by values -/
/-- what an operation on two values asks -/
def PV (K : PySem.W.Frag) (w : Wd) (st : Store) (o : Option Val) (Q : VK) : Prop := ∃ v, o = some v ∧ ∀ w' H', Le w w' → RS K w' st H' → ∀ x, RV K w' v x → Q x H'
def rOp (K : PySem.W.Frag) (f : Store → Val → Val → Option Val) : R2 := fun x y H Q => ∃ w st a b, RS K w st H ∧ RV K w a x ∧ RV K w b y ∧ PV K w st (f st a b) Q
def pyop : Bop → Operator
  | .add => .Add | .sub => .Sub | .mul => .Mult | .fdiv => .FloorDiv | .mod => .Mod | .pow => .Pow
def pycop : Cop → CmpOp
  | .eq => .Eq | .ne => .NotEq | .lt => .Lt | .le => .LtE | .gt => .Gt | .ge => .GtE | .isn => .Is | .notn => .IsNot | .inn => .In | .notin => .NotIn
section
variable {X : Cx}
theorem now {K : PySem.W.Frag} {w : Wd} {st : Store} {H : Hp} {v : Val} {x : V} {Q : VK} (hS : RS K w st H) (h : ∀ w' H', Le w w' → RS K w' st H' → ∀ x, RV K w' v x → Q x H') (r : RV K w v x) : Q x H := h w H (Le.refl w) hS x r
theorem reps {K : PySem.W.Frag} {w : Wd} {us : List Val} {xs : List V} : ∀ n : Nat, RVs K w us xs → RVs K w (List.replicate n us).flatten (List.replicate n xs).flatten
  | 0, _ => RVs.nil
  | n + 1, h => by
    rw [List.replicate_succ, List.replicate_succ, List.flatten_cons,
                                                                     List.flatten_cons]
    exact RVs.append h (reps n h)
theorem op_bin (op : Bop) : OpR X (binaryOp (pyop op)) (rOp X.K fun st a b => binV st op a b) := by
  intro pins s σ H x y v u Q I rx ry
                                     h
  obtain ⟨w, st, a, b, hS, ra, rb, c, e, q⟩ := h
  replace e : binV st op a b = some c := e
  have lists : ∀ {us ws : List Val}, lstOf st a = some us → lstOf st b = some ws → op = .add → us.length + ws.length ≤ sizeLine → c = .lst (us ++ ws) → wpAny (model X.prog X.w) X.A (binaryOp (pyop op) v u) (EP X pins σ Q) X.xe s := by
    intro us ws h1 h2 ho hz hc
    subst ho hc
    obtain ⟨p, xs, rfl, e1, z1, r1⟩ := lstOf_rel hS ra h1
    obtain ⟨p2, ys, rfl, e2, z2, r2⟩ := lstOf_rel hS rb h2
    refine op_cat pins s σ H _ _ v u Q I rx ry ⟨p, p2, xs, ys, rfl, rfl, e1, e2, by rw [← r1.length, ← r2.length]; exact hz, ?_⟩
    exact give_lst (A := fun w' v st' H' => ∀ x, RV X.K w' v x → Q x H') hS (r1.append r2) (by rw [List.length_append]; exact hz) q (fun _ _ h => h)
  have other : (binV st op a b = match lstOf st a, lstOf st b with
    | some xs, some ys => if op = .add ∧ xs.length + ys.length ≤ sizeLine then some (.lst (xs ++ ys)) else none
    | _, _ => none) → wpAny (model X.prog X.w) X.A (binaryOp (pyop op) v u) (EP X pins σ Q) X.xe s := by
    intro hb
    rw [hb] at e
    cases h1 : lstOf st a with
    | none => rw [h1] at e; cases e
    | some us =>
      cases h2 : lstOf st b with
      | none => rw [h1, h2] at e; cases e
      | some ws =>
        rw [h1, h2] at e
        by_cases hc : op = .add ∧ us.length + ws.length ≤ sizeLine
        · simp only [if_pos hc] at e
          exact lists h1 h2 hc.1 hc.2 (by simpa using e.symm)
        · simp only [if_neg hc] at e; cases e
  cases a with
  | int i =>
    cases b with
    | int j =>
      cases (show x = .int i from ra)
      cases (show y = .int j from rb)
      simp only [binV, Option.map_eq_some_iff] at e
      obtain ⟨k, e, rfl⟩ := e
      have fin := now (x := .int k) hS q rfl
      cases op with
      | add => simp [binI] at e; subst e; exact op_add pins s σ H _ _ v u Q I rx ry ⟨i, j, rfl, rfl, fin⟩
      | sub => simp [binI] at e; subst e; exact op_sub pins s σ H _ _ v u Q I rx ry ⟨i, j, rfl, rfl, fin⟩
      | mul =>
        simp only [binI] at e
        split at e
        · rename_i hc; cases e; exact op_mul pins s σ H _ _ v u Q I rx ry ⟨i, j, rfl, rfl, hc, fin⟩
        · cases e
      | fdiv =>
        simp only [binI] at e
        split at e
        · rename_i hc; cases e; exact op_fdiv pins s σ H _ _ v u Q I rx ry ⟨i, j, rfl, rfl, hc, fin⟩
        · cases e
      | mod =>
        simp only [binI] at e
        split at e
        · rename_i hc; cases e; exact op_mod pins s σ H _ _ v u Q I rx ry ⟨i, j, rfl, rfl, hc, fin⟩
        · cases e
      | pow =>
        simp only [binI] at e
        split at e
        · rename_i hc; cases e; exact op_pow pins s σ H _ _ v u Q I rx ry ⟨i, j, rfl, rfl, hc, fin⟩
        · cases e
    | _ => exact other rfl
  | str i =>
    cases b with
    | str j =>
      obtain ⟨rfl, si⟩ : x = .str i ∧ sOk i := ra
      obtain ⟨rfl, sj⟩ : y = .str j ∧ sOk j := rb
      simp only [binV] at e
      split at e
      · rename_i hc
        cases e
        obtain ⟨rfl, hz⟩ := hc
        exact op_add_str pins s σ H _ _ v u Q I rx ry ⟨i, j, rfl, rfl, hz, now hS q ⟨rfl, sOk_append si sj hz⟩⟩
      · cases e
    | _ => exact other rfl
  | tup us =>
    cases b with
    | tup ws =>
      obtain ⟨p, xs, rfl, s1, z1, r1⟩ := ra
      obtain ⟨p2, ys, rfl, s2, z2, r2⟩ := rb
      simp only [binV] at e
      split at e
      · rename_i hc
        cases e
        obtain ⟨rfl, hne, hz⟩ := hc
        have l1 := r1.length
        have l2 := r2.length
        refine op_catT pins s σ H _ _ v u Q I rx ry ⟨p, p2, xs, ys, rfl, rfl, SqT.mono hS.sub s1, SqT.mono hS.sub s2, fun z => hne ?_, by omega, fun z => ?_, fun z => ?_⟩
        · subst z; exact List.length_eq_zero_iff.mp (by simpa using l1)
        · subst z
          have : ws = [] := List.length_eq_zero_iff.mp (by simpa using l2)
          subst this
          exact now hS q ⟨p, xs, rfl, s1, by simpa using z1, by simpa using r1⟩
        · exact give_tup (A := fun w' v st' H' => ∀ x, RV X.K w' v x → Q x H') hS (r1.append r2) (by rw [List.length_append]; exact hz) q (fun _ _ h => h)
      · cases e
    | _ => exact other rfl
  | lst us =>
    cases b with
    | int k =>
      obtain ⟨p, xs, rfl, hF, z1, r1⟩ := lstOf_rel hS ra (show lstOf st (.lst us) = some us from rfl)
      cases (show y = .int k from rb)
      simp only [binV] at e
      split at e
      · rename_i hc
        cases e
        obtain ⟨rfl, hk0, hk1, hl⟩ := hc
        have l1 := r1.length
        have hz : us.length * k.toNat ≤ 1000 * 1000 := Nat.mul_le_mul hl (by omega)
        have ef : (List.replicate k.toNat us).flatten.length = k.toNat * us.length := by simp
        refine op_rep pins s σ H _ _ v u Q I rx ry ⟨p, k, xs, rfl, rfl, hF, by omega, by omega, by rw [← l1, sizeLine_eq]; omega, ?_⟩
        exact give_lst (A := fun w' v st' H' => ∀ x, RV X.K w' v x → Q x H') hS (reps k.toNat r1) (by rw [ef, Nat.mul_comm, sizeLine_eq]; omega) q (fun _ _ h => h)
      · cases e
    | _ => exact other rfl
  | _ => exact other (by cases b <;> rfl)

/-! ### == of data -/
mutual
def toPD : Val → PyData
  | .bl b => .bool b
  | .int i => .int i
  | .str x => .str x
  | .tup xs => .tuple (toPDs xs)
  | .lst xs => .list (toPDs xs)
  | _ => .none
def toPDs : List Val → List PyData
  | [] => []
  | x :: xs => toPD x :: toPDs xs
end
mutual
theorem dp_of {w : Wd} {st : Store} {H : Hp} (hS : RS X.K w st H) : ∀ (v : Val) {x : V}, isD v = true → RV X.K w v x → Dp X.K H x (toPD v)
  | .non, _, _, r => by cases (show _ = V.non from r); exact .non
  | .bl b, _, _, r => by cases (show _ = V.bl b from r); exact .bl b
  | .int i, _, _, r => by cases (show _ = V.int i from r); exact .int i
  | .str z, _, _, r => by obtain ⟨rfl, _⟩ := r; exact .str z
  | .tup vs, _, d, r => by
    obtain ⟨p, xs, rfl, s, _, rr⟩ := r
    exact .tup (SqT.mono hS.sub s) (dps_of hS vs (by simpa [isD] using d) rr)
  | .lst vs, _, d, r => by
    obtain ⟨p, xs, rfl, s, _, rr⟩ := r
    exact .lst (SqL.of (hS.sub _ _ s)) (dps_of hS vs (by simpa [isD] using d) rr)
  | .ins _ _ _, _, d, _ => by simp [isD] at d
  | .scr _, _, d, _ => by simp [isD] at d
  | .ref _, _, d, _ => by simp [isD] at d
theorem dps_of {w : Wd} {st : Store} {H : Hp} (hS : RS X.K w st H) : ∀ (vs : List Val) {xs : List V}, isDs vs = true → RVs X.K w vs xs → DpAll X.K H xs (toPDs vs)
  | [], _, _, r => by cases (show _ = [] from r); exact .nil
  | v :: vs, _, d, r => by
    obtain ⟨y, ys, rfl, h1, h2⟩ := r
    simp only [isDs, Bool.and_eq_true] at d
    exact .cons (dp_of hS v d.1 h1) (dps_of hS vs d.2 h2)
end
mutual
theorem lay_of {K : PySem.W.Frag} {w : Wd} : ∀ (v : Val) {x : V}, isD v = true → RV K w v x → (toPD v).canLay0 = true ∧ (toPD v).depth = vdep v
  | .non, _, _, r => ⟨rfl, rfl⟩
  | .bl b, _, _, r => ⟨rfl, rfl⟩
  | .int i, _, _, r => ⟨rfl, rfl⟩
  | .str z, _, _, r => ⟨by simpa [toPD, PyData.canLay0] using r.2.2, rfl⟩
  | .tup vs, _, d, r => by
    obtain ⟨p, xs, rfl, s, _, rr⟩ := r
    obtain ⟨a, b⟩ := lays_of vs (by simpa [isD] using d) rr
    exact ⟨by simpa [toPD, PyData.canLay0] using a, by simp [toPD, PyData.depth, vdep, b]⟩
  | .lst vs, _, d, r => by
    obtain ⟨p, xs, rfl, s, _, rr⟩ := r
    obtain ⟨a, b⟩ := lays_of vs (by simpa [isD] using d) rr
    exact ⟨by simpa [toPD, PyData.canLay0] using a, by simp [toPD, PyData.depth, vdep, b]⟩
  | .ins _ _ _, _, d, _ => by simp [isD] at d
  | .scr _, _, d, _ => by simp [isD] at d
  | .ref _, _, d, _ => by simp [isD] at d
theorem lays_of {K : PySem.W.Frag} {w : Wd} : ∀ (vs : List Val) {xs : List V}, isDs vs = true → RVs K w vs xs → PyData.canLayAll0 (toPDs vs) = true ∧ PyData.depthAll (toPDs vs) = vdeps vs
  | [], _, _, r => ⟨rfl, rfl⟩
  | v :: vs, _, d, r => by
    obtain ⟨y, ys, rfl, h1, h2⟩ := r
    simp only [isDs, Bool.and_eq_true] at d
    obtain ⟨a1, b1⟩ := lay_of v d.1 h1
    obtain ⟨a2, b2⟩ := lays_of vs d.2 h2
    exact ⟨by simp [toPDs, PyData.canLayAll0, a1, a2], by simp [toPDs, PyData.depthAll, vdeps, b1, b2]⟩
end
mutual
theorem eqv_veq : ∀ (a b : Val), isD a = true → isD b = true → PyData.eqv (toPD a) (toPD b) = veq a b
  | .non, b, _, hb => by cases b <;> simp_all [isD, toPD, PyData.eqv, veq]
  | .bl i, b, _, hb => by cases b <;> simp_all [isD, toPD, PyData.eqv, veq]
  | .int i, b, _, hb => by cases b <;> simp_all [isD, toPD, PyData.eqv, veq]
  | .str i, b, _, hb => by cases b <;> simp_all [isD, toPD, PyData.eqv, veq]
  | .tup xs, b, ha, hb => by
    cases b with
    | tup ys =>
      have := eqvs_veqs xs ys (by simpa [isD] using ha) (by simpa [isD] using hb)
      simpa [toPD, PyData.eqv, veq] using this
    | _ => simp_all [isD, toPD, PyData.eqv, veq]
  | .lst xs, b, ha, hb => by
    cases b with
    | lst ys =>
      have := eqvs_veqs xs ys (by simpa [isD] using ha) (by simpa [isD] using hb)
      simpa [toPD, PyData.eqv, veq] using this
    | _ => simp_all [isD, toPD, PyData.eqv, veq]
  | .ins _ _ _, _, d, _ => by simp [isD] at d
  | .scr _, _, d, _ => by simp [isD] at d
  | .ref _, _, d, _ => by simp [isD] at d
theorem eqvs_veqs : ∀ (a b : List Val), isDs a = true → isDs b = true → PyData.eqvAll (toPDs a) (toPDs b) = veqs a b
  | [], [], _, _ => rfl
  | [], _ :: _, _, _ => rfl
  | _ :: _, [], _, _ => rfl
  | x :: xs, y :: ys, ha, hb => by
    simp only [isDs, Bool.and_eq_true] at ha hb
    simp [toPDs, PyData.eqvAll, veqs, eqv_veq x y ha.1 hb.1, eqvs_veqs xs ys ha.2 hb.2]
end
theorem top_rel {w : Wd} {st : Store} {H : Hp} {v : Val} {x : V} (hS : RS X.K w st H) (r : RV X.K w v x) (ok : okD (top st v) = true) : ∃ d, Dp X.K H x d ∧ SeqAt.shaped d = true ∧ d = toPD (top st v) ∧ isD (top st v) = true := by
  obtain ⟨o1, o2⟩ := Bool.and_eq_true_iff.mp ok
  refine ⟨toPD (top st v), ?_, ?_, rfl, o1⟩
  all_goals
    unfold top at o1 o2 ⊢
    cases e : lstOf st v with
    | none =>
      simp only [e] at o1 o2 ⊢
      first
        | exact dp_of hS v o1 r
        | (obtain ⟨a, b⟩ := lay_of v o1 r
           unfold SeqAt.shaped
           rw [a, b]
           have := of_decide_eq_true o2
           simp; omega)
    | some vs =>
      simp only [e] at o1 o2 ⊢
      obtain ⟨p, xs, rfl, hp, hz, rr⟩ := lstOf_rel hS r e
      first
        | exact .lst (SqL.of hp) (dps_of hS vs (by simpa [isD] using o1) rr)
        | (obtain ⟨a, b⟩ := lays_of vs (by simpa [isD] using o1) rr
           unfold SeqAt.shaped
           have := of_decide_eq_true o2
           simp only [vdep] at this
           simp [toPD, PyData.canLay0, PyData.depth, a, b]; omega)
theorem eqD_ok {w : Wd} {st : Store} {H : Hp} {a b : Val} {x y : V} {k : Bool} (hS : RS X.K w st H) (ra : RV X.K w a x) (rb : RV X.K w b y) (h : eqD st a b = some k) : ∃ d e, Dp X.K H x d ∧ Dp X.K H y e ∧ SeqAt.shaped d = true ∧ SeqAt.shaped e = true ∧ PyData.eqv d e = k := by
  unfold eqD at h
  split at h
  · rename_i hc
    obtain ⟨o1, o2⟩ := Bool.and_eq_true_iff.mp hc
    obtain ⟨d, h1, h2, e1, i1⟩ := top_rel hS ra o1
    obtain ⟨e, h3, h4, e2, i2⟩ := top_rel hS rb o2
    refine ⟨d, e, h1, h3, h2, h4, ?_⟩
    rw [e1, e2, eqv_veq _ _ i1 i2]
    simpa using h
  · cases h
end
end Mp
end

section
set_option Elab.async false
set_option linter.all false
set_option maxRecDepth 100000
set_option maxHeartbeats
                         1000000
namespace Mp
open PySem L2 PySem.Spec PyProof.Rows

section
variable {X : Cx}
theorem flat_rel {K : PySem.W.Frag} {w : Wd} {a : Val} {x : V} (f : flat a = true) (r : RV K w a x) : flatV x = true := by
  cases a with
  | non => cases (show x = .non from r); rfl
  | bl _ => cases (show x = .bl _ from r); rfl
  | int _ => cases (show x = .int _ from r); rfl
  | str _ => obtain ⟨rfl, _⟩ := r; rfl
  | _ => simp [flat] at f
theorem flats_rel {K : PySem.W.Frag} {w : Wd} : ∀ {vs : List Val} {xs : List V}, vs.all flat = true → RVs K w vs xs → xs.all flatV = true
  | [], _, _, r => by cases (show _ = [] from r); rfl
  | v :: vs, _, f, r => by
    obtain ⟨y, ys, rfl, h1, h2⟩ := r
    simp only [List.all_cons, Bool.and_eq_true] at f ⊢
    exact ⟨flat_rel f.1 h1, flats_rel f.2 h2⟩
theorem eqV_rel {K : PySem.W.Frag} {w : Wd} {a b : Val} {x y : V} (fa : flat a = true) (fb : flat b = true) (ra : RV K w a x) (rb : RV K w b y) : eqV x y = veq a b := by
  cases a with
  | non => cases (show x = .non from ra); cases b <;> first | (simp [flat] at fb; done) | (first | cases (show y = _ from rb) | obtain ⟨rfl, _⟩ := rb) <;> rfl
  | bl _ => cases (show x = .bl _ from ra); cases b <;> first | (simp [flat] at fb; done) | (first | cases (show y = _ from rb) | obtain ⟨rfl, _⟩ := rb) <;> rfl
  | int _ => cases (show x = .int _ from ra); cases b <;> first | (simp [flat] at fb; done) | (first | cases (show y = _ from rb) | obtain ⟨rfl, _⟩ := rb) <;> rfl
  | str _ => obtain ⟨rfl, _⟩ := ra; cases b <;> first | (simp [flat] at fb; done) | (first | cases (show y = _ from rb) | obtain ⟨rfl, _⟩ := rb) <;> rfl
  | _ => simp [flat] at fa
theorem inV_rel {K : PySem.W.Frag} {w : Wd} {a : Val} {x : V} (fa : flat a = true) (ra : RV K w a x) : ∀ {vs : List Val} {xs : List V}, vs.all flat = true → RVs K w vs xs → inV x xs = inL a vs
  | [], _, _, r => by cases (show _ = [] from r); rfl
  | v :: vs, _, f, r => by
    obtain ⟨y, ys, rfl, h1, h2⟩ := r
    simp only [List.all_cons, Bool.and_eq_true] at f
    have ih := inV_rel fa ra f.2 h2
    unfold inV inL at *
    rw [List.any_cons, List.any_cons, ih, eqV_rel f.1 fa h1 ra]
/-- a comparison -/
def PB (K : PySem.W.Frag) (w : Wd) (st : Store) (o : Option Bool) (Q : Bool → Hp → Prop) : Prop := ∃ k, o = some k ∧ ∀ w' H', Le w w' → RS K w' st H' → Q k H'
def rCmp (K : PySem.W.Frag) (op : Cop) : R2 := fun x y H Q => ∃ w st a b, RS K w st H ∧ RV K w a x ∧ RV K w b y ∧ PB K w st (cmpV st op a b) fun k H' => Q (.bl k) H'
theorem nowB {K : PySem.W.Frag} {w : Wd} {st : Store} {H : Hp} {k : Bool} {Q : Bool → Hp → Prop} (hS : RS K w st H) (h : ∀ w' H', Le w w' → RS K w' st H' → Q k H') : Q k H := h w H (Le.refl w) hS
theorem non_iff {K : PySem.W.Frag} {w : Wd} {a : Val} {x : V} (r : RV K w a x) : decide (x = .non) = isNon a := by
  cases a with
  | non => cases (show x = .non from r); rfl
  | bl _ => cases (show x = .bl _ from r); rfl
  | int _ => cases (show x = .int _ from r); rfl
  | str _ => obtain ⟨rfl, _⟩ := r; rfl
  | tup _ => obtain ⟨p, xs, rfl, _⟩ := r; rfl
  | lst _ => obtain ⟨p, xs, rfl, _⟩ := r; rfl
  | ins _ _ _ => obtain ⟨p, xs, fs, rfl, _⟩ := r; rfl
  | scr _ => obtain ⟨p, rfl, _⟩ := r; rfl
  | ref _ => obtain ⟨p, rfl, _⟩ := r; rfl
theorem any_pd : ∀ (a : Val) (xs : List Val), isD a = true → isDs xs = true → (toPDs xs).any (fun z => PyData.eqv z (toPD a)) = inL a xs
  | a, [], _, _ => rfl
  | a, x :: xs, ha, hx => by
    simp only [isDs, Bool.and_eq_true] at hx
    unfold inL
    simp only [toPDs, List.any_cons, eqv_veq x a hx.1 ha]
    rw [any_pd a xs ha hx.2]; rfl
theorem op_cmp (op : Cop) (hu65 : X.A.units + 65 < cLine) : OpR X (compareOp (pycop op)) (rCmp X.K op) := by
  intro pins s σ H x y v u Q I rx ry
                                     h
  obtain ⟨w, st, a, b, hS, ra, rb, k, e, q⟩ := h
  have fin : Q (.bl k) H := nowB (Q := fun k H' => Q (.bl k) H') hS q
  have hu : X.A.units + 64 < cLine := by omega
  have seq : ∀ (neg : Bool), (op = if neg then .notin else .inn) → ((memV st a b).map fun c => if neg then !c else c) = some k → wpAny (model X.prog X.w) X.A (compareOp (pycop op) v u) (EP X pins σ Q) X.xe s := by
    intro neg ho e0
    obtain ⟨c, e1, e2⟩ := Option.map_eq_some_iff.mp e0
    unfold memV at e1
    cases h1 : seqOf st b with
    | none => rw [h1] at e1; cases e1
    | some vs =>
      rw [h1] at e1
      simp only at e1
      obtain ⟨p, xs, rfl, hp, hz, rr⟩ := seqOf_rel hS rb h1
      split at e1
      · rename_i hc
        obtain ⟨f1, f2⟩ := Bool.and_eq_true_iff.mp hc
        have ei := inV_rel f1 ra f2 rr
        have ec : inL a vs = c := by simpa using e1
        cases neg with
        | true =>
          subst ho
          exact op_notIn_seq pins s σ H _ _ v u Q I rx ry ⟨p, xs, rfl, hp, flat_rel f1 ra, flats_rel f2 rr, by
            have e' : (!c) = k := e2
            simp only [if_true, ei, ec, e']; exact fin⟩
        | false =>
          subst ho
          exact op_in_seq pins s σ H _ _ v u Q I rx ry ⟨p, xs, rfl, hp, flat_rel f1 ra, flats_rel f2 rr, by
            have e' : c = k := e2
            simp only [Bool.false_eq_true, if_false, ei, ec, e']; exact fin⟩
      · split at e1
        · rename_i hc
          simp only [Bool.and_eq_true] at
                                          hc
          obtain ⟨⟨o1, o2⟩, o3⟩ := hc
          obtain ⟨us, h2⟩ := Option.isSome_iff_exists.mp o3
          have hv : us = vs := by
            have : seqOf st b = lstOf st b := by
              cases b <;> first | rfl | (cases h2; done)
            rw [h1, h2] at this
            exact (Option.some.inj
                                   this).symm
          subst hv
          have ht : top st b = .lst us := by unfold top; rw [h2]
          obtain ⟨d1, g1, g2, g3, g4⟩ := top_rel hS ra o1
          obtain ⟨d2, k1, k2, k3, k4⟩ := top_rel hS rb o2
          rw [ht] at k3 k4
          subst g3
          subst k3
          have ea := any_pd (top st a) us g4 (by simpa [isD] using k4)
          have ec : inL (top st a) us = c := by simpa using e1
          cases neg with
          | true =>
            subst ho
            exact op_notInD hu65 pins s σ H _ _ v u Q I rx ry ⟨_, _, g1, k1, g2, k2, by
              have e' : (!c) = k := e2
              rw [ea, ec, e']; exact fin⟩
          | false =>
            subst ho
            exact op_inD hu65 pins s σ H _ _ v u Q I rx ry ⟨_, _, g1, k1, g2, k2, by
              have e' : c = k := e2
              rw [ea, ec, e']; exact fin⟩
        · cases e1
  cases op with
  | isn =>
    cases b with
    | non =>
      simp only [cmpV] at e
      refine op_isN pins s σ H _ _ v u Q I rx ry ⟨rb, ?_⟩
      rw [non_iff ra]
      cases e; exact fin
    | _ => simp [cmpV] at e
  | notn =>
    cases b with
    | non =>
      simp only [cmpV] at e
      refine op_notN pins s σ H _ _ v u Q I rx ry ⟨rb, ?_⟩
      rw [non_iff ra]
      cases e; exact fin
    | _ => simp [cmpV] at e
  | inn =>
    by_cases hs : ∃ z y', a = .str z ∧ b = .str y'
    · obtain ⟨z, y', rfl, rfl⟩ := hs
      obtain ⟨rfl, _⟩ := ra
      obtain ⟨rfl, _⟩ := rb
      simp only [cmpV, Option.some.injEq] at e
      refine op_in_str pins s σ H _ _ v u Q I rx ry ⟨z, y', rfl, rfl, ?_⟩
      have e' : (!(Builtin.Str.occurrences y' z 0 y'.length 1).isEmpty) = k := e
      rw [e']; exact fin
    · refine seq false rfl ?_
      rw [← e]
      have e3 : cmpV st .inn a b = memV st a b := by
        unfold cmpV
        cases a <;> cases b <;> first | rfl | exact absurd ⟨_, _, rfl, rfl⟩ hs
      rw [e3]
      cases memV st a b <;> rfl
  | notin =>
    by_cases hs : ∃ z y', a = .str z ∧ b = .str y'
    · obtain ⟨z, y', rfl, rfl⟩ := hs
      obtain ⟨rfl, _⟩ := ra
      obtain ⟨rfl, _⟩ := rb
      simp only [cmpV, Option.some.injEq] at e
      refine op_notIn_str pins s σ H _ _ v u Q I rx ry ⟨z, y', rfl, rfl, ?_⟩
      have e' : (!(!(Builtin.Str.occurrences y' z 0 y'.length 1).isEmpty)) = k := e
      rw [e']; exact fin
    · refine seq true rfl ?_
      rw [← e]
      have e3 : cmpV st .notin a b = (memV st a b).map (!·) := by
        unfold cmpV
        cases a <;> cases b <;> first | rfl | exact absurd ⟨_, _, rfl, rfl⟩ hs
      rw [e3]
      cases memV st a b <;> rfl
  | eq =>
    obtain ⟨d, e', h1, h2, h3, h4, h5⟩ := eqD_ok hS ra rb (show eqD st a b = some k from e)
    exact op_eqD hu pins s σ H _ _ v u Q I rx ry ⟨d, e', h1, h2, h3, h4, by rw [h5]; exact fin⟩
  | ne =>
    have e0 : (eqD st a b).map (!·) = some k := e
    obtain ⟨k', e1, e2⟩ := Option.map_eq_some_iff.mp e0
    obtain ⟨d, e', h1, h2, h3, h4, h5⟩ := eqD_ok hS ra rb e1
    exact op_neD hu pins s σ H _ _ v u Q I rx ry ⟨d, e', h1, h2, h3, h4, by rw [h5, e2]; exact fin⟩
  | lt =>
    cases a with
    | int i =>
      cases b with
      | int j =>
        cases (show x = .int i from ra); cases (show y = .int j from rb)
        replace e : some (decide (i < j)) = some k := e
        cases e
        exact op_lt pins s σ H _ _ v u Q I rx ry ⟨i, j, rfl, rfl, fin⟩
      | _ => simp [cmpV] at e
    | _ => simp [cmpV] at e
  | le =>
    cases a with
    | int i =>
      cases b with
      | int j =>
        cases (show x = .int i from ra); cases (show y = .int j from rb)
        replace e : some (decide (i ≤ j)) = some k := e
        cases e
        exact op_le pins s σ H _ _ v u Q I rx ry ⟨i, j, rfl, rfl, fin⟩
      | _ => simp [cmpV] at e
    | _ => simp [cmpV] at e
  | gt =>
    cases a with
    | int i =>
      cases b with
      | int j =>
        cases (show x = .int i from ra); cases (show y = .int j from rb)
        replace e : some (decide (j < i)) = some k := e
        cases e
        exact op_gt pins s σ H _ _ v u Q I rx ry ⟨i, j, rfl, rfl, fin⟩
      | _ => simp [cmpV] at e
    | _ => simp [cmpV] at e
  | ge =>
    cases a with
    | int i =>
      cases b with
      | int j =>
        cases (show x = .int i from ra); cases (show y = .int j from rb)
        replace e : some (decide (j ≤ i)) = some k := e
        cases e
        exact op_ge pins s σ H _ _ v u Q I rx ry ⟨i, j, rfl, rfl, fin⟩
      | _ => simp [cmpV] at e
    | _ => simp [cmpV] at e

/-! ### truth, items, slices -/
def rTru (K : PySem.W.Frag) : V → Hp → (Bool → Hp → Prop) → Prop := fun x H Q => ∃ w st a, RS K w st H ∧ RV K w a x ∧ PB K w st (truV st a) Q
theorem isEmpty_rel {K : PySem.W.Frag} {w : Wd} {vs : List Val} {xs : List V} (r : RVs K w vs xs) : vs.isEmpty = xs.isEmpty := by
  have := r.length
  cases vs <;> cases xs <;> simp_all
theorem tru_ok2 : TruR X (rTru X.K) := by
  intro pins s σ H x v Q I rx h
  obtain ⟨w, st, a, hS, ra, k, e, q⟩ := h
  have fin : Q k H := nowB hS q
  refine tru_ok pins s σ H x v Q I rx ⟨k, ?_, fin⟩
  have list : ∀ {us : List Val}, lstOf st a = some us → (!us.isEmpty) = k → TruV X.K x H k := by
    intro us h1 h2
    obtain ⟨p, xs, rfl, hp, hz, rr⟩ := lstOf_rel hS ra h1
    exact .inl ⟨xs, SqL.of hp, by rw [← h2, isEmpty_rel rr]⟩
  cases a with
  | non => cases (show x = .non from ra); simp [truV] at e; exact e
  | bl b => cases (show x = .bl b from ra); simp [truV] at e; exact e.symm
  | int i => cases (show x = .int i from ra); simp only [truV, Option.some.injEq] at e; exact e.symm
  | str z => obtain ⟨rfl, h1, _⟩ := ra; simp only [truV, Option.some.injEq] at e; exact ⟨h1, e.symm⟩
  | tup us =>
    obtain ⟨p, xs, rfl, hp, hz, rr⟩ := ra
    simp only [truV, Option.some.injEq] at e
    exact .inr (.inl ⟨xs, SqT.mono hS.sub hp, by rw [← e, isEmpty_rel rr]⟩)
  | lst us => exact list rfl (by simpa [truV, lstOf] using e)
  | ref i =>
    simp only [truV, Option.map_eq_some_iff] at e
    obtain ⟨us, e1, e2⟩ := e
    exact list e1 e2
  | _ => simp [truV, lstOf] at e
theorem atI_rel {K : PySem.W.Frag} {w : Wd} {vs : List Val} {xs : List V} {i : Int} {v : Val} (r : RVs K w vs xs) (h : atI vs i = some v) : ∃ x, atI xs i = some x ∧ RV K w v x := by
  unfold atI at *
  rw [← r.length]
  cases e : ixN vs.length i with
  | none => rw [e] at h; cases
                               h
  | some j =>
    rw [e] at h
    exact r.get h
theorem ix_ok : IxR X (rOp X.K ixV) := by
  intro value slice pins s σ H x y v u Q I rx ry h
                                                   hs
  obtain ⟨w, st, a, b, hS, ra, rb, c, e, q⟩ := h
  have seq : ∀ {j : Int} {us : List Val}, b = .int j → seqOf st a = some us → atI us j = some c → wpAny (model X.prog X.w) X.A (subscriptTail value slice v u) (EP X pins σ Q) X.xe s := by
    intro j us hb h1 h2
    subst hb
    cases (show y = .int j from rb)
    obtain ⟨p, xs, rfl, hp, hz, rr⟩ := seqOf_rel hS ra h1
    obtain ⟨z, h3, h4⟩ := atI_rel rr h2
    have fin := now hS q h4
    rcases hp with hp | hp
    · exact ix_list value slice pins s σ H _ _ v u Q I rx ry ⟨p, xs, j, z, rfl, rfl, hp, h3, fin⟩ hs
    · exact ix_tup value slice pins s σ H _ _ v u Q I rx ry ⟨p, xs, j, z, rfl, rfl, hp, h3, fin⟩ hs
  cases b with
  | int j =>
    have gen : (match seqOf st a with | some xs => atI xs j | none => none) = some c → wpAny (model X.prog X.w) X.A (subscriptTail value slice v u) (EP X pins σ Q) X.xe s := by
      intro e
      cases h1 : seqOf st a with
      | none => rw [h1] at e; cases e
      | some us => rw [h1] at e; exact seq rfl h1 e
    cases a with
    | str z =>
      obtain ⟨rfl, sz⟩ := ra
      cases (show y = .int j from rb)
      simp only [ixV, Option.map_eq_some_iff] at e
      obtain ⟨d, e1, rfl⟩ := e
      refine ix_str value slice pins s σ H _ _ v u Q I rx ry ⟨z, j, d, rfl, rfl, sz.1, e1, now hS q ⟨rfl, sOk_one sz ?_⟩⟩ hs
      unfold atI at e1
      cases e2 : ixN z.cps.toList.length j with
      | none => rw [e2] at e1; cases e1
      | some n => rw [e2] at e1; exact List.mem_of_getElem? e1
    | _ => exact gen e
  | _ => cases a <;> simp [ixV] at e
theorem cut_length {α : Type} (xs : List α) (lo hi : Option Int) : (cut xs lo hi).length ≤ xs.length := by
  unfold cut
  rw [List.length_take,
                        List.length_drop]
  omega
theorem cut_rel {K : PySem.W.Frag} {w : Wd} {vs : List Val} {xs : List V} (lo hi : Option Int) (r : RVs K w vs xs) : RVs K w (cut vs lo hi) (cutV xs lo hi) := by
  unfold cut cutV
  rw [r.length]
  exact (r.drop _).take _
def rSlc (K : PySem.W.Frag) : V → Option Int → Option Int → Hp → VK → Prop := fun x lo hi H Q => ∃ w st a, RS K w st H ∧ RV K w a x ∧ PV K w st (slcV st a lo hi) Q
theorem slc_ok : SlR X (rSlc X.K) := by
  intro pins s σ H x v vl vu lo hi sl Q I rx hs pl pu
                                                      h
  obtain ⟨w, st, a, hS, ra, c, e, q⟩ := h
  have list : ∀ {us : List Val}, lstOf st a = some us → c = .lst (cut us lo hi) → ∃ T id, typeLookup (.type T) "__getitem__" = pure (some (.builtin id)) ∧ s.TypeIs v T ∧ wpAny (model X.prog X.w) X.A (getItem v (.ref sl)) (EP X pins σ Q) X.xe s := by
    intro us h1 h2
    subst h2
    obtain ⟨p, xs, rfl, hp, hz, rr⟩ := lstOf_rel hS ra h1
    refine sl_list pins s σ H _ v vl vu lo hi sl Q I rx hs pl pu ⟨p, xs, rfl, SqL.of hp, ?_⟩
    exact give_lst (A := fun w' v st' H' => ∀ x, RV X.K w' v x → Q x H') hS (cut_rel lo hi rr) (Nat.le_trans (cut_length _ _ _) hz) q (fun _ _ h => h)
  cases a with
  | tup us =>
    obtain ⟨p, xs, rfl, hp, hz, rr⟩ := ra
    simp only [slcV] at e
    split at e
    · cases e
    · rename_i hc
      cases e
      refine sl_tup pins s σ H _ v vl vu lo hi sl Q I rx hs pl pu ⟨p, xs, rfl, SqT.mono hS.sub hp, by rw [← rr.length]; exact hc, ?_⟩
      exact give_tup (A := fun w' v st' H' => ∀ x, RV X.K w' v x → Q x H') hS (cut_rel lo hi rr) (Nat.le_trans (cut_length _ _ _) hz) q (fun _ _ h => h)
  | str z =>
    obtain ⟨rfl, sz⟩ := ra
    simp only [slcV, Option.some.injEq] at e
    subst e
    refine sl_str pins s σ H _ v vl vu lo hi sl Q I rx hs pl pu ⟨z, rfl, sz.1, now hS q ⟨rfl, ?_⟩⟩
    refine sOk_sub sz ?_ fun c hc => List.mem_of_mem_drop (List.mem_of_mem_take hc)
    have := cutS_length z lo hi
    have h2 : (cutS z lo hi).length = (List.take (HT.sIx z.length z.length hi - HT.sIx z.length 0 lo) (List.drop (HT.sIx z.length 0 lo) z.cps.toList)).toArray.size := rfl
    rw [h2, List.size_toArray] at this
    exact this
  | scr ns =>
    obtain ⟨p, rfl, hp, hz⟩ := ra
    simp only [slcV, Option.some.injEq] at e
    subst e
    refine sl_list pins s σ H _ v vl vu lo hi sl Q I rx hs pl pu ⟨p, ns.map V.int, rfl, SqL.mono hS.sub hp, ?_⟩
    have r0 : RVs X.K w ((cut ns lo hi).map Val.int) (cutV (ns.map V.int) lo hi) := by
      have : cutV (ns.map V.int) lo hi = (cut ns lo hi).map V.int := by
        unfold cutV cut
        rw [List.length_map, ← List.map_drop, ← List.map_take]
      rw [this]
      exact RVs.ints _
    exact give_lst (A := fun w' v st' H' => ∀ x, RV X.K w' v x → Q x H') hS r0 (by rw [List.length_map]; exact Nat.le_trans (cut_length _ _ _) hz) q (fun _ _ h => h)
  | lst us => exact list rfl (by simpa [slcV, lstOf] using e.symm)
  | ref i =>
    simp only [slcV, Option.map_eq_some_iff] at e
    obtain ⟨us, e1, e2⟩ := e
    exact list e1 e2.symm
  | _ => simp [slcV, lstOf] at e

/-! ### built-in functions -/
def rBc (K : PySem.W.Frag) (f : String) : List V → Hp → VK → Prop := fun xs H Q => ∃ w st vs, RS K w st H ∧ RVs K w vs xs ∧ PV K w st (bV st f vs) Q
/-- the built-in function's value -/
def bval (f : String) : Value := if f = "int" ∨ f = "str" ∨ f = "list" ∨ f = "tuple" then .type f else .builtin f
theorem one_rel {K : PySem.W.Frag} {w : Wd} {v : Val} {xs : List V} (r : RVs K w [v] xs) : ∃ x, xs = [x] ∧ RV K w v x := by
  obtain ⟨y, ys, rfl, h1, h2⟩ := r
  cases (show ys = [] from h2)
  exact ⟨y, rfl, h1⟩
theorem two_rel {K : PySem.W.Frag} {w : Wd} {v u : Val} {xs : List V} (r : RVs K w [v, u] xs) : ∃ x y, xs = [x, y] ∧ RV K w v x ∧ RV K w u y := by
  obtain ⟨y, ys, rfl, h1, h2⟩ := r
  obtain ⟨z, rfl, h3⟩ := one_rel h2
  exact ⟨y, z, rfl, h1, h3⟩
theorem bc_ok (f : String) (hc : X.calm = true) : CallR X (bval f) (rBc X.K f) := by
  intro pins s σ H xs us Q I r
                               h
  obtain ⟨w, st, vs, hS, rv, c, e, q⟩ := h
  unfold bV at e
  split at e
  · -- len of a text
    obtain ⟨x, rfl, rx⟩ := one_rel rv
    obtain ⟨rfl, sz⟩ := rx
    cases e
    exact call_len pins s σ H _ us Q I r ⟨_, _, rfl, ⟨sz.1, rfl⟩, now hS q rfl⟩
  · obtain ⟨x, rfl, rx⟩ := one_rel rv
    simp only [Option.map_eq_some_iff] at e
    obtain ⟨ys, e1, rfl⟩ := e
    obtain ⟨p, zs, rfl, hp, hz, rr⟩ := seqOf_rel hS rx e1
    refine call_len pins s σ H _ us Q I r ⟨_, ys.length, rfl, ?_, now hS q rfl⟩
    rcases hp with hp | hp
    · exact .inl ⟨zs, hp, rr.length⟩
    · exact .inr ⟨zs, hp, rr.length⟩
  · obtain ⟨x, rfl, rx⟩ := one_rel rv
    simp only [Option.map_eq_some_iff, Option.bind_eq_some_iff] at e
    obtain ⟨ns, ⟨ys, e1, e2⟩, rfl⟩ := e
    obtain ⟨p, zs, rfl, hp, hz, rr⟩ := lstOf_rel hS rx e1
    have := ints_rel rr e2
    subst this
    exact cr_sum hc pins s σ H _ us Q I r ⟨p, ns, rfl, SqL.of hp, now hS q rfl⟩
  · obtain ⟨x, rfl, rx⟩ := one_rel rv
    simp only [Option.map_eq_some_iff, Option.bind_eq_some_iff] at e
    obtain ⟨ns, ⟨ys, e1, e2⟩, rfl⟩ := e
    obtain ⟨p, zs, rfl, hp, hz, rr⟩ := lstOf_rel hS rx e1
    have := bools_rel rr e2
    subst this
    exact cr_any hc pins s σ H _ us Q I r ⟨p, ns, rfl, SqL.of hp, now hS q rfl⟩
  · obtain ⟨x, rfl, rx⟩ := one_rel rv
    simp only [Option.map_eq_some_iff, Option.bind_eq_some_iff] at e
    obtain ⟨ns, ⟨ys, e1, e2⟩, rfl⟩ := e
    obtain ⟨p, zs, rfl, hp, hz, rr⟩ := lstOf_rel hS rx e1
    have := bools_rel rr e2
    subst this
    exact cr_all hc pins s σ H _ us Q I r ⟨p, ns, rfl, SqL.of hp, now hS q rfl⟩
  · rename_i i
    obtain ⟨x, rfl, rx⟩ := one_rel rv
    cases (show x = .int i from rx)
    cases e
    exact call_int1 pins s σ H _ us Q I r (.inl ⟨i, rfl, now hS q rfl⟩)
  · rename_i b
    obtain ⟨x, rfl, rx⟩ := one_rel rv
    cases (show x = .bl b from rx)
    cases e
    exact call_int1 pins s σ H _ us Q I r (.inr ⟨b, rfl, now hS q rfl⟩)
  · rename_i i
    obtain ⟨x, rfl, rx⟩ := one_rel rv
    cases (show x = .int i from rx)
    split at e
    · rename_i hs
      cases e
      have hs' := of_decide_eq_true hs
      exact call_str_int pins s σ H _ us Q I r ⟨i, rfl, hs', now hS q ⟨rfl, sOk_int hs'⟩⟩
    · cases e
  · obtain ⟨x, rfl, rx⟩ := one_rel rv
    simp only [Option.map_eq_some_iff] at e
    obtain ⟨ys, e1, rfl⟩ := e
    obtain ⟨p, zs, rfl, hp, hz, rr⟩ := seqOf_rel hS rx e1
    refine call_list_of pins s σ H _ us Q I r ⟨p, zs, rfl, hp, ?_⟩
    exact give_lst (A := fun w' v st' H' => ∀ x, RV X.K w' v x → Q x H') hS rr hz q (fun _ _ h => h)
  · rename_i v
    obtain ⟨x, rfl, rx⟩ := one_rel rv
    simp only [Option.map_eq_some_iff] at e
    obtain ⟨ys, e1, rfl⟩ := e
    by_cases ht : ∃ ts, v = .tup ts
    · obtain ⟨ts, rfl⟩ := ht
      have : ts = ys := by simpa [seqOf] using e1
      subst this
      have rx' := rx
      obtain ⟨p, zs, rfl, hp, hz, rr⟩ := rx
      exact call_tuple_of pins s σ H _ us Q I r ⟨p, zs, rfl, .inr ⟨SqT.mono hS.sub hp, now hS q rx'⟩⟩
    · have e2 : lstOf st v = some ys := by
        cases v <;> first | exact absurd ⟨_, rfl⟩ ht | exact e1
      obtain ⟨p, zs, rfl, hp, hz, rr⟩ := lstOf_rel hS rx e2
      refine call_tuple_of pins s σ H _ us Q I r ⟨p, zs, rfl, .inl ⟨SqL.of hp, ?_⟩⟩
      exact give_tup (A := fun w' v st' H' => ∀ x, RV X.K w' v x → Q x H') hS rr hz q (fun _ _ h => h)
  · rename_i i j
    obtain ⟨x, y, rfl, rx, ry⟩ := two_rel rv
    cases (show x = .int i from rx); cases (show y = .int j from ry)
    cases e
    exact call_max2 hc pins s σ H _ us Q I r ⟨i, j, rfl, now hS q rfl⟩
  · rename_i i j
    obtain ⟨x, y, rfl, rx, ry⟩ := two_rel rv
    cases (show x = .int i from rx); cases (show y = .int j from ry)
    cases e
    exact call_min2 hc pins s σ H _ us Q I r ⟨i, j, rfl, now hS q rfl⟩
  · cases e
end
end Mp
end

section
set_option Elab.async false
set_option linter.all false
set_option maxRecDepth 100000
set_option maxHeartbeats
                         1000000
namespace Mp
open PySem L2 PySem.Spec PyProof.Rows

/-! ### a call's result, taken -/
section
variable {K : PySem.W.Frag} {w w' w'' : Wd}
mutual
/-- a value that was known in the elder world needs no new places -/
theorem RV.back (hF : ∀ p o, w'.F p = some o → w''.F p = some o) (he : ∀ (i : Nat) (p q : Addr), w.e[i]? = some p → w'.e[i]? = some q → w''.e[i]? = some q) : ∀ (v : Val) {x y : V}, RV K w v x → RV K w' v y → RV K w'' v y
  | .non, _, _, _, h => h
  | .bl _, _, _, _, h => h
  | .int _, _, _, _, h => h
  | .str _, _, _, _, h => h
  | .tup vs, _, _, h0, h => by
    obtain ⟨p0, xs0, _, _, _, r0⟩ := h0
    obtain ⟨p, xs, e, s, z, r⟩ := h
    exact ⟨p, xs, e, SqT.mono hF s, z, RVs.back hF he vs r0 r⟩
  | .lst vs, _, _, h0, h => by
    obtain ⟨p0, xs0, _, _, _, r0⟩ := h0
    obtain ⟨p, xs, e, s, z, r⟩ := h
    exact ⟨p, xs, e, hF _ _ s, z, RVs.back hF he vs r0 r⟩
  | .ins c ns vs, _, _, h0, h => by
    obtain ⟨p0, dx0, fs0, _, _, _, r0⟩ := h0
    obtain ⟨p, dx, fs, e, s, z, r⟩ := h
    exact ⟨p, dx, fs, e, hF _ _ s, z, RVs.back hF he vs r0 r⟩
  | .scr ns, _, _, _, h => by
    obtain ⟨p, e, s, z⟩ := h
    exact ⟨p, e, SqL.mono hF s, z⟩
  | .ref i, _, _, h0, h => by
    obtain ⟨p0, _, s0⟩ := h0
    obtain ⟨p, e, s⟩ := h
    exact ⟨p, e, he _ _ _ s0 s⟩
theorem RVs.back (hF : ∀ p o, w'.F p = some o → w''.F p = some o) (he : ∀ (i : Nat) (p q : Addr), w.e[i]? = some p → w'.e[i]? = some q → w''.e[i]? = some q) : ∀ (vs : List Val) {xs ys : List V}, RVs K w vs xs → RVs K w' vs ys → RVs K w'' vs ys
  | [], _, _, _, h => h
  | v :: vs, _, _, h0, h => by
    obtain ⟨y0, ys0, _, a1, a2⟩ := h0
    obtain ⟨y, ys, e, h1, h2⟩ := h
    exact ⟨y, ys, e, RV.back hF he v a1 h1, RVs.back hF he vs a2 h2⟩
end
theorem RO.back {H H' : Hp} {p q : Addr} {s : SO} (hF : ∀ p o, w'.F p = some o → w''.F p = some o) (he : ∀ (i : Nat) (p q : Addr), w.e[i]? = some p → w'.e[i]? = some q → w''.e[i]? = some q) (h0 : RO K w H q s) (h : RO K w' H' p s) : RO K w'' H' p s := by
  cases s with
  | lst vs =>
    obtain ⟨_, _, _, r0⟩ := h0
    obtain ⟨xs, e, z, r⟩ := h
    exact ⟨xs, e, z, RVs.back hF he vs r0 r⟩
  | ins c ns vs =>
    obtain ⟨_, _, _, _, r0⟩ := h0
    obtain ⟨dx, fs, e, z, r⟩ := h
    exact ⟨dx, fs, e, z, RVs.back hF he vs r0 r⟩
mutual
theorem frzV_rel {rd : Nat → Option Val} (hF : ∀ p o, w'.F p = some o → w''.F p = some o) (hr : ∀ i u p, rd i = some u → w'.e[i]? = some p → RV K w'' u (.ref p)) : ∀ (v : Val) {y : Val} {x : V}, frzV rd v = some y → RV K w' v x → RV K w'' y x
  | .non, _, _, e, r => by cases (show some Val.non = some _ from e); exact r
  | .bl b, _, _, e, r => by cases (show some (Val.bl b) = some _ from e); exact r
  | .int i, _, _, e, r => by cases (show some (Val.int i) = some _ from e); exact r
  | .str z, _, _, e, r => by cases (show some (Val.str z) = some _ from e); exact r
  | .tup vs, _, _, e, r => by
    obtain ⟨ys, e1, rfl⟩ := Option.map_eq_some_iff.mp (show (frzVs rd vs).map Val.tup = some _ from e)
    obtain ⟨p, xs, rfl, s, z, rr⟩ := r
    obtain ⟨h1, h2⟩ := frzVs_rel hF hr vs e1 rr
    exact ⟨p, xs, rfl, SqT.mono hF s, by rw [h2]; exact z, h1⟩
  | .lst vs, _, _, e, r => by
    obtain ⟨ys, e1, rfl⟩ := Option.map_eq_some_iff.mp (show (frzVs rd vs).map Val.lst = some _ from e)
    obtain ⟨p, xs, rfl, s, z, rr⟩ := r
    obtain ⟨h1, h2⟩ := frzVs_rel hF hr vs e1 rr
    exact ⟨p, xs, rfl, hF _ _ s, by rw [h2]; exact z, h1⟩
  | .ins c ns vs, _, _, e, r => by
    obtain ⟨ys, e1, rfl⟩ := Option.map_eq_some_iff.mp (show (frzVs rd vs).map (Val.ins c ns) = some _ from e)
    obtain ⟨p, dx, fs, rfl, s, z, rr⟩ := r
    obtain ⟨h1, h2⟩ := frzVs_rel hF hr vs e1 rr
    exact ⟨p, dx, fs, rfl, hF _ _ s, z, h1⟩
  | .scr ns, _, _, e, r => by
    cases (show some (Val.scr ns) = some _ from e)
    obtain ⟨p, e, s, z⟩ := r
    exact ⟨p, e, SqL.mono hF s, z⟩
  | .ref i, _, _, e, r => by
    obtain ⟨p, rfl, s⟩ := r
    exact hr i _ p e s
theorem frzVs_rel {rd : Nat → Option Val} (hF : ∀ p o, w'.F p = some o → w''.F p = some o) (hr : ∀ i u p, rd i = some u → w'.e[i]? = some p → RV K w'' u (.ref p)) : ∀ (vs : List Val) {ys : List Val} {xs : List V}, frzVs rd vs = some ys → RVs K w' vs xs → RVs K w'' ys xs ∧ ys.length = vs.length
  | [], _, _, e, r => by cases (show some ([] : List Val) = some _ from e); exact ⟨r, rfl⟩
  | v :: vs, ys, _, e, r => by
    obtain ⟨x, xs, rfl, h1, h2⟩ := r
    simp only [frzVs] at e
    cases e1 : frzV rd v with
    | none => rw [e1] at e; cases e
    | some y =>
      cases e2 : frzVs rd vs with
      | none => rw [e1, e2] at e; cases e
      | some yt =>
        rw [e1, e2] at e
        cases e
        obtain ⟨a, b⟩ := frzVs_rel hF hr vs e2 h2
        exact ⟨RVs.cons (frzV_rel hF hr v e1 h1) a, by simp [b]⟩
end
open Classical in
/-- the world behind a call: what is new but the kept ones is frozen -/
noncomputable def shr (w' : Wd) (H' : Hp) (n : Nat) (kp : List Addr) : Wd := ⟨fun p => if p ∈ w'.e.drop n ∧ p ∉ kp then H' p else w'.F p, w'.e.take n ++ kp, w'.G⟩
theorem shr_F {H' : Hp} {n : Nat} {kp : List Addr} {st' : Store} (s : RS K w' st' H') : ∀ p o, w'.F p = some o → (shr w' H' n kp).F p = some o := fun p o e => by
  show (if p ∈ w'.e.drop n ∧ p ∉ kp then H' p else w'.F p) = some o
  split
  · exact s.sub p o e
  · exact e
theorem rdK_rel {st' : Store} {H' : Hp} {n : Nat} {sk : Option Nat} {kp : List Addr} (s : RS K w' st' H') (hk : ∀ q ∈ kp, ∃ i, sk = some i ∧ w'.e[i]? = some q) : ∀ (k i : Nat) (u : Val) (p : Addr), rdK st' n sk k i = some u → w'.e[i]? = some p → RV K (shr w' H' n kp) u (.ref p)
  | 0, i, u, p, e, ep => by
    simp only [rdK] at e
    split at e
    · rename_i hi
      cases e
      refine ⟨p, rfl, ?_⟩
      show (w'.e.take n ++ kp)[i]? = some p
      have hl : i < (w'.e.take n).length := by
        rw [List.length_take]
        have := (List.getElem?_eq_some_iff.mp ep).1
        omega
      rw [List.getElem?_append_left hl, List.getElem?_take_of_lt hi]
      exact ep
    · cases e
  | k + 1, i, u, p, e, ep => by
    simp only [rdK] at e
    split at e
    · rename_i hi
      cases e
      refine ⟨p, rfl, ?_⟩
      show (w'.e.take n ++ kp)[i]? = some p
      have hl : i < (w'.e.take n).length := by
        rw [List.length_take]
        have := (List.getElem?_eq_some_iff.mp ep).1
        omega
      rw [List.getElem?_append_left hl, List.getElem?_take_of_lt hi]
      exact ep
    · rename_i hi
      split at e
      · cases e
      · rename_i hsk
        have hin : p ∈ w'.e.drop n := List.mem_of_getElem? (i := i - n) (by rw [List.getElem?_drop]; rw [show n + (i - n) = i by omega]; exact ep)
        have hnk : p ∉ kp := fun hp => by
          obtain ⟨j, hj, ej⟩ := hk p hp
          have jl := (List.getElem?_eq_some_iff.mp ej)
          have il := (List.getElem?_eq_some_iff.mp ep)
          obtain ⟨j1, j2⟩ := jl
          obtain ⟨i1, i2⟩ := il
          have : i = j := (List.getElem_inj s.nd).mp (i2.trans j2.symm)
          subst this
          exact hsk hj.symm
        have hFp : (shr w' H' n kp).F p = H' p := by
          show (if p ∈ w'.e.drop n ∧ p ∉ kp then H' p else w'.F p) = H' p
          rw [if_pos ⟨hin, hnk⟩]
        obtain ⟨o, ho, ro⟩ := s.at ep
        rw [ho] at e
        have ih := fun i u p => rdK_rel (n := n) (sk := sk) (kp := kp) s hk k i u p
        cases o with
        | lst vs =>
          obtain ⟨ys, e1, rfl⟩ := Option.map_eq_some_iff.mp e
          obtain ⟨xs, hp, z, rr⟩ := ro
          obtain ⟨h1, h2⟩ := frzVs_rel (shr_F s) ih vs e1 rr
          exact ⟨p, xs, rfl, hFp.trans hp, by rw [h2]; exact z, h1⟩
        | ins c ns vs =>
          obtain ⟨ys, e1, rfl⟩ := Option.map_eq_some_iff.mp e
          obtain ⟨dx, fs, hp, z, rr⟩ := ro
          obtain ⟨h1, h2⟩ := frzVs_rel (shr_F s) ih vs e1 rr
          exact ⟨p, dx, fs, rfl, hFp.trans hp, z, h1⟩
theorem take_len {st st' : Store} (h : st'.take st.length = st) : st.length ≤ st'.length := by
  have := congrArg List.length
                               h
  rw [List.length_take] at this
  omega
/-- back in the caller's world -/
theorem shr_ok {st st' base : Store} {H H' : Hp} {kp : List Addr} (l : Le w w') (h0 : RS K w st H) (s : RS K w' st' H') (hl : st.length ≤ st'.length) (hbl : base.length = st.length) (hb : ∀ (i : Nat) (q : Addr) (o : SO), w'.e[i]? = some q → base[i]? = some o → RO K (shr w' H' st.length kp) H' q o) (hk : ∀ q ∈ kp, q ∈ w'.e.drop st.length) (hnd : kp.Nodup) (new : List SO) (hn : new.length = kp.length)
    (ho : ∀ (i : Nat) (q : Addr) (o : SO), kp[i]? = some q → new[i]? = some o → RO K (shr w' H' st.length kp) H' q o) :
    Le w (shr w' H' st.length kp) ∧ RS K (shr w' H' st.length kp) (base ++ new) H' := by
  have le1 : (w'.e.take st.length).length = st.length := by rw [List.length_take, s.len]; omega
  have we : ∀ (i : Nat) (p : Addr), w.e[i]? = some p → i < st.length := fun i p e => by rw [← h0.len]; exact (List.getElem?_eq_some_iff.mp e).1
  have old : ∀ (i : Nat) (q : Addr), i < st.length → w'.e[i]? = some q → (shr w' H' st.length kp).e[i]? = some q := fun i q hi e => by
    show (w'.e.take st.length ++ kp)[i]? = some q
    rw [List.getElem?_append_left (by rw [le1]; exact hi), List.getElem?_take_of_lt hi]; exact e
  refine ⟨⟨fun p o e => shr_F s p o (l.F p o e), fun i p e => old i p (we i p e) (l.e i p e), l.G⟩, ?_⟩
  have hmem : ∀ (i : Nat) (q : Addr), (shr w' H' st.length kp).e[i]? = some q → (i < st.length ∧ w'.e[i]? = some q) ∨ (st.length ≤ i ∧ kp[i - st.length]? = some q) := fun i q e => by
    have e' : (w'.e.take st.length ++ kp)[i]? = some q := e
    by_cases hi : i < st.length
    · rw [List.getElem?_append_left (by rw [le1]; exact hi), List.getElem?_take_of_lt hi] at e'
      exact .inl ⟨hi, e'⟩
    · rw [List.getElem?_append_right (by rw [le1]; omega), le1] at e'
      exact .inr ⟨by omega, e'⟩
  have sepd : ∀ (i : Nat) (q : Addr), i < st.length → w'.e[i]? = some q → q ∉ w'.e.drop st.length := fun i q hi e hm => by
    obtain ⟨j, hj⟩ := List.getElem?_of_mem
                                           hm
    rw [List.getElem?_drop] at hj
    obtain ⟨a1, a2⟩ := List.getElem?_eq_some_iff.mp e
    obtain ⟨b1, b2⟩ := List.getElem?_eq_some_iff.mp hj
    have : i = st.length + j := (List.getElem_inj s.nd).mp (a2.trans b2.symm)
    omega
  refine ⟨fun p o e => ?_, ?_, fun i q o e1 e2 => ?_, ?_, fun i q e => ?_, s.gub, fun i q e => ?_, fun q n => ?_⟩
  · have e' : (if p ∈ w'.e.drop st.length ∧ p ∉ kp then H' p else w'.F p) = some o := e
    split at e'
    · exact e'
    · exact s.sub p o e'
  · show (w'.e.take st.length ++ kp).length = _
    rw [List.length_append, le1, List.length_append, hn, hbl]
  · rcases hmem i q e1 with ⟨hi, e⟩ | ⟨hi, e⟩
    · rw [List.getElem?_append_left (by rw [hbl]; exact hi)] at e2
      exact hb i q o e e2
    · rw [List.getElem?_append_right (by rw [hbl]; exact hi), hbl] at e2
      exact ho _ q o e e2
  · show (w'.e.take st.length ++ kp).Nodup
    rw [List.nodup_append]
    refine ⟨s.nd.sublist (List.take_sublist _ _), hnd, fun a ha b hb z => ?_⟩
    subst z
    obtain ⟨j, hj⟩ := List.getElem?_of_mem ha
    have hjl : j < st.length := by rw [← le1]; exact (List.getElem?_eq_some_iff.mp hj).1
    rw [List.getElem?_take_of_lt hjl] at hj
    exact sepd j a hjl hj (hk a hb)
  · rcases hmem i q e with ⟨hi, e⟩ | ⟨hi, e⟩
    · show (if q ∈ w'.e.drop st.length ∧ q ∉ kp then H' q else w'.F q) = none
      rw [if_neg fun z => sepd i q hi e z.1]
      exact s.sep i q e
    · have hq := List.mem_of_getElem? e
      show (if q ∈ w'.e.drop st.length ∧ q ∉ kp then H' q else w'.F q) = none
      rw [if_neg fun z => z.2 hq]
      obtain ⟨j, hj⟩ := List.getElem?_of_mem (hk q hq)
      rw [List.getElem?_drop] at hj
      exact s.sep _ q hj
  · rcases hmem i q e with ⟨hi, e⟩ | ⟨hi, e⟩
    · exact s.gse i q e
    · obtain ⟨j, hj⟩ := List.getElem?_of_mem (hk q (List.mem_of_getElem? e))
      rw [List.getElem?_drop] at hj
      exact s.gse _ q hj
  · show (if q ∈ w'.e.drop st.length ∧ q ∉ kp then H' q else w'.F q) = none
    have nq : ¬ (q ∈ w'.e.drop st.length ∧ q ∉ kp) := fun z => by
      obtain ⟨j, hj⟩ := List.getElem?_of_mem z.1
      rw [List.getElem?_drop] at hj
      exact n (s.gse _ q hj)
    rw [if_neg nq]
    exact s.gF q n
/-- what was there stands as it stood -/
theorem shr_old {st st' : Store} {H H' : Hp} {kp : List Addr} (l : Le w w') (h0 : RS K w st H) (s : RS K w' st' H') (ht : st'.take st.length = st) : ∀ (i : Nat) (q : Addr) (o : SO), w'.e[i]? = some q → st[i]? = some o → RO K (shr w' H' st.length kp) H' q o := by
  intro i q o e e2
  have hl := take_len ht
  have le1 : (w'.e.take st.length).length = st.length := by rw [List.length_take, s.len]; omega
  have we : ∀ (i : Nat) (p : Addr), w.e[i]? = some p → i < st.length := fun i p e => by rw [← h0.len]; exact (List.getElem?_eq_some_iff.mp e).1
  have old : ∀ (i : Nat) (q : Addr), i < st.length → w'.e[i]? = some q → (shr w' H' st.length kp).e[i]? = some q := fun i q hi e => by
    show (w'.e.take st.length ++ kp)[i]? = some q
    rw [List.getElem?_append_left (by rw [le1]; exact hi), List.getElem?_take_of_lt hi]; exact e
  have hi : i < st.length := (List.getElem?_eq_some_iff.mp e2).1
  have e3 : st'[i]? = some o := by
    have := e2
    rw [← ht, List.getElem?_take_of_lt hi] at this
    exact this
  have r' := s.obj i q o e e3
  obtain ⟨p0, hp0⟩ : ∃ p0, w.e[i]? = some p0 := ⟨_, List.getElem?_eq_getElem (by rw [h0.len]; exact hi)⟩
  have r0 := h0.obj i p0 o hp0 e2
  exact RO.back (shr_F s) (fun j a b ea eb => old j b (we j a ea) eb) r0 r'
abbrev AV (K : PySem.W.Frag) (Q : VK) : Wd → Val → Store → Hp → Prop := fun w' v _ H' => ∀ x, RV K w' v x → Q x H'
theorem frzOs_rel {st' : Store} {H' : Hp} {n : Nat} (s : RS K w' st' H') : ∀ (os : Store) (base : Store) (off : Nat), (∀ (i : Nat) (o : SO), os[i]? = some o → st'[off + i]? = some o) → frzOs (rdK st' n none 8) os = some base → base.length = os.length ∧ ∀ (i : Nat) (q : Addr) (o : SO), w'.e[off + i]? = some q → base[i]? = some o → RO K (shr w' H' n []) H' q o
  | [], base, off, h, e => by
    simp only [frzOs, Option.some.injEq] at e
    subst e
    exact ⟨rfl, fun i q o _ h => by simp at h⟩
  | o :: os, base, off, h, e => by
    simp only [frzOs] at e
    split at e
    · cases e
    · rename_i b1 e1
      split at e
      · cases e
      · rename_i bs e2
        cases e
        obtain ⟨h1, h2⟩ := frzOs_rel s os bs (off + 1) (fun i o h3 => by rw [show off + 1 + i = off + (i + 1) by omega]; exact h (i + 1) o (by simpa using h3)) e2
        refine ⟨by simp [h1], fun i q o' e3 e4 => ?_⟩
        cases i with
        | zero =>
          simp only [List.getElem?_cons_zero, Option.some.injEq] at e4
          subst e4
          have r := s.obj off q o (by simpa using e3) (by simpa using h 0 o (by simp))
          have hr := rdK_rel (n := n) (sk := none) (kp := []) s (by simp) 8
          cases o with
          | lst vs =>
            simp only [frzO] at e1
            obtain ⟨ys, e5, rfl⟩ := Option.map_eq_some_iff.mp e1
            obtain ⟨xs, hp, z, rr⟩ := r
            obtain ⟨g1, g2⟩ := frzVs_rel (shr_F s) hr vs e5 rr
            exact ⟨xs, hp, by rw [g2]; exact z, g1⟩
          | ins c ns vs =>
            simp only [frzO] at e1
            obtain ⟨ys, e5, rfl⟩ := Option.map_eq_some_iff.mp e1
            obtain ⟨dx, fs, hp, z, rr⟩ := r
            obtain ⟨g1, g2⟩ := frzVs_rel (shr_F s) hr vs e5 rr
            exact ⟨dx, fs, hp, z, g1⟩
        | succ i =>
          exact h2 i q o' (by rw [show off + 1 + i = off + (i + 1) by omega]; exact e3) (by simpa using e4)
theorem finish_ok {m : Mode} {st : Store} {H : Hp} {r : R Val} {Q : VK} {B : XK} (h0 : RS K w st H) (h : Post K w (finish m st r) (AV K Q) B) : Post K w r (AV K Q) B := by
  cases m with
  | raw => exact h
  | back =>
    cases r with
    | stuck => exact h
    | err c ns vs st' => exact h
    | ok v st' =>
      intro w' H' l s x rx
      have h' : Post K w (if st.length ≤ st'.length then (match rdV st' st.length v, frzOs (rdK st' st.length none 8) (st'.take st.length) with
        | some y, some base => R.ok y base
        | _, _ => .stuck) else .stuck) (AV K Q) B := h
      split at h'
      · rename_i ht
        cases e : rdV st' st.length v with
        | none => rw [e] at h'; exact h'.elim
        | some y =>
          cases eb : frzOs (rdK st' st.length none 8) (st'.take st.length) with
          | none => rw [e, eb] at h'; exact h'.elim
          | some base =>
            rw [e, eb] at h'
            obtain ⟨b1, b2⟩ := frzOs_rel s (st'.take st.length) base 0 (fun i o e => by
              rw [List.getElem?_take] at e
              split at e
              · simpa using e
              · cases e) eb
            obtain ⟨l2, s2⟩ := shr_ok (kp := []) l h0 s ht (by rw [b1, List.length_take]; omega) (fun i q o e1 e2 => b2 i q o (by simpa using e1) e2) (by simp) (by simp) [] rfl (by simp)
            rw [List.append_nil] at s2
            exact h' _ H' l2 s2 x (frzV_rel (shr_F s) (rdK_rel s (sk := none) (by simp) 8) v e rx)
      · exact h'.elim
  | pure =>
    cases r with
    | stuck => exact h
    | err c ns vs st' => exact h
    | ok v st' =>
      intro w' H' l s x rx
      have h' : Post K w (if begins st st' = true then (match rdV st' st.length v with
        | some y => R.ok y st
        | none => .stuck) else .stuck) (AV K Q) B := h
      split at h'
      · rename_i ht0
        have ht := begins_eq ht0
        cases e : rdV st' st.length v with
        | none => rw [e] at h'; exact h'.elim
        | some y =>
          rw [e] at h'
          obtain ⟨l2, s2⟩ := shr_ok (kp := []) l h0 s (take_len ht) rfl (shr_old l h0 s ht) (by simp) (by simp) [] rfl (by simp)
          rw [List.append_nil] at s2
          refine h' _ H' l2 s2 x (frzV_rel (shr_F s) (rdK_rel s (sk := none) (by simp) 8) v e rx)
      · exact h'.elim
  | fresh =>
    cases r with
    | stuck => exact h
    | err c ns vs st' => exact h
    | ok v st' =>
      intro w' H' l s x rx
      have h' : Post K w (if begins st st' = true then (match v with
        | .ref i => if st.length ≤ i then (match st'[i]? with
          | some (.lst xs) => match frzVs (rdK st' st.length (some i) 8) xs with
            | some ys => R.ok (.ref st.length) (st ++ [.lst ys])
            | none => .stuck
          | _ => .stuck) else .stuck
        | _ => .stuck) else .stuck) (AV K Q) B := h
      split at h'
      · rename_i ht0
        have ht := begins_eq ht0
        cases v with
        | ref i =>
          simp only at h'
          split at h'
          · rename_i hi
            obtain ⟨p, rfl, ep⟩ := rx
            obtain ⟨o, eo, ro⟩ := s.at ep
            rw [eo] at h'
            cases o with
            | lst us =>
              simp only at h'
              cases e : frzVs (rdK st' st.length (some i) 8) us with
              | none => rw [e] at h'; exact h'.elim
              | some ys =>
                rw [e] at h'
                obtain ⟨xs, hp, z, rr⟩ := ro
                have hin : p ∈ w'.e.drop st.length := List.mem_of_getElem? (i := i - st.length) (by rw [List.getElem?_drop]; rw [show st.length + (i - st.length) = i by omega]; exact ep)
                obtain ⟨h1, h2⟩ := frzVs_rel (shr_F (n := st.length) (kp := [p]) s) (rdK_rel s (n := st.length) (sk := some i) (kp := [p]) (fun q hq => ⟨i, rfl, by simp at hq; subst hq; exact ep⟩) 8) us e rr
                obtain ⟨l2, s2⟩ := shr_ok (kp := [p]) l h0 s (take_len ht) rfl (shr_old l h0 s ht) (by simpa using hin) (by simp) [.lst ys] rfl (fun j q o ej eo' => by
                  have hj : j = 0 := by
                    have := (List.getElem?_eq_some_iff.mp ej).1
                    simp at this; exact this
                  subst hj
                  simp at ej eo'
                  subst ej eo'
                  exact ⟨xs, hp, by rw [h2]; exact z, h1⟩)
                refine h' _ H' l2 s2 (.ref p) ⟨p, rfl, ?_⟩
                show (w'.e.take st.length ++ [p])[st.length]? = some p
                have le1 : (w'.e.take st.length).length = st.length := by rw [List.length_take, s.len]; have := take_len ht; omega
                rw [List.getElem?_append_right (by omega), le1]
                simp
            | ins c ns vs => exact h'.elim
          · exact h'.elim
        | _ => exact h'.elim
      · exact h'.elim
end
end Mp
end

section
set_option Elab.async false
set_option linter.all false
set_option maxRecDepth 100000
set_option maxHeartbeats
                         1000000
namespace Mp
open PySem L2 PySem.Spec PyProof.Rows

/-! ### what links a program of the small language with the text -/
/-- what a call's shape promises -/
def spS (K : PySem.W.Frag) (Φ : Cal) (f : Str) (n : Nat) (kn : List Str) (tp : List Src) (xs zs : List V) (H : Hp) (Q : VK) (E : XK) : Prop :=
  ∃ w st vs ks args, RS K w st H ∧ RVs K w vs xs ∧ RVs K w ks zs ∧ vs.length = n ∧ ks.length = kn.length ∧ srcs vs ks tp = some args ∧ Post K w (Φ f args st) (AV K Q) E
def CallOk (prog : Program) (w : World) (K : PySem.W.Frag) (mg : Str → Option Value) (base : Heap) (k : Nat) (a : Addr) (n : Nat) (kn : List Str) (sp : List V → List V → Hp → VK → XK → Prop) : Prop :=
  ∀ (A : Around) (outer : List PySem.Env) (s : Shared) (H : Hp) (us ws : List Value) (xs zs : List V) (Q : VK) (E : XK), Room k A → Env0 prog w K mg base A outer s H → Vals xs us → Vals zs ws → sp xs zs H Q E →
    codeAny (model prog w) A (.call (.ref a) ⟨us, kn.zip ws⟩) (CR (L2.CX prog w) outer prog w H s Q E) s
end Mp
namespace Mp
open PySem L2 PySem.Spec PyProof.Rows
def bty (n : Str) : Option String := ["NoneType", "bool", "int", "str", "tuple", "list", "dict"].find? fun s => decide (Str.ofString s = n)
def tyVal (K : PySem.W.Frag) (n : Str) : Value := match bty n with
  | some s => .type s
  | none => .ref (cA K n)
def biNames : List String := ["len", "sum", "any", "all", "int", "str", "list", "tuple", "max", "min", "isinstance", "range", "enumerate", "zip", "bool", "sorted", "dict", "repr", "reversed"]
structure InsTy (K : PySem.W.Frag) (C : Addr) : Prop where
  ha : PySem.W.findIn K (.ref C) "__class__" = some (some (.builtin
                                                                    "object.__class__"))
  hn : PySem.W.specialIn K (.builtin "object.__class__") "__get__" = some (some (.builtin
                                                                                          "getset_descriptor.__get__"))
  htk : PySem.W.takesIn K (.builtin "object.__class__") = some
                                                               true
  hm : PySem.W.mroIn K C (.type "object") = some
                                                 true
structure Link (P : Prog) (Φ : Cal) (fa : Str → Addr) (prog : Program) (w : World) (K : PySem.W.Frag) (mg : Str → Option Value) (base : Heap) (k : Nat) : Prop where
  fn : ∀ f n kn tp, P.bind f n kn = some tp → CallOk prog w K mg base k (fa f) n kn (spS K Φ f n kn tp) ∧ PySem.W.keepIn K (.ref (fa f)) = true
  pf : ∀ c f g, P.prop c f = some g → CallOk prog w K mg base k (fa g) 1 [] (spS K Φ g 1 [] [.pos 0])
  gf : ∀ f, P.isg f = true → mg f = some (.ref (fa f))
  gc : ∀ c, P.isc c = true → mg c = some (.ref (cA K c)) ∧ PySem.W.keepIn K (.ref (cA K c)) = true ∧ bty c = none
  cl : ∀ c, P.isc c = true → Cls K (cA K c)
  mkC : ∀ c g, P.meth c "__init__" = some g → P.isc c = true → PySem.W.makesIn K (cA K c) = true ∧ PySem.W.findIn K (.ref (cA K c)) "__init__" = some (some (.ref (fa g))) ∧ PySem.W.isFn K (.ref (fa g)) = true
  me : ∀ c m g, P.meth c m = some g → P.isc c = true → Meth K (cA K c) m (fa g)
  pr : ∀ c f g, P.prop c f = some g → ∃ p, PropOf K (cA K c) f p (fa g)
  co : ∀ c f v, P.con c f = some v → ∃ x u, Con K (cA K c) f x u ∧ ∀ w, RV K w v x
  na : ∀ c f, P.fl c f = true → NoAttr K (cA K c) f
  ty : ∀ c, P.isc c = true → InsTy K (cA K c)
  isa : ∀ n t b, P.sub n t = some b → PySem.W.kitOne K (tyVal K n) (tyVal K t) = some b
  gl : ∀ x v, P.glob x = some v → ∃ y u, mg x = some u ∧ RelV y u ∧ ∀ w, RV K w v y
  bi : ∀ f ∈ biNames, mg (Str.ofString f) = none
  ne : ∀ c g, P.meth c "__eq__" = some g → P.isc c = true → PySem.W.findIn K (.ref (cA K c)) "__ne__" = some (some (.builtin "object.__ne__"))
  cb : ∀ n t b, P.sub n t = some b → bty n ≠ none ∨ P.isc n = true

/-- a block's scope; df: a def's own (no comprehension's) -/
structure Sco where
  sc : Scope
  df : Bool
/-- the context of a def's body, of a comprehension's block -/
structure OkX (P : Prog) (Φ : Cal) (fa : Str → Addr) (k : Nat) (N : List Str) (sc : Sco) (W : WX) (X : Cx) : Prop where
  calm : X.calm = true
  names : X.N = N
  nd : N.Nodup
  fn : sc.df = true → ∀ x, X.fn x = true
  sco : X.env.scope = sc.sc
  tk : Takes X W
  po : PassesOwn (model X.prog X.w) X.A X.env X.xe
  room : Room (k + 2) X.A
  lk : Link P Φ fa X.prog X.w X.K X.mg X.base k

section
variable {P : Prog} {Φ : Cal} {fa : Str → Addr} {k : Nat} {N : List Str} {sc : Sco} {W : WX} {X : Cx} {w : Wd} {st : Store} {H : Hp} {pins : List (Addr × Obj)} {σ : L2.St} {s : Shared} {Q : VK}
theorem call_ok (O : OkX P Φ fa k N sc W X) {a : Addr} {n : Nat} {kn : List Str} {sp : List V → List V → Hp → VK → XK → Prop} (C : CallOk X.prog X.w X.K X.mg X.base k a n kn sp) {us ws : List Value} {xs zs : List V} (I : L2.Inv X pins σ H s) (r : Vals xs us) (rz : Vals zs ws)
    (h : sp xs zs H Q fun c d H' => W c d σ H') : wpAny (model X.prog X.w) X.A (PySem.call (.ref a) us (kn.zip ws)) (EP X pins σ Q) X.xe s := by
  refine wpAny_call (codeAny_mono (C X.A X.stack s H us ws xs zs Q (fun c d H' => W c d σ H') (O.room.mono (by omega)) I.env0 r rz h) fun r s' hq => ?_)
  cases r with
  | error e => exact O.tk e s' (XE.of_call I (fun _ _ _ h => h) hq)
  | ok fl =>
    cases fl with
    | ret u => exact I.after hq
    | next => exact False.elim hq
    | brk => exact False.elim hq
    | cont => exact False.elim hq
theorem callM_ok (O : OkX P Φ fa k N sc W X) {m : Mode} {f : Str} {kn : List Str} {vs ks : List Val} {xs zs : List V} {us ws : List Value} (I : L2.Inv X pins σ H s) (hS : RS X.K w st H) (rv : RVs X.K w vs xs) (rk : RVs X.K w ks zs) (r : Vals xs us) (rz : Vals zs ws) (hkn : ks.length = kn.length)
    (h : Post X.K w (callM P Φ m f kn vs ks st) (AV X.K Q) fun c d H' => W c d σ H') : wpAny (model X.prog X.w) X.A (PySem.call (.ref (fa f)) us (kn.zip ws)) (EP X pins σ Q) X.xe s := by
  unfold callM at h
  cases e : P.bind f vs.length kn with
  | none => rw [e] at h; exact h.elim
  | some tp =>
    rw [e] at h
    simp only at h
    cases e2 : srcs vs ks tp with
    | none => rw [e2] at h; exact h.elim
    | some args =>
      rw [e2] at h
      exact call_ok O (O.lk.fn f _ kn tp e).1 I r rz ⟨w, st, vs, ks, args, hS, rv, rk, rfl, hkn, e2, finish_ok hS h⟩
theorem methM_ok (O : OkX P Φ fa k N sc W X) {f : Str} {a : Val} {x : V} {u : Value} {pl : Sem Bool} (I : L2.Inv X pins σ H s) (hS : RS X.K w st H) (ra : RV X.K w a x) (rx : RelV x u) {c : Str} {ns : List Str} {ws' : List Val} {g : Str} (hi : insOf st a = some (c, ns, ws')) (hf : fld ns ws' f = none) (hg : P.meth c f = some g) (hc : P.isc c = true) {R : Value × List Value → Shared → Prop} (q : R (.ref (fa g), [u]) s) :
    wpAny (model X.prog X.w) X.A (getMethod u f pl) R X.xe s := by
  obtain ⟨p, dx, fs, rfl, hp, hn, rr⟩ := insOf_rel hS ra hi
  obtain rfl : u = Value.ref p :=
                                  rx
  exact getmeth_ok I hp (O.lk.cl c hc) (O.lk.me c f g hg hc) ((fld_rel hn rr).2 hf) q
/-- the field of an instance -/
theorem attrM_ok (O : OkX P Φ fa k N sc W X) {f : Str} {a : Val} {x : V} {u : Value} {b : Bool} (I : L2.Inv X pins σ H s) (hS : RS X.K w st H) (ra : RV X.K w a x) (rx : RelV x u) (h : Post X.K w (attrM P Φ a f st) (AV X.K Q) fun c d H' => W c d σ H') :
    wpAny (model X.prog X.w) X.A (getAttr u f b) (EP X pins σ Q) X.xe s := by
  unfold attrM at h
  cases hi : insOf st a with
  | none => rw [hi] at h; exact h.elim
  | some z =>
    obtain ⟨c, ns, ws⟩ := z
    rw [hi] at h
    simp only at h
    split at h
    · rename_i hc
      obtain ⟨p, dx, fs, rfl, hp, hn, rr⟩ := insOf_rel hS ra hi
      obtain rfl : u = Value.ref p :=
                                      rx
      have cl := O.lk.cl c hc
      cases hg : P.prop c f with
      | some g =>
        rw [hg] at h
        simp only at h
        obtain ⟨pp, hpo⟩ := O.lk.pr c f g hg
        obtain ⟨mA, OO, _, _, _, _⟩ := ins_get I.hok hp
        obtain ⟨od, J, _⟩ := OO.look
        obtain ⟨rest, hrec⟩ := hpo.rec_
        have I1 := I.tok (s.toks + 1)
        have hcl : (PySem.W.clsIn X.K (cA X.K c)).isSome = true := by
          obtain ⟨cd, hc, _⟩ := PySem.W.any_some cl.hd
          rw [hc]
          rfl
        have h2 : Post X.K w (finish .pure st (Φ g [a] st)) (AV X.K Q) (fun _ _ _ => False) := by
          cases e : finish .pure st (Φ g [a] st) with
          | ok v st' => rw [e] at h; exact h
          | err _ _ _ _ => rw [e] at h; exact h.elim
          | stuck => rw [e] at h; exact h.elim
        have C := O.lk.pf c f g hg
        refine PySem.W.get_bind I.kIn J (PySem.W.plainGet_of (cl.get f)).1 (PySem.W.findObj_data hcl hpo.at_ hpo.get hpo.tak) (PySem.W.plainGet_of (cl.get f)).2 (wpAny_call (PySem.W.prop_get (s := { s with toks := s.toks + 1 }) I.kIn hrec ?_))
        refine codeAny_mono (C X.A.in1 X.stack { s with toks := s.toks + 1 } H [.ref p] [] [.ref p] [] Q (fun _ _ _ => False) (O.room.mono (by omega)).in1 I1.env0.in1 (.cons rfl .nil) .nil ⟨w, st, [a], [], [a], hS, RVs.cons ra RVs.nil, RVs.nil, rfl, rfl, rfl, finish_ok hS h2⟩) fun r s' hq => ?_
        cases r with
        | error er =>
          obtain ⟨_, _, _, _, _, _, _, _, _, _, _, _, z⟩ := hq
          exact z.elim
        | ok fl =>
          cases fl with
          | ret u =>
            obtain ⟨v, H', I3, rv, q3⟩ := I1.after
                                                   hq
            show wpAny _ _ (handedOut u) _ _
                                             _
            rw [PySem.W.handedOut_of (handed_of
                                                rv)]
            exact wpAny_pure ⟨v, H', I3, rv,
                                             q3⟩
          | next => exact False.elim hq
          | brk => exact False.elim hq
          | cont => exact False.elim hq
      | none =>
        rw [hg] at h
        simp only at h
        cases hv : fld ns ws f with
        | some v =>
          rw [hv] at h
          by_cases hfl : P.fl c f = true
          · simp only [if_pos hfl] at h
            obtain ⟨y, hy, ry⟩ := (fld_rel hn rr).1 v hv
            exact getattr_ok I hp cl (O.lk.na c f hfl) hy fun u' s' I' r' => ⟨y, H, I', r', h w H (Le.refl w) hS y ry⟩
          · simp only [if_neg hfl] at h; exact h.elim
        | none =>
          rw [hv] at h
          obtain ⟨v, e, q⟩ := h.of
          obtain ⟨y, u', hco, ry⟩ := O.lk.co c f v e
          exact getcon_ok I hp cl hco ((fld_rel hn rr).2 hv) fun s' I' => ⟨y, H, I', hco.rel, q w H (Le.refl w) hS y (ry w)⟩
    · exact h.elim
end
end Mp
end

section
set_option Elab.async false
set_option linter.all false
set_option maxRecDepth 100000
set_option maxHeartbeats
                         1000000
namespace Mp
open PySem L2 PySem.Spec PyProof.Rows

/-! ### readings -/
section
variable (P : Prog) (Φ : Cal) (K : PySem.W.Frag) (W : WX)
def rd {α : Type} (ev : Env → Store → R α) (σ : L2.St) (H : Hp) (A : Wd → α → Hp → Prop) : Prop :=
  ∃ w env st, RE K w env σ ∧ RS K w st H ∧ Post K w (ev env st) (fun w' a _ H' => A w' a H') fun c d H' => W c d σ H'
def rdE (m : ME) : TE := fun σ H Q => rd K W (evalE P Φ m) σ H fun w' v H' => ∀ x, RV K w' v x → Q x H'
def rdT (m : ME) : TT := fun σ H Q => rd K W (evalT P Φ m) σ H fun _ b H' => Q b H'
def rdA (ms : List ME) : TA := fun σ H Q => rd K W (evalEs P Φ ms) σ H fun w' vs H' => ∀ xs, RVs K w' vs xs → Q xs H'
end
section
variable {P : Prog} {Φ : Cal} {fa : Str → Addr} {k : Nat} {N : List Str} {sc : Sco} {W : WX} {X : Cx}
theorem _root_.L2.PE.imp {e : Expr} {t t' : TE} (h : PE X e t) (i : ∀ σ H Q, t' σ H Q → t σ H Q) : PE X e t' := ⟨fun pins s σ H Q I q => h.run pins s σ H Q I (i σ H Q q)⟩
theorem _root_.L2.PT.imp {e : Expr} {t t' : TT} (h : PT X e t) (i : ∀ σ H Q, t' σ H Q → t σ H Q) : PT X e t' := ⟨fun pins s σ H Q I q => h.run pins s σ H Q I (i σ H Q q)⟩
theorem _root_.L2.PA.imp {e : List Expr} {t t' : TA} (h : PA X e t) (i : ∀ σ H Q, t' σ H Q → t σ H Q) : PA X e t' := ⟨fun pos pins s σ H Q I q => h.run pos pins s σ H Q I (i σ H Q q)⟩
theorem _root_.L2.PS.imp {e : Stmt} {t t' : TS} (h : PS X e t) (i : ∀ D σ H, t' D σ H → t D σ H) : PS X e t' := ⟨fun pins s σ H Q I q => h.run pins s σ H Q I (i Q σ H q)⟩
theorem _root_.L2.PSs.imp {e : List Stmt} {t t' : TS} (h : PSs X e t) (i : ∀ D σ H, t' D σ H → t D σ H) : PSs X e t' := ⟨fun pins s σ H Q I q => h.run pins s σ H Q I (i Q σ H q)⟩
/-- the first part of an evaluation -/
theorem rd_seq {K : PySem.W.Frag} {α β : Type} {ev : Env → Store → R α} {kk : α → Store → R β} {σ : L2.St} {H : Hp} {w : Wd} {env : Env} {st : Store} {A : Wd → β → Store → Hp → Prop} {B : Wd → α → Hp → Prop}
    (hE : RE K w env σ) (hS : RS K w st H) (h : Post K w ((ev env st).then_ kk) A fun c d H' => W c d σ H')
    (hk : ∀ w1 a st1 H1, Le w w1 → RE K w1 env σ → RS K w1 st1 H1 → Post K w1 (kk a st1) A (fun c d H' => W c d σ H') → B w1 a H1) : rd K W ev σ H B :=
  ⟨w, env, st, hE, hS, h.seq.imp fun w1 a st1 H1 l s p => hk w1 a st1 H1 l (hE.mono l) s p⟩
theorem rdE_seq {m : ME} {β : Type} {kk : Val → Store → R β} {σ : L2.St} {H : Hp} {w : Wd} {env : Env} {st : Store} {A : Wd → β → Store → Hp → Prop} {Q : VK}
    (hE : RE X.K w env σ) (hS : RS X.K w st H) (h : Post X.K w ((evalE P Φ m env st).then_ kk) A fun c d H' => W c d σ H')
    (hk : ∀ w1 v x st1 H1, Le w w1 → RE X.K w1 env σ → RS X.K w1 st1 H1 → RV X.K w1 v x → Post X.K w1 (kk v st1) A (fun c d H' => W c d σ H') → Q x H1) : rdE P Φ X.K W m σ H Q :=
  rd_seq hE hS h fun w1 v st1 H1 l e s p x r => hk w1 v x st1 H1 l e s r p
theorem rdA_seq {m : List ME} {β : Type} {kk : List Val → Store → R β} {σ : L2.St} {H : Hp} {w : Wd} {env : Env} {st : Store} {A : Wd → β → Store → Hp → Prop} {Q : List V → Hp → Prop}
    (hE : RE X.K w env σ) (hS : RS X.K w st H) (h : Post X.K w ((evalEs P Φ m env st).then_ kk) A fun c d H' => W c d σ H')
    (hk : ∀ w1 v x st1 H1, Le w w1 → RE X.K w1 env σ → RS X.K w1 st1 H1 → RVs X.K w1 v x → Post X.K w1 (kk v st1) A (fun c d H' => W c d σ H') → Q x H1) : rdA P Φ X.K W m σ H Q :=
  rd_seq hE hS h fun w1 v st1 H1 l e s p x r => hk w1 v x st1 H1 l e s r p
theorem rdT_seq {m : ME} {β : Type} {kk : Bool → Store → R β} {σ : L2.St} {H : Hp} {w : Wd} {env : Env} {st : Store} {A : Wd → β → Store → Hp → Prop} {Q : Bool → Hp → Prop}
    (hE : RE X.K w env σ) (hS : RS X.K w st H) (h : Post X.K w ((evalT P Φ m env st).then_ kk) A fun c d H' => W c d σ H')
    (hk : ∀ w1 b st1 H1, Le w w1 → RE X.K w1 env σ → RS X.K w1 st1 H1 → Post X.K w1 (kk b st1) A (fun c d H' => W c d σ H') → Q b H1) : rdT P Φ X.K W m σ H Q :=
  rd_seq hE hS h fun w1 v st1 H1 l e s p => hk w1 v st1 H1 l e s p

/-! ### single constructs -/
def vis (sc : Sco) (x : Str) : Bool := match sc.sc.names.lookup x with
  | some .local => true
  | some .cell => true
  | some .free => true
  | _ => false
def isGl (sc : Sco) (x : Str) : Bool := decide (sc.sc.names.lookup x = some .globalImplicit)
def nmOk (x : Str) : Bool := !(x == ("__debug__" : Str)) && !(x == ("__classdict__" : Str)) && !decide (x = ("__name__" : Str)) && !decide (x = ("super" : Str))
theorem vis_ok {x : Str} (h : vis sc x = true) : Vis sc.sc x := by
  unfold vis at h
  unfold Vis
  split at h
  · rename_i e; exact .inl e
  · rename_i e; exact .inr (.inl e)
  · rename_i e; exact .inr (.inr e)
  · cases h
theorem nmOk_d {x : Str} (h : nmOk x = true) : (x == ("__debug__" : Str)) = false ∧ (x == ("__classdict__" : Str)) = false ∧ x ≠ "__name__" ∧ x ≠ "super" := by
  unfold nmOk at h
  simp only [Bool.and_eq_true, Bool.not_eq_true', decide_eq_false_iff_not] at h
  exact ⟨h.1.1.1, h.1.1.2, h.1.2, h.2⟩
theorem gl_ok (O : OkX P Φ fa k N sc W X) {x : Str} (h : isGl sc x = true) : Gl X x := by
  show X.env.scope.names.lookup x = _
  rw [O.sco]; exact of_decide_eq_true h

theorem snd_var (O : OkX P Φ fa k N sc W X) {i : Nat} {x : Str} {pos : Pos} (hN : N[i]? = some x) (hv : vis sc x = true) (hn : nmOk x = true) : PE X (.Name x pos) (rdE P Φ X.K W (.var i)) := by
  obtain ⟨d1, d2, _⟩ := nmOk_d hn
  refine (pe_var (i := i) (by rw [O.names]; exact hN) (by rw [O.sco]; exact vis_ok hv) d1 d2).imp fun σ H Q ⟨w, env, st, hE, hS, h⟩ => ?_
  replace h : Post X.K w (match env[i]? with | some (some v) => R.ok v st | _ => .stuck) (fun w' v _ H' => ∀ x, RV X.K w' v x → Q x H') fun c d H' => W c d σ H' := h
  split at h
  · rename_i v e
    obtain ⟨y, e1, r⟩ := hE.2 i v e
    exact ⟨y, e1, h w H (Le.refl w) hS y r⟩
  · exact h.elim
theorem snd_const {m : ME} {v : Val} {x : V} {e : Expr} (he : PE X e (tC x)) (hm : ∀ env st, evalE P Φ m env st = .ok v st) (r : ∀ w, RV X.K w v x) : PE X e (rdE P Φ X.K W m) :=
  he.imp fun σ H Q ⟨w, env, st, hE, hS, h⟩ => by
    rw [hm] at h
    exact h w H (Le.refl w) hS x (r w)
theorem snd_glob (O : OkX P Φ fa k N sc W X) {x : Str} {pos : Pos} (hg : isGl sc x = true) (hn : nmOk x = true) : PE X (.Name x pos) (rdE P Φ X.K W (.glob x)) := by
  cases e : P.glob x with
  | none =>
    refine ⟨fun pins s σ H Q I ⟨w, env, st, hE, hS, h⟩ => ?_⟩
    replace h : Post X.K w (R.of (P.glob x) st) (fun w' v _ H' => ∀ x, RV X.K w' v x → Q x H') fun c d H' => W c d σ H' := h
    rw [e] at h; exact h.elim
  | some v =>
    obtain ⟨y, u, h1, h2, h3⟩ := O.lk.gl x v e
    refine snd_const (v := v) (pe_glob (gl_ok O hg) h1 h2 (nmOk_d hn).1) (fun env st => ?_) h3
    show R.of (P.glob x) st = _
    rw [e]; rfl
theorem snd_bin {op : Bop} {o : Operator} {a b : Expr} {ma mb : ME} {pos : Pos} (ho : o = pyop op) (ha : PE X a (rdE P Φ X.K W ma)) (hb : PE X b (rdE P Φ X.K W mb)) : PE X (.BinOp a o b pos) (rdE P Φ X.K W (.bin op ma mb)) := by
  subst ho
  refine (pe_op (op_bin op) ha hb).imp fun σ H Q ⟨w, env, st, hE, hS, h⟩ => ?_
  refine rdE_seq hE hS h fun w1 v x st1 H1 l1 hE1 hS1 rv h1 => ?_
  refine rdE_seq hE1 hS1 h1 fun w2 u y st2 H2 l2 hE2 hS2 ru h2 => ?_
  obtain ⟨z, e, q⟩ := h2.of
  exact ⟨w2, st2, v, u, hS2, RV.mono l2 v rv, ru, z, e, q⟩
theorem snd_neg {a : Expr} {ma : ME} {pos : Pos} (ha : PE X a (rdE P Φ X.K W ma)) : PE X (.UnaryOp .USub a pos) (rdE P Φ X.K W (.neg ma)) := by
  refine (pe_un un_neg ha).imp fun σ H Q ⟨w, env, st, hE, hS, h⟩ => ?_
  refine rdE_seq hE hS h fun w1 v x st1 H1 l1 hE1 hS1 rv h1 => ?_
  cases v with
  | int i => cases (show x = .int i from rv); exact ⟨i, rfl, h1 w1 H1 (Le.refl _) hS1 _ rfl⟩
  | _ => exact h1.elim
theorem cmp_tail {op : Cop} {σ : L2.St} {H : Hp} {Q : VK} {w : Wd} {st : Store} {a b : Val} {x y : V} (hS : RS X.K w st H) (ra : RV X.K w a x) (rb : RV X.K w b y) (h : Post X.K w (R.of ((cmpV st op a b).map Val.bl) st) (AV X.K Q) fun c d H' => W c d σ H') : rCmp X.K op x y H Q := by
  obtain ⟨z, e, q⟩ := h.of
  obtain ⟨kk, e2, rfl⟩ := Option.map_eq_some_iff.mp e
  exact ⟨w, st, a, b, hS, ra, rb, kk, e2, fun w' H' l s => q w' H' l s _ rfl⟩
theorem units64 (O : OkX P Φ fa k N sc W X) : X.A.units + 65 < cLine := by have := O.room.un; omega
theorem snd_cmp (O : OkX P Φ fa k N sc W X) {op : Cop} {o : CmpOp} {a b : Expr} {ma mb : ME} {pos : Pos} (ho : o = pycop op) (hm : behindInMarks o b = false) (ha : PE X a (rdE P Φ X.K W ma)) (hb : PE X b (rdE P Φ X.K W mb)) : PE X (.Compare a [o] [b] pos) (rdE P Φ X.K W (.cmp op ma mb)) := by
  subst ho
  refine (pe_cmpR (op_cmp op (units64 O)) ha hb hm).imp fun σ H Q ⟨w, env, st, hE, hS, h⟩ => ?_
  refine rdE_seq hE hS h fun w1 v x st1 H1 l1 hE1 hS1 rv h1 => ?_
  refine rdE_seq hE1 hS1 h1 fun w2 u y st2 H2 l2 hE2 hS2 ru h2 => ?_
  exact cmp_tail hS2 (RV.mono l2 v rv) ru h2
theorem asB_post {w : Wd} {r : R Val} {A : Wd → Bool → Store → Hp → Prop} {B : XK} (h : Post X.K w (asB r) A B) : Post X.K w r (fun w' v st' H' => ∃ b, v = .bl b ∧ A w' b st' H') B := by
  cases r with
  | ok v st =>
    cases v with
    | bl b => exact fun w' H' l s => ⟨b, rfl, h w' H' l s⟩
    | _ => exact h.elim
  | err c ns vs st => exact h
  | stuck => exact h
theorem snd_cmpT (O : OkX P Φ fa k N sc W X) {op : Cop} {o : CmpOp} {a b : Expr} {ma mb : ME} {pos : Pos} (ho : o = pycop op) (hm : behindInMarks o b = false) (ha : PE X a (rdE P Φ X.K W ma)) (hb : PE X b (rdE P Φ X.K W mb)) : PT X (.Compare a [o] [b] pos) (rdT P Φ X.K W (.cmp op ma mb)) := by
  subst ho
  refine (pt_cmpR (op_cmp op (units64 O)) ha hb hm).imp fun σ H Q ⟨w, env, st, hE, hS, h⟩ => ?_
  replace h := asB_post (show Post X.K w (asB _) _ _ from h)
  refine rdE_seq hE hS h fun w1 v x st1 H1 l1 hE1 hS1 rv h1 => ?_
  refine rdE_seq hE1 hS1 h1 fun w2 u y st2 H2 l2 hE2 hS2 ru h2 => ?_
  refine cmp_tail (W := W) (σ := σ) hS2 (RV.mono l2 v rv) ru (h2.imp fun w' z st' H' l s ⟨b, e, q⟩ x rx => ?_)
  subst e
  exact ⟨b, rx, q⟩
theorem chain_tail {op : Cop} {σ : L2.St} {H : Hp} {w : Wd} {st : Store} {a b : Val} {x y : V} {A : Wd → Val → Store → Hp → Prop} {Q' : Bool → Hp → Prop} {kk : Bool → R Val}
    (hS : RS X.K w st H) (ra : RV X.K w a x) (rb : RV X.K w b y) (h : Post X.K w (match cmpV st op a b with | none => .stuck | some false => kk false | some true => kk true) A fun c d H' => W c d σ H')
    (q : ∀ b' w' H', Le w w' → RS X.K w' st H' → Post X.K w' (kk b') A (fun c d H' => W c d σ H') → Q' b' H') : rCmp X.K op x y H fun z H' => ∃ b', z = .bl b' ∧ Q' b' H' := by
  cases e : cmpV st op a b with
  | none => rw [e] at h; exact h.elim
  | some b' =>
    rw [e] at h
    exact ⟨w, st, a, b, hS, ra, rb, b', e, fun w' H' l s => ⟨b', rfl, q b' w' H' l s (by cases b' <;> exact Post.mono l h)⟩⟩
theorem snd_chain (O : OkX P Φ fa k N sc W X) {op op' : Cop} {o o' : CmpOp} {a b c : Expr} {ma mb mc : ME} {pos : Pos} (ho : o = pycop op) (ho' : o' = pycop op') (hm : lastMarks [o, o'] [b, c] = false)
    (ha : PE X a (rdE P Φ X.K W ma)) (hb : PE X b (rdE P Φ X.K W mb)) (hc : PE X c (rdE P Φ X.K W mc)) : PE X (.Compare a [o, o'] [b, c] pos) (rdE P Φ X.K W (.chain op op' ma mb mc)) := by
  subst ho ho'
  refine (pe_chain (op_cmp op (units64 O)) (op_cmp op' (units64 O)) ha hb hc hm).imp fun σ H Q ⟨w, env, st, hE, hS, h⟩ => ?_
  refine rdE_seq hE hS h fun w1 v x st1 H1 l1 hE1 hS1 rv h1 => ?_
  refine rdE_seq hE1 hS1 h1 fun w2 u y st2 H2 l2 hE2 hS2 ru h2 => ?_
  refine chain_tail (kk := fun b => match b with | false => R.ok (Val.bl false) st2 | true => (evalE P Φ mc env st2).then_ fun z st => R.of ((cmpV st op' u z).map .bl) st) hS2 (RV.mono l2 v rv) ru (by cases e : cmpV st2 op v u with
    | none => rw [e] at h2; exact h2
    | some b => rw [e] at h2; cases b <;> exact h2) fun b' w' H' l s hp => ?_
  cases b' with
  | false => exact hp w' H' (Le.refl _) s _ rfl
  | true =>
    refine rdE_seq (hE2.mono l) s hp fun w3 z x3 st3 H3 l3 hE3 hS3 rz h3 => ?_
    exact cmp_tail hS3 (RV.mono (l.trans l3) u ru) rz h3
theorem snd_chainT (O : OkX P Φ fa k N sc W X) {op op' : Cop} {o o' : CmpOp} {a b c : Expr} {ma mb mc : ME} {pos : Pos} (ho : o = pycop op) (ho' : o' = pycop op') (hm : lastMarks [o, o'] [b, c] = false)
    (ha : PE X a (rdE P Φ X.K W ma)) (hb : PE X b (rdE P Φ X.K W mb)) (hc : PE X c (rdE P Φ X.K W mc)) : PT X (.Compare a [o, o'] [b, c] pos) (rdT P Φ X.K W (.chain op op' ma mb mc)) := by
  subst ho ho'
  refine (pt_chain (op_cmp op (units64 O)) (op_cmp op' (units64 O)) ha hb hc hm).imp fun σ H Q ⟨w, env, st, hE, hS, h⟩ => ?_
  replace h := asB_post (show Post X.K w (asB _) _ _ from h)
  refine rdE_seq hE hS h fun w1 v x st1 H1 l1 hE1 hS1 rv h1 => ?_
  refine rdE_seq hE1 hS1 h1 fun w2 u y st2 H2 l2 hE2 hS2 ru h2 => ?_
  refine chain_tail (kk := fun b => match b with | false => R.ok (Val.bl false) st2 | true => (evalE P Φ mc env st2).then_ fun z st => R.of ((cmpV st op' u z).map .bl) st) hS2 (RV.mono l2 v rv) ru (by cases e : cmpV st2 op v u with
    | none => rw [e] at h2; exact h2
    | some b => rw [e] at h2; cases b <;> exact h2) fun b' w' H' l s hp => ?_
  cases b' with
  | false =>
    obtain ⟨b, e, q⟩ := hp w' H' (Le.refl _) s
    cases e
    exact ⟨false, rfl, q⟩
  | true =>
    refine rdE_seq (hE2.mono l) s hp fun w3 z x3 st3 H3 l3 hE3 hS3 rz h3 => ?_
    refine cmp_tail (W := W) (σ := σ) hS3 (RV.mono (l.trans l3) u ru) rz (h3.imp fun w' z st' H' l s ⟨b, e, q⟩ x rx => ?_)
    subst e
    exact ⟨b, rx, q⟩
theorem snd_not {a : Expr} {ma : ME} {pos : Pos} (ha : PE X a (rdE P Φ X.K W ma)) : PE X (.UnaryOp .Not a pos) (rdE P Φ X.K W (.not ma)) := by
  refine (pe_not ha).imp fun σ H Q ⟨w, env, st, hE, hS, h⟩ => ?_
  refine rdE_seq hE hS h fun w1 v x st1 H1 l1 hE1 hS1 rv h1 => ?_
  cases v with
  | bl i => cases (show x = .bl i from rv); exact ⟨i, rfl, h1 w1 H1 (Le.refl _) hS1 _ rfl⟩
  | _ => exact h1.elim
theorem snd_notT {a : Expr} {ma : ME} {pos : Pos} (ha : PT X a (rdT P Φ X.K W ma)) : PT X (.UnaryOp .Not a pos) (rdT P Φ X.K W (.not ma)) := by
  refine (pt_not ha).imp fun σ H Q ⟨w, env, st, hE, hS, h⟩ => ?_
  refine rdT_seq hE hS h fun w1 b st1 H1 l1 hE1 hS1 h1 => h1 w1 H1 (Le.refl _) hS1
theorem snd_ite {c a b : Expr} {mc ma mb : ME} {pos : Pos} (hc : PT X c (rdT P Φ X.K W mc)) (ha : PE X a (rdE P Φ X.K W ma)) (hb : PE X b (rdE P Φ X.K W mb)) : PE X (.IfExp c a b pos) (rdE P Φ X.K W (.ite mc ma mb)) := by
  refine (pe_ifExp hc ha hb).imp fun σ H Q ⟨w, env, st, hE, hS, h⟩ => ?_
  refine rdT_seq hE hS h fun w1 b st1 H1 l1 hE1 hS1 h1 => ?_
  cases b with
  | true => exact ⟨w1, env, st1, hE1, hS1, h1⟩
  | false => exact ⟨w1, env, st1, hE1, hS1, h1⟩
theorem snd_nil : PA X [] (rdA P Φ X.K W []) := pa_nil.imp fun σ H Q ⟨w, env, st, hE, hS, h⟩ => h w H (Le.refl _) hS [] rfl
theorem snd_cons {e : Expr} {es : List Expr} {m : ME} {ms : List ME} (hs : starEach (e :: es) X.env = (false, eval e X.env) :: starEach es X.env) (he : PE X e (rdE P Φ X.K W m)) (hr : PA X es (rdA P Φ X.K W ms)) : PA X (e :: es) (rdA P Φ X.K W (m :: ms)) := by
  refine (pa_cons he hr hs).imp fun σ H Q ⟨w, env, st, hE, hS, h⟩ => ?_
  refine rdE_seq hE hS h fun w1 v x st1 H1 l1 hE1 hS1 rv h1 => ?_
  refine rdA_seq hE1 hS1 h1 fun w2 u y st2 H2 l2 hE2 hS2 ru h2 => ?_
  exact h2 w2 H2 (Le.refl _) hS2 _ (RVs.cons (RV.mono l2 v rv) ru)
theorem le_line {n : Nat} (h : n ≤ 1000) : n ≤ sizeLine := by rw [sizeLine_eq]; omega
theorem snd_tup {es : List Expr} {ms : List ME} {x1 : Nat} {pos : Pos} (hl : ms.length ≤ 1000) (hn : ∀ env st vs st', evalEs P Φ ms env st = .ok vs st' → vs.length = ms.length) (ha : PA X es (rdA P Φ X.K W ms)) : PE X (.Tuple es x1 pos) (rdE P Φ X.K W (.tup ms)) := by
  refine (pe_tup ha).imp fun σ H Q ⟨w, env, st, hE, hS, h⟩ => ?_
  refine ⟨w, env, st, hE, hS, ?_⟩
  replace h : Post X.K w ((evalEs P Φ ms env st).then_ fun vs st => R.ok (Val.tup vs) st) (AV X.K Q) fun c d H' => W c d σ H' := h
  cases e : evalEs P Φ ms env st with
  | ok vs st' =>
    rw [e] at h
    intro w1 H1 l1 hS1 xs r
    have hz : vs.length ≤ sizeLine := by rw [hn _ _ _ _ e]; exact le_line hl
    refine ⟨by rw [← r.length]; exact hz, give_tup (A := fun w' v st' H' => ∀ x, RV X.K w' v x → Q x H') hS1 r hz (fun w' H' l s => h w' H' (l1.trans l) s) fun _ _ h => h⟩
  | err c ns vs st' => rw [e] at h; exact h
  | stuck => rw [e] at h; exact h
theorem snd_lst {es : List Expr} {ms : List ME} {pos : Pos} {mu : Bool} (hl : ms.length ≤ 1000) (hn : ∀ env st vs st', evalEs P Φ ms env st = .ok vs st' → vs.length = ms.length) (ha : PA X es (rdA P Φ X.K W ms)) : PE X (.List es pos) (rdE P Φ X.K W (.lst mu ms)) := by
  refine (pe_lst ha).imp fun σ H Q ⟨w, env, st, hE, hS, h⟩ => ?_
  refine ⟨w, env, st, hE, hS, ?_⟩
  replace h : Post X.K w ((evalEs P Φ ms env st).then_ fun vs st => match mu with
    | true => R.ok (Val.ref st.length) (st ++ [.lst vs])
    | false => R.ok (Val.lst vs) st) (AV X.K Q) fun c d H' => W c d σ H' := h
  cases e : evalEs P Φ ms env st with
  | ok vs st' =>
    rw [e] at h
    intro w1 H1 l1 hS1 xs r
    have hz : vs.length ≤ sizeLine := by rw [hn _ _ _ _ e]; exact le_line hl
    refine ⟨by rw [← r.length]; exact hz, ?_⟩
    cases mu with
    | false => exact give_lst (A := fun w' v st' H' => ∀ x, RV X.K w' v x → Q x H') hS1 r hz (fun w' H' l s => h w' H' (l1.trans l) s) fun _ _ h => h
    | true =>
      intro p hp
      have s2 := hS1.push (H' := upd H1 p (.lst xs)) (s := .lst vs) hp (fun q n _ => upd_ne n) ⟨xs, upd_same, hz, RVs.mono (RS.push_le p) _ r⟩
      refine h _ _ (l1.trans (RS.push_le p)) s2 _ ⟨p, rfl, ?_⟩
      show (w1.e ++ [p])[st'.length]? = some p
      rw [← hS1.len]; simp
  | err c ns vs st' => rw [e] at h; exact h
  | stuck => rw [e] at h; exact h
theorem snd_ix {a b : Expr} {ma mb : ME} {pos : Pos} (hp : PlainIx b) (ha : PE X a (rdE P Φ X.K W ma)) (hb : PE X b (rdE P Φ X.K W mb)) : PE X (.Subscript a b pos) (rdE P Φ X.K W (.ix ma mb)) := by
  refine (pe_ix ix_ok ha hb hp).imp fun σ H Q ⟨w, env, st, hE, hS, h⟩ => ?_
  refine rdE_seq hE hS h fun w1 v x st1 H1 l1 hE1 hS1 rv h1 => ?_
  refine rdE_seq hE1 hS1 h1 fun w2 u y st2 H2 l2 hE2 hS2 ru h2 => ?_
  obtain ⟨z, e, q⟩ := h2.of
  exact ⟨w2, st2, v, u, hS2, RV.mono l2 v rv, ru, z, e, q⟩
/-- a slice's bound -/
inductive PB1 (X : Cx) (P : Prog) (Φ : Cal) (W : WX) : Option Expr → List ME → Prop
  | no : PB1 X P Φ W none []
  | one {e : Expr} {m : ME} (h : PE X e (rdE P Φ X.K W m)) : PB1 X P Φ W (some e) [m]
theorem snd_part {o : Option Expr} {ms : List ME} (h : PB1 X P Φ W o ms) : PO X o (fun σ H Q => rd X.K W (evalEs P Φ ms) σ H fun w' vs H' => ∃ i, partOf vs = some i ∧ Q i H') := by
  cases h with
  | no =>
    refine ⟨fun pins s σ H Q I ⟨w, env, st, hE, hS, h⟩ => ?_⟩
    obtain ⟨i, e, q⟩ := h w H (Le.refl _) hS
    cases e
    exact (po_none (X := X)).run pins s σ H Q I q
  | one h =>
    rename_i e m
    refine ⟨fun pins s σ H Q I ⟨w, env, st, hE, hS, hh⟩ => ?_⟩
    refine (po_some h).run pins s σ H Q I ?_
    replace hh : Post X.K w ((evalE P Φ m env st).then_ fun v st => R.ok [v] st) (fun w' vs _ H' => ∃ i, partOf vs = some i ∧ Q i H') fun c d H' => W c d σ H' := hh
    refine rdE_seq hE hS hh fun w1 v x st1 H1 l1 hE1 hS1 rv h1 => ?_
    obtain ⟨i, e, q⟩ := h1 w1 H1 (Le.refl _) hS1
    cases v with
    | int j => cases (show x = .int j from rv); cases e; exact ⟨j, rfl, q⟩
    | _ => simp [partOf] at e
theorem snd_slc {a : Expr} {lo hi : Option Expr} {ma : ME} {ml mh : List ME} {p2 pos : Pos} (ha : PE X a (rdE P Φ X.K W ma)) (hl : PB1 X P Φ W lo ml) (hh : PB1 X P Φ W hi mh) : PE X (.Subscript a (.Slice lo hi none p2) pos) (rdE P Φ X.K W (.slc ma ml mh)) := by
  refine (pe_slice slc_ok ha (snd_part hl) (snd_part hh)).imp fun σ H Q ⟨w, env, st, hE, hS, h⟩ => ?_
  refine rdE_seq hE hS h fun w1 v x st1 H1 l1 hE1 hS1 rv h1 => ?_
  refine rd_seq hE1 hS1 h1 fun w2 us st2 H2 l2 hE2 hS2 h2 => ?_
  cases e1 : partOf us with
  | none => rw [e1] at h2; exact h2.elim
  | some i =>
    rw [e1] at h2
    refine ⟨i, rfl, ?_⟩
    refine rd_seq hE2 hS2 h2 fun w3 ws st3 H3 l3 hE3 hS3 h3 => ?_
    cases e2 : partOf ws with
    | none => rw [e2] at h3; exact h3.elim
    | some j =>
      rw [e2] at h3
      obtain ⟨z, e, q⟩ := h3.of
      exact ⟨j, rfl, w3, st3, v, hS3, RV.mono (l2.trans l3) v rv, z, e, q⟩
end
end Mp
end

section
set_option Elab.async false
set_option linter.all false
set_option maxRecDepth 100000
set_option maxHeartbeats
                         1000000
namespace Mp
open PySem L2 PySem.Spec PyProof.Rows

/-! ### argument lists without stars; keywords by name -/
def NoStar (es : List Expr) : Prop := ∀ env, starEach es env = es.map fun e => (false, eval e env)
theorem NoStar.cons {e : Expr} {es : List Expr} (h : NoStar (e :: es)) (h2 : NoStar es) (env : PySem.Env) : starEach (e :: es) env = (false, eval e env) :: starEach es env := by rw [h, h2]; rfl
theorem NoStar.any {es : List Expr} (h : NoStar es) (pos : Pos) (env : PySem.Env) : (backTo pos (starEach es env)).any (·.1) = false := by
  rw [h]; unfold backTo; simp
theorem NoStar.all {es : List Expr} (h : NoStar es) (pos : Pos) (env : PySem.Env) : (backTo pos (starEach es env)).all (fun x => !x.1) = true := by
  rw [h]; unfold backTo; simp
inductive KwsOk : List Str → List Keyword → Prop
  | nil : KwsOk [] []
  | cons {n : Str} {kn : List Str} {e : Expr} {p : Pos} {kws : List Keyword} (h : KwsOk kn kws) : KwsOk (n :: kn) (⟨some n, e, p⟩ :: kws)
theorem KwsOk.all {kn : List Str} {kws : List Keyword} (h : KwsOk kn kws) (pos : Pos) (env : PySem.Env) : (backToKw pos (keywordEach kws env)).all (·.1.isSome) = true := by
  induction h with
  | nil => rfl
  | cons h ih =>
    show (true && (backToKw pos (keywordEach _ env)).all (·.1.isSome)) = true
    rw [ih]; rfl
theorem KwsOk.names {kn : List Str} {kws : List Keyword} (h : KwsOk kn kws) (pos : Pos) (env : PySem.Env) : (backToKw pos (keywordEach kws env)).filterMap (·.1) = kn := by
  induction h with
  | nil => rfl
  | @cons n kn e p kws h ih =>
    show List.filterMap (·.1) ((some n, _) :: backToKw pos (keywordEach kws env)) = _
    rw [List.filterMap_cons_some (by rfl), ih]
theorem KwsOk.none {kn : List Str} {kws : List Keyword} (h : KwsOk kn kws) (pos : Pos) (env : PySem.Env) : (backToKw pos (keywordEach kws env)).any (·.1.isNone) = false := by
  induction h with
  | nil => rfl
  | cons h ih =>
    show (false || (backToKw pos (keywordEach _ env)).any (·.1.isNone)) = false
    rw [ih]; rfl
section
variable {P : Prog} {Φ : Cal} {fa : Str → Addr} {k : Nat} {N : List Str} {sc : Sco} {W : WX} {X : Cx}
theorem snd_kws {kn : List Str} {kws : List Keyword} {ks : List ME} (h : KwsOk kn kws) (hp : ∀ p ∈ (kws.map (·.value)).zip ks, PE X p.1 (rdE P Φ X.K W p.2)) (hl : kws.length = ks.length) : PK X kws (rdA P Φ X.K W ks) := by
  induction h generalizing ks
                              with
  | nil =>
    cases ks with
    | nil => exact ⟨fun pos pins s σ H Q I ⟨w, env, st, hE, hS, h⟩ => (pk_nil (X := X)).run pos pins s σ H Q I (h w H (Le.refl _) hS [] rfl)⟩
    | cons _ _ => cases hl
  | @cons n kn e p kws h ih =>
    cases ks with
    | nil => cases hl
    | cons m ms =>
      have h1 := hp (e, m) (by simp)
      have h2 := ih (ks := ms) (fun q hq => hp q (by simp at hq ⊢; exact .inr hq)) (by simpa using hl)
      refine ⟨fun pos pins s σ H Q I ⟨w, env, st, hE, hS, h⟩ => (pk_cons h1 h2).run pos pins s σ H Q I ?_⟩
      refine rdE_seq hE hS h fun w1 v x st1 H1 l1 hE1 hS1 rv h1 => ?_
      refine rdA_seq hE1 hS1 h1 fun w2 u y st2 H2 l2 hE2 hS2 ru h2 => ?_
      exact h2 w2 H2 (Le.refl _) hS2 _ (RVs.cons (RV.mono l2 v rv) ru)
/-- f(.., k = ..) of a function object of the module -/
theorem pe_callG {x : Str} {p pos : Pos} {es : List Expr} {kws : List Keyword} {kn : List Str} {a : Addr} {t tk : TA} {r : L2.St → List V → List V → Hp → VK → Prop} (hg : Gl X x) (hd : (x == ("__debug__" : Str)) = false) (hm : X.mg x = some (.ref a)) (hk : PySem.W.keepIn X.K (.ref a) = true)
    (ns : NoStar es) (ns2 : ∀ e es', es = e :: es' → NoStar es') (ko : KwsOk kn kws) (ha : PA X es t) (hnil : es = [] → ∀ σ H Q, t σ H Q → Q [] H) (hkw : PK X kws tk)
    (run : ∀ (pins : List (Addr × Obj)) (s : Shared) (σ : L2.St) (H : Hp) (vs zs : List V) (us ws : List Value) (Q : VK), L2.Inv X pins σ H s → Vals vs us → Vals zs ws → r σ vs zs H Q → wpAny (model X.prog X.w) X.A (PySem.call (.ref a) us (kn.zip ws)) (EP X pins σ Q) X.xe s) :
    PE X (.Call (.Name x p) es kws pos) (fun σ H Q => t σ H fun vs H1 => tk σ H1 fun zs H2 => r σ vs zs H2 Q) := by
  refine ⟨fun pins s σ H Q I h =>
                                  ?_⟩
  refine wpAny_Call_Name_kw (ld_glob I hg hm ?_
                                                hd)
  cases es with
  | nil =>
    refine PySem.W.callWith_KW0 (h₀ := X.base) (first := []) I.ok.mod.kin hk (ko.all _ _) ?_ (by rw [ko.none]; rfl)
    refine thn (hkw.run pos pins s σ H _ I (hnil rfl σ H _ h)) fun ws s2 ⟨zs, H2, I2, rz, q2⟩ => ⟨I2.kIn, ?_⟩
    rw [ko.names]
    exact run pins s2 σ H2 [] zs [] ws Q I2 .nil rz q2
  | cons e es =>
    refine PySem.W.callWith_KW (h₀ := X.base) (first := []) I.ok.mod.kin hk (ko.all _ _) ?_ (by rw [(ns).any, ko.none]; rfl) (ns.cons (ns2 e es rfl) _)
    refine thn (ha.run pos pins s σ H _ I h) fun us s1 ⟨vs, H1, I1, r1, q⟩ => ?_
    refine thn (hkw.run pos pins s1 σ H1 _ I1 q) fun ws s2 ⟨zs, H2, I2, rz, q2⟩ => ⟨I2.kIn,
                                                                                            ?_⟩
    rw [ko.names]
    exact run pins s2 σ H2 vs zs us ws Q I2 r1 rz q2
/-- o.m(..), a method of an own class -/
theorem pe_methG {o : Expr} {m : Str} {apos pos : Pos} {es : List Expr} {to : TE} {t : TA} {r : Addr → L2.St → V → List V → Hp → VK → Prop} {g : V → Hp → Addr → Prop} (hl : (apos.endLine == pos.line) = true) (hz : es.length < 30) (hb : attributeBase o m X.env (eval o X.env) = eval o X.env)
    (ns : NoStar es) (ns2 : ∀ e es', es = e :: es' → NoStar es') (ho : PE X o to) (ha : PA X es t) (hnil : es = [] → ∀ σ H Q, t σ H Q → Q [] H)
    (get : ∀ (pins : List (Addr × Obj)) (s : Shared) (σ : L2.St) (H : Hp) (x : V) (u : Value) (a : Addr) (pl : Sem Bool) (R : Value × List Value → Shared → Prop), L2.Inv X pins σ H s → RelV x u → g x H a → R (.ref a, [u]) s → wpAny (model X.prog X.w) X.A (getMethod u m pl) R X.xe s)
    (kp : ∀ x H a, g x H a → PySem.W.keepIn X.K (.ref a) = true)
    (run : ∀ (pins : List (Addr × Obj)) (s : Shared) (σ : L2.St) (H1 H : Hp) (x : V) (a : Addr) (u : Value) (vs : List V) (us : List Value) (Q : VK), L2.Inv X pins σ H s → g x H1 a → RelV x u → Vals vs us → r a σ x vs H Q → wpAny (model X.prog X.w) X.A (PySem.call (.ref a) (u :: us)) (EP X pins σ Q) X.xe s) :
    PE X (.Call (.Attribute o m apos) es [] pos) (fun σ H Q => to σ H fun x H1 => ∃ a, g x H1 a ∧ t σ H1 fun vs H2 => r a σ x vs H2 Q) := by
  refine ⟨fun pins s σ H Q I h =>
                                  ?_⟩
  have hform : methodCallForm es.length (backTo pos (starEach es X.env)) (backToKw pos (keywordEach [] X.env)) = true := by
    unfold methodCallForm
    rw [ns.all]
    simp [backToKw, keywordEach, hz]
  have ht : eval (.Call (.Attribute o m apos) es [] pos) X.env = (do
      let ov ← eval o X.env
      standAt apos.atName
      let (f, first) ← holding [ov] (getMethod ov m (plainOf o X.env))
      callWith pos f first (backTo pos (starEach es X.env)) (backToKw pos (keywordEach [] X.env))) := by
    have e1 : eval (.Call (.Attribute o m apos) es [] pos) X.env = (do
      let ov ← eval o X.env
      standAt apos.atName
      methodCall o m apos pos X.env ov es.length (backTo pos (starEach es X.env)) (backToKw pos (keywordEach [] X.env))) := by
      rw [arm_eval_Call, hb]
      rfl
    rw [e1]
    simp only [mcall_line hform hl]
  refine PySem.W.methodCall_KW (pl := plainOf o X.env) (thn (ho.run pins s σ H _ I h) fun u s1 ⟨x, H1, I1, rx, a, ga, q⟩ => ?_) ht
  refine get pins s1 σ H1 x u a _ _ I1 rx ga ?_
  cases es with
  | nil => exact PySem.W.callWith_K0 (first := [u]) I1.kIn (kp _ _ _ ga) (run pins s1 σ H1 H1 x a u [] [] Q I1 ga rx .nil (hnil rfl σ H1 _ q))
  | cons e es =>
    refine PySem.W.callWith_K (first := [u]) (h₀ := X.base) I.ok.mod.kin (kp _ _ _ ga) (thn (ha.run pos pins s1 σ H1 _ I1 q) fun us s2 ⟨vs, H2, I2, r, q2⟩ => ⟨I2.kIn, ?_⟩) (ns.cons (ns2 e es rfl) _) ((ns2 e es rfl).any _ _)
    exact run pins s2 σ H1 H2 x a u vs us Q I2 ga rx r q2
end
end Mp
end

section
set_option Elab.async false
set_option linter.all false
set_option maxRecDepth 100000
set_option maxHeartbeats
                         1000000
namespace Mp
open PySem L2 PySem.Spec PyProof.Rows

section
variable {P : Prog} {Φ : Cal} {fa : Str → Addr} {k : Nat} {N : List Str} {sc : Sco} {W : WX} {X : Cx}
theorem evalEs_len (ms : List ME) : ∀ env st vs st', evalEs P Φ ms env st = .ok vs st' → vs.length = ms.length := by
  induction ms with
  | nil => intro env st vs st' h; cases (show R.ok [] st = _ from h); rfl
  | cons m ms ih =>
    intro env st vs st' h
    replace h : (evalE P Φ m env st).then_ (fun v st => (evalEs P Φ ms env st).then_ fun vs st => R.ok (v :: vs) st) = .ok vs st' := h
    cases e : evalE P Φ m env st with
    | ok v st1 =>
      rw [e] at h
      replace h : (evalEs P Φ ms env st1).then_ (fun vs st => R.ok (v :: vs) st) = .ok vs st' := h
      cases e2 : evalEs P Φ ms env st1 with
      | ok us st2 =>
        rw [e2] at h
        have h' : R.ok (v :: us) st2 = R.ok vs st' := h
        injection h' with h1 h2
        rw [← h1, List.length_cons, List.length_cons, ih _ _ _ _ e2]
      | err c ns vs st => rw [e2] at h; cases h
      | stuck => rw [e2] at h; cases h
    | err c ns vs st => rw [e] at h; cases h
    | stuck => rw [e] at h; cases h
theorem rdA_nil {ms : List ME} (h : ms = []) : ∀ σ H (Q : List V → Hp → Prop), rdA P Φ X.K W ms σ H Q → Q [] H := fun σ H Q ⟨w, env, st, hE, hS, q⟩ => by
  subst h; exact q w H (Le.refl _) hS [] rfl
/-- the values of arguments and keywords are in hand -/
def rCallV (P : Prog) (Φ : Cal) (K : PySem.W.Frag) (W : WX) (ev : List Val → List Val → Store → R Val) (nk : Nat) : L2.St → List V → List V → Hp → VK → Prop := fun σ xs zs H Q =>
  ∃ w st vs ks, RS K w st H ∧ RVs K w vs xs ∧ RVs K w ks zs ∧ ks.length = nk ∧ Post K w (ev vs ks st) (AV K Q) fun c d H' => W c d σ H'
theorem args_tail {ms ks : List ME} {σ : L2.St} {H : Hp} {Q : VK} {w : Wd} {env : Env} {st : Store} {ev : List Val → List Val → Store → R Val} (hE : RE X.K w env σ) (hS : RS X.K w st H)
    (h : Post X.K w ((evalEs P Φ ms env st).then_ fun vs st => (evalEs P Φ ks env st).then_ fun zs st => ev vs zs st) (AV X.K Q) fun c d H' => W c d σ H') :
    rdA P Φ X.K W ms σ H fun vs H1 => rdA P Φ X.K W ks σ H1 fun zs H2 => rCallV P Φ X.K W ev ks.length σ vs zs H2 Q := by
  refine rdA_seq hE hS h fun w1 v x st1 H1 l1 hE1 hS1 rv h1 => ?_
  refine ⟨w1, env, st1, hE1, hS1, ?_⟩
  cases e : evalEs P Φ ks env st1 with
  | ok us st2 =>
    rw [e] at h1
    intro w2 H2 l2 hS2 y ru
    exact ⟨w2, st2, v, us, hS2, RVs.mono l2 v rv, ru, evalEs_len ks _ _ _ _ e, Post.mono l2 h1⟩
  | err c ns vs st => rw [e] at h1; exact h1
  | stuck => rw [e] at h1; exact h1
theorem snd_call (O : OkX P Φ fa k N sc W X) {m : Mode} {f : Str} {p pos : Pos} {es : List Expr} {kws : List Keyword} {kn : List Str} {ms ks : List ME} (hg : isGl sc f = true) (hn : nmOk f = true) (hf : P.isg f = true) (hb : (P.bind f ms.length kn).isSome = true)
    (ns : NoStar es) (ns2 : ∀ e es', es = e :: es' → NoStar es') (ko : KwsOk kn kws) (hl : ks.length = kn.length) (hnil : es = [] → ms = []) (ha : PA X es (rdA P Φ X.K W ms)) (hk : PK X kws (rdA P Φ X.K W ks)) :
    PE X (.Call (.Name f p) es kws pos) (rdE P Φ X.K W (.call m f ms kn ks)) := by
  obtain ⟨tp, etp⟩ := Option.isSome_iff_exists.mp hb
  refine (pe_callG (r := rCallV P Φ X.K W (fun vs zs st => callM P Φ m f kn vs zs st) ks.length) (gl_ok O hg) (nmOk_d hn).1 (O.lk.gf f hf) (O.lk.fn f _ kn tp etp).2 ns ns2 ko ha (fun e => rdA_nil (hnil e)) hk fun pins s σ H vs zs us ws Q I r rz ⟨w, st, va, vk, hS, rv, rk, hlen, h⟩ => ?_).imp fun σ H Q ⟨w, env, st, hE, hS, h⟩ => ?_
  · exact callM_ok O I hS rv rk r rz (hlen.trans hl) h
  · exact args_tail hE hS h
theorem ref_rel {w : Wd} {i : Nat} {p : Addr} (h : w.e[i]? = some p) : RV X.K w (.ref i) (.ref p) := ⟨p, rfl, h⟩
theorem makeM_ok (O : OkX P Φ fa k N sc W X) {m : Mode} {c : Str} {kn : List Str} {vs ks : List Val} {xs zs : List V} {us ws : List Value} {pins : List (Addr × Obj)} {s : Shared} {σ : L2.St} {H : Hp} {Q : VK} {w : Wd} {st : Store} (I : L2.Inv X pins σ H s) (hS : RS X.K w st H) (rv : RVs X.K w vs xs) (rk : RVs X.K w ks zs) (r : Vals xs us) (rz : Vals zs ws) (hkn : ks.length = kn.length)
    (h : Post X.K w (makeM P Φ m c kn vs ks st) (AV X.K Q) fun c d H' => W c d σ H') : wpAny (model X.prog X.w) X.A (PySem.call (.ref (cA X.K c)) us (kn.zip ws)) (EP X pins σ Q) X.xe s := by
  unfold makeM at h
  cases e0 : P.meth c "__init__" with
  | none => rw [e0] at h; exact h.elim
  | some f =>
    rw [e0] at h
    simp only at h
    split at h
    · rename_i hc
      cases e : P.bind f (vs.length + 1) kn with
      | none => rw [e] at h; exact h.elim
      | some tp =>
        rw [e] at h
        simp only at h
        cases e2 : srcs (.ref st.length :: vs) ks tp with
        | none => rw [e2] at h; exact h.elim
        | some args =>
          rw [e2] at h
          simp only at h
          have h1 := finish_ok hS h
          obtain ⟨mk1, mk2, mk3⟩ := O.lk.mkC c f e0 hc
          have I2 := Inv.made (C := cA X.K c) I
          have hx : H (s.heap.objs.size + 1) = none := I.hok.fresh (Nat.le_succ _)
          have hdx : H s.heap.objs.size = none := I.hok.fresh (Nat.le_refl _)
          have hne : s.heap.objs.size ≠ s.heap.objs.size + 1 := Nat.ne_of_lt (Nat.lt_succ_self _)
          have le1 : Le w ⟨w.F, w.e ++ [s.heap.objs.size + 1], w.G⟩ := RS.push_le _
          have hS2 : RS X.K ⟨w.F, w.e ++ [s.heap.objs.size + 1], w.G⟩ (st ++ [.ins c [] []]) (upd (upd H s.heap.objs.size (.own (s.heap.objs.size + 1))) (s.heap.objs.size + 1) (.ins (cA X.K c) s.heap.objs.size [])) :=
            hS.push hx (fun q n hq => by
              rw [upd_ne n]
              exact upd_ne fun z => hq (by rw [z]; exact hdx)) ⟨s.heap.objs.size, [], upd_same, rfl, rfl⟩
          have er : (w.e ++ [s.heap.objs.size + 1])[st.length]? = some (s.heap.objs.size + 1) := by rw [← hS.len]; simp
          have C := (O.lk.fn f _ kn tp e).1
          refine wpAny_call (make_map (f := fa f) I.kIn mk1 mk2 (beq_iff_eq.mp mk3) (codeAny_mono (C _ X.stack _ _ (Value.ref (s.heap.objs.size + 1) :: us) ws (V.ref (s.heap.objs.size + 1) :: xs) zs (fun v H2 => v = .non ∧ Q (.ref (s.heap.objs.size + 1)) H2) (fun c d H' => W c d σ H') ((O.room.mono (by omega) : Room (k + 1) X.A).make _ us (kn.zip ws))
            (I2.env0.make _ us (kn.zip ws)) (.cons rfl r) rz ⟨_, _, _, _, args, hS2, RVs.cons (ref_rel er) (RVs.mono le1 _ rv), RVs.mono le1 _ rk, rfl, hkn, e2, ?_⟩) fun r s' hq' => ?_))
          · -- the __init__'s result
            cases eΦ : Φ f args (st ++ [.ins c [] []]) with
            | ok v st' =>
              rw [eΦ] at h1
              cases v with
              | non =>
                intro w' H' l' s' x rx
                refine ⟨rx, ?_⟩
                have h1' : Post X.K w (R.ok (Val.ref st.length) st') (AV X.K Q) fun c d H' => W c d σ H' := h1
                exact h1' w' H' (le1.trans l') s' _ (ref_rel (l'.e _ _ er))
              | _ => exact h1.elim
            | err c' ns vs' st' =>
              rw [eΦ] at h1
              have h1' : Post X.K w (R.err c' ns vs' st') (AV X.K Q) fun c d H' => W c d σ H' := h1
              exact fun w' cls d H' l' s' x => h1' w' cls d H' (le1.trans l') s' x
            | stuck => rw [eΦ] at h1; exact h1.elim
          · cases r with
            | error e => exact O.tk e s' (XE.of_call I2 (fun _ _ _ h => h) hq')
            | ok fl =>
              cases fl with
              | ret u =>
                obtain ⟨v, H', I3, rv, ev, q3⟩ := I2.after
                                                           hq'
                subst ev
                exact ⟨rv, ⟨V.ref (s.heap.objs.size + 1), H', I3, rfl,
                                                                       q3⟩⟩
              | next => exact False.elim
                                         hq'
              | brk => exact False.elim hq'
              | cont => exact False.elim
                                         hq'
    · exact h.elim
theorem snd_make (O : OkX P Φ fa k N sc W X) {m : Mode} {c : Str} {p pos : Pos} {es : List Expr} {kws : List Keyword} {kn : List Str} {ms ks : List ME} (hg : isGl sc c = true) (hn : nmOk c = true) (hc : P.isc c = true)
    (ns : NoStar es) (ns2 : ∀ e es', es = e :: es' → NoStar es') (ko : KwsOk kn kws) (hl : ks.length = kn.length) (hnil : es = [] → ms = []) (ha : PA X es (rdA P Φ X.K W ms)) (hk : PK X kws (rdA P Φ X.K W ks)) :
    PE X (.Call (.Name c p) es kws pos) (rdE P Φ X.K W (.make m c ms kn ks)) := by
  obtain ⟨g1, g2, _⟩ := O.lk.gc c hc
  refine (pe_callG (r := rCallV P Φ X.K W (fun vs zs st => makeM P Φ m c kn vs zs st) ks.length) (gl_ok O hg) (nmOk_d hn).1 g1 g2 ns ns2 ko ha (fun e => rdA_nil (hnil e)) hk fun pins s σ H vs zs us ws Q I r rz ⟨w, st, va, vk, hS, rv, rk, hlen, h⟩ => ?_).imp fun σ H Q ⟨w, env, st, hE, hS, h⟩ => ?_
  · exact makeM_ok O I hS rv rk r rz (hlen.trans hl) h
  · exact args_tail hE hS h
theorem snd_attr (O : OkX P Φ fa k N sc W X) {a : Expr} {ma : ME} {f : Str} {pos : Pos} (hb : attributeBase a f X.env (eval a X.env) = eval a X.env) (ha : PE X a (rdE P Φ X.K W ma)) : PE X (.Attribute a f pos) (rdE P Φ X.K W (.attr ma f)) := by
  refine ⟨fun pins s σ H Q I ⟨w, env, st, hE, hS, h⟩ => ?_⟩
  refine attr_of hb (thn (ha.run pins s σ H (fun x H1 => ∃ w1 v st1, RS X.K w1 st1 H1 ∧ RV X.K w1 v x ∧ Post X.K w1 (attrM P Φ v f st1) (AV X.K Q) fun c d H' => W c d σ H') I (rdE_seq hE hS h fun w1 v x st1 H1 l1 hE1 hS1 rv h1 => ⟨w1, v, st1, hS1, rv, h1⟩)) fun u s1 ⟨x, H1, I1, rx, w1, v, st1, hS1, rv, h1⟩ => ?_)
  exact attrM_ok O I1 hS1 rv rx h1
theorem methG_some {x : Val} {f g : Str} {n : Nat} {st : Store} (h : methG P x f n st = some g) : ∃ c ns ws tp, insOf st x = some (c, ns, ws) ∧ P.isc c = true ∧ fld ns ws f = none ∧ P.meth c f = some g ∧ P.bind g n [] = some tp := by
  unfold methG at h
  cases e : insOf st x with
  | none => rw [e] at h; cases
                               h
  | some z =>
    obtain ⟨c, ns, ws⟩ := z
    rw [e] at h
    simp only at h
    split at h
    · rename_i g' e1 e2 e3
      split at h
      · rename_i tp e4
        cases h
        exact ⟨c, ns, ws, tp, rfl, e1, e2, e3, e4⟩
      · cases h
    · cases h
theorem snd_meth (O : OkX P Φ fa k N sc W X) {m : Mode} {a : Expr} {ma : ME} {f : Str} {apos pos : Pos} {es : List Expr} {ms : List ME} (hl : (apos.endLine == pos.line) = true) (hz : es.length < 30) (hb : attributeBase a f X.env (eval a X.env) = eval a X.env)
    (ns : NoStar es) (ns2 : ∀ e es', es = e :: es' → NoStar es') (hnil : es = [] → ms = []) (ha : PE X a (rdE P Φ X.K W ma)) (has : PA X es (rdA P Φ X.K W ms)) :
    PE X (.Call (.Attribute a f apos) es [] pos) (rdE P Φ X.K W (.meth m ma f ms)) := by
  refine (pe_methG (t := rdA P Φ X.K W ms) (to := rdE P Φ X.K W ma)
    (g := fun x H a' => ∃ w st v g, RS X.K w st H ∧ RV X.K w v x ∧ methG P v f (ms.length + 1) st = some g ∧ a' = fa g)
    (r := fun a' σ x xs H Q => ∃ w st v vs g, RS X.K w st H ∧ RV X.K w v x ∧ RVs X.K w vs xs ∧ a' = fa g ∧ Post X.K w (callM P Φ m g [] (v :: vs) [] st) (AV X.K Q) fun c d H' => W c d σ H')
    hl hz hb ns ns2 ha has (fun e => rdA_nil (hnil e)) (fun pins s σ H x u a' pl R I rx ⟨w, st, v, g, hS, rv, hg, ea⟩ q => ?_) (fun x H a' ⟨w, st, v, g, hS, rv, hg, ea⟩ => ?_)
    (fun pins s σ H1 H x a' u xs us Q I _ rx r ⟨w, st, v, vs, g, hS, rv, rvs, ea, h⟩ => ?_)).imp fun σ H Q ⟨w, env, st, hE, hS, h⟩ => ?_
  · subst ea
    obtain ⟨c, ns', ws', tp, h1, h2, h3, h4, h5⟩ := methG_some hg
    exact methM_ok O I hS rv rx h1 h3 h4 h2 q
  · subst ea
    obtain ⟨c, ns', ws', tp, h1, h2, h3, h4, h5⟩ := methG_some hg
    exact (O.lk.fn g _ [] tp h5).2
  · subst ea
    exact callM_ok (ws := []) (zs := []) O I hS (RVs.cons rv rvs) RVs.nil (.cons rx r) .nil rfl h
  · refine rdE_seq hE hS h fun w1 v x st1 H1 l1 hE1 hS1 rv h1 => ?_
    cases e : methG P v f (ms.length + 1) st1 with
    | none => rw [e] at h1; exact h1.elim
    | some g =>
      rw [e] at h1
      refine ⟨fa g, ⟨w1, st1, v, g, hS1, rv, e, rfl⟩, ?_⟩
      refine rdA_seq hE1 hS1 h1 fun w2 vs xs st2 H2 l2 hE2 hS2 rvs h2 => ?_
      exact ⟨w2, st2, v, vs, g, hS2, RV.mono l2 v rv, rvs, rfl, h2⟩
end
end Mp
end

section
set_option Elab.async false
set_option linter.all false
set_option maxRecDepth 100000
set_option maxHeartbeats
                         1000000
namespace Mp
open PySem L2 PySem.Spec PyProof.Rows

section
variable {P : Prog} {Φ : Cal} {fa : Str → Addr} {k : Nat} {N : List Str} {sc : Sco} {W : WX} {X : Cx}
/-! ### and, or -/
inductive PEs (X : Cx) (P : Prog) (Φ : Cal) (W : WX) : List Expr → List ME → Prop
  | nil : PEs X P Φ W [] []
  | cons {e : Expr} {m : ME} {es : List Expr} {ms : List ME} (h : PE X e (rdE P Φ X.K W m)) (r : PEs X P Φ W es ms) : PEs X P Φ W (e :: es) (m :: ms)
inductive PTs2 (X : Cx) (P : Prog) (Φ : Cal) (W : WX) : List Expr → List ME → Prop
  | nil : PTs2 X P Φ W [] []
  | cons {e : Expr} {m : ME} {es : List Expr} {ms : List ME} (h : PT X e (rdT P Φ X.K W m)) (r : PTs2 X P Φ W es ms) : PTs2 X P Φ W (e :: es) (m :: ms)
theorem PEs.len {es : List Expr} {ms : List ME} (h : PEs X P Φ W es ms) : es.length = ms.length := by
  induction h with
  | nil => rfl
  | cons _ _ ih => rw [List.length_cons, List.length_cons,
                                                           ih]
theorem snd_and {pos : Pos} : ∀ {es : List Expr} {ms : List ME}, PEs X P Φ W es ms → es ≠ [] → PE X (.BoolOp .And es pos) (rdE P Φ X.K W (.and ms))
  | _, _, .nil, h => absurd rfl h
  | _, _, .cons h .nil, _ => (pe_one h).imp fun σ H Q q => q
  | _, _, .cons h (.cons h2 hr), _ => by
    refine (pe_and h (snd_and (.cons h2 hr) (by simp))).imp fun σ H Q ⟨w, env, st, hE, hS, q⟩ => ?_
    refine rdE_seq hE hS q fun w1 v x st1 H1 l1 hE1 hS1 rv h1 => ?_
    cases v with
    | bl b =>
      cases (show x = .bl b from rv)
      refine ⟨b, rfl, ?_⟩
      cases b with
      | true => exact ⟨w1, env, st1, hE1, hS1, h1⟩
      | false => exact h1 w1 H1 (Le.refl _) hS1 _ rfl
    | _ => exact h1.elim
theorem snd_or {pos : Pos} : ∀ {es : List Expr} {ms : List ME}, PEs X P Φ W es ms → es ≠ [] → PE X (.BoolOp .Or es pos) (rdE P Φ X.K W (.or ms))
  | _, _, .nil, h => absurd rfl h
  | _, _, .cons h .nil, _ => (pe_one h).imp fun σ H Q q => q
  | _, _, .cons h (.cons h2 hr), _ => by
    refine (pe_or h (snd_or (.cons h2 hr) (by simp))).imp fun σ H Q ⟨w, env, st, hE, hS, q⟩ => ?_
    refine rdE_seq hE hS q fun w1 v x st1 H1 l1 hE1 hS1 rv h1 => ?_
    cases v with
    | bl b =>
      cases (show x = .bl b from rv)
      refine ⟨b, rfl, ?_⟩
      cases b with
      | false => exact ⟨w1, env, st1, hE1, hS1, h1⟩
      | true => exact h1 w1 H1 (Le.refl _) hS1 _ rfl
    | _ => exact h1.elim
def rdTw (P : Prog) (Φ : Cal) (K : PySem.W.Frag) (W : WX) (f : Env → Store → R Bool) : TT := fun σ H Q => rd K W f σ H fun _ b H' => Q b H'
theorem pw_imp {e : Expr} {t t' : TT} (h : PW X e t) (i : ∀ σ H Q, t' σ H Q → t σ H Q) : PW X e t' := ⟨fun wh pins s σ H Q I q => h.run wh pins s σ H Q I (i σ H Q q)⟩
theorem snd_andT {pos : Pos} : ∀ {es : List Expr} {ms : List ME}, PTs2 X P Φ W es ms → es ≠ [] → PW X (.BoolOp .And es pos) (rdT P Φ X.K W (.and ms))
  | _, _, .nil, h => absurd rfl h
  | _, _, .cons h .nil, _ => pw_imp (pw_and1 h) fun σ H Q q => q
  | _, _, .cons h (.cons h2 hr), _ => by
    refine pw_imp (pw_and h (snd_andT (.cons h2 hr) (by simp))) fun σ H Q ⟨w, env, st, hE, hS, q⟩ => ?_
    refine rdT_seq hE hS q fun w1 b st1 H1 l1 hE1 hS1 h1 => ?_
    cases b with
    | true => exact ⟨w1, env, st1, hE1, hS1, h1⟩
    | false => exact h1 w1 H1 (Le.refl _) hS1
theorem snd_orT {pos : Pos} : ∀ {es : List Expr} {ms : List ME}, PTs2 X P Φ W es ms → es ≠ [] → PW X (.BoolOp .Or es pos) (rdT P Φ X.K W (.or ms))
  | _, _, .nil, h => absurd rfl h
  | _, _, .cons h .nil, _ => pw_imp (pw_or1 h) fun σ H Q q => q
  | _, _, .cons h (.cons h2 hr), _ => by
    refine pw_imp (pw_or h (snd_orT (.cons h2 hr) (by simp))) fun σ H Q ⟨w, env, st, hE, hS, q⟩ => ?_
    refine rdT_seq hE hS q fun w1 b st1 H1 l1 hE1 hS1 h1 => ?_
    cases b with
    | false => exact ⟨w1, env, st1, hE1, hS1, h1⟩
    | true => exact h1 w1 H1 (Le.refl _) hS1
/-! ### a test that is a value's truth -/
theorem snd_truth {a : Expr} {ma : ME} (he : ∀ whole, isTrue a X.env whole = (do let v ← whole; standAt a.pos; holding [v] (truthy v))) (ha : PE X a (rdE P Φ X.K W ma))
    (hm : ∀ env st, evalT P Φ ma env st = (evalE P Φ ma env st).then_ fun v st => R.of (truV st v) st) : PT X a (rdT P Φ X.K W ma) := by
  refine ⟨fun pins s σ H Q I ⟨w, env, st, hE, hS, h⟩ => ?_⟩
  rw [hm] at h
  refine isTrue_plain (thn (ha.run pins s σ H _ I (rdE_seq (Q := fun x H' => rTru X.K x H' Q) hE hS h fun w1 v x st1 H1 l1 hE1 hS1 rv h1 => ?_)) fun v s1 ⟨x, H1, I1, r1, q1⟩ => tru_ok2 pins s1 σ H1 x v Q I1 r1 q1) (he _)
  obtain ⟨b, e, q⟩ := h1.of
  exact ⟨w1, st1, v, hS1, rv, b, e, q⟩
/-! ### f-strings -/
theorem fmtL_cons (m : ME) (ms : List ME) (acc : Str) (env : Env) (st : Store) : fmtL P Φ (m :: ms) acc env st = (evalE P Φ m env st).then_ fun v st => match fmt v with
    | some (.str y) => if (acc ++ y).length ≤ sizeLine then fmtL P Φ ms (acc ++ y) env st else .stuck
    | _ => .stuck := rfl
inductive PFs (X : Cx) (P : Prog) (Φ : Cal) (W : WX) : List Expr → List ME → Prop
  | nil : PFs X P Φ W [] []
  | val {e : Expr} {m : ME} {pos : Pos} {es : List Expr} {ms : List ME} (h : PE X e (rdE P Φ X.K W m)) (r : PFs X P Φ W es ms) : PFs X P Φ W (.FormattedValue e (-1) none pos :: es) (m :: ms)
  | txt {e : Expr} {x : Str} {es : List Expr} {ms : List ME} (h : PE X e (rdE P Φ X.K W (.str x))) (r : PFs X P Φ W es ms) : PFs X P Φ W (e :: es) (.str x :: ms)
theorem fmt_cases {v y : Val} (h : fmt v = some y) : (∃ x, v = .str x ∧ y = .str x) ∨ ∃ i, v = .int i ∧ smallI i = true ∧ y = .str (toString i) := by
  cases v with
  | str x => cases h; exact .inl ⟨x, rfl, rfl⟩
  | int i =>
    unfold fmt at h
    simp only at h
    split at h
    · rename_i hs
      cases h
      exact .inr ⟨i, rfl, hs, rfl⟩
    · cases h
  | _ => cases h
theorem snd_js {es : List Expr} {ms : List ME} (h : PFs X P Φ W es ms) : ∃ ts, PJ X es ts ∧ ∀ (σ : L2.St) (H : Hp) (acc : Str) (Q : VK) (w : Wd) (env : Env) (st : Store), sOk acc → RE X.K w env σ → RS X.K w st H →
    Post X.K w (fmtL P Φ ms acc env st) (AV X.K Q) (fun c d H' => W c d σ H') → tJs ts acc σ H fun out H1 => Q (.str out) H1 := by
  induction h with
  | nil => exact ⟨[], .nil, fun σ H acc Q w env st ha hE hS q => q w H (Le.refl _) hS _ ⟨rfl, ha⟩⟩
  | @val e m pos es ms he hr ih =>
    obtain ⟨ts, hj, hk⟩ := ih
    refine ⟨_ :: ts, .cons (pe_fmt he) hj, fun σ H acc Q w env st ha hE hS q => ?_⟩
    rw [fmtL_cons] at q
    refine rdE_seq hE hS q fun w1 v x st1 H1 l1 hE1 hS1 rv h1 => ?_
    split at h1
    · rename_i y hy
      split at h1
      · rename_i hz
        rcases fmt_cases hy with ⟨x', rfl, e2⟩ | ⟨i, rfl, hs, e2⟩
        · cases e2
          obtain ⟨rfl, sy⟩ := rv
          have sa : sOk (acc ++ y) := sOk_append ha sy (by rw [← length_append]; exact hz)
          exact .inl ⟨y, rfl, sy.1, y, rfl, hz, hk σ H1 _ Q w1 env st1 sa hE1 hS1 h1⟩
        · cases e2
          cases (show x = .int i from rv)
          have hs' := of_decide_eq_true hs
          have sa : sOk (acc ++ (toString i : String)) := sOk_append ha (sOk_int hs') (by rw [← length_append]; exact hz)
          exact .inr ⟨i, rfl, hs', _, rfl, hz, hk σ H1 _ Q w1 env st1 sa hE1 hS1 h1⟩
      · exact h1.elim
    · exact h1.elim
  | @txt e x es ms he hr ih =>
    obtain ⟨ts, hj, hk⟩ := ih
    refine ⟨_ :: ts, .cons he hj, fun σ H acc Q w env st ha hE hS q => ?_⟩
    rw [fmtL_cons] at q
    replace q : Post X.K w (if (acc ++ x).length ≤ sizeLine then fmtL P Φ ms (acc ++ x) env st else .stuck) (AV X.K Q) (fun c d H' => W c d σ H') := q
    split at q
    · rename_i hz
      refine ⟨w, env, st, hE, hS, fun w1 H1 l1 hS1 x' r => ?_⟩
      obtain ⟨rfl, sx⟩ := r
      exact ⟨x, rfl, hz, hk σ H1 _ Q w1 env st (sOk_append ha sx (by rw [← length_append]; exact hz)) (hE.mono l1) hS1 (Post.mono l1 q)⟩
    · exact q.elim
theorem sOk_empty : sOk Str.empty := ⟨Nat.zero_le _, by simp [PyData.strOk, Str.empty]⟩
theorem snd_fstr {v1 v2 : Expr} {rest : List Expr} {ms : List ME} {pos : Pos} (h : PFs X P Φ W (v1 :: v2 :: rest) ms) : PE X (.JoinedStr (v1 :: v2 :: rest) pos) (rdE P Φ X.K W (.fstr ms)) := by
  obtain ⟨ts, hj, hk⟩ := snd_js h
  exact (pe_joined hj).imp fun σ H Q ⟨w, env, st, hE, hS, q⟩ => hk σ H _ Q w env st sOk_empty hE hS q
/-! ### built-in functions, methods of built-in types -/
theorem snd_bcall (O : OkX P Φ fa k N sc W X) {f : String} {x : Str} {p pos : Pos} {e : Expr} {es : List Expr} {ms : List ME} (hx : x = Str.ofString f) (hf : f ∈ biNames) (hb : bootBuiltins x = some (bval f)) (hg : isGl sc x = true) (hn : nmOk x = true)
    (ns : NoStar (e :: es)) (ns2 : NoStar es) (ha : PA X (e :: es) (rdA P Φ X.K W ms)) : PE X (.Call (.Name x p) (e :: es) [] pos) (rdE P Φ X.K W (.bcall f ms)) := by
  obtain ⟨d1, _, d3, _⟩ := nmOk_d hn
  have hm : X.mg x = none := by rw [hx]; exact O.lk.bi f hf
  have hbc := bc_ok (X := X) f O.calm
  have he : starEach (e :: es) X.env = (false, eval e X.env) :: starEach es X.env := ns.cons ns2 _
  have hp : (backTo pos (starEach es X.env)).any (·.1) = false := ns2.any _ _
  have main : PE X (.Call (.Name x p) (e :: es) [] pos) (tCB (rBc X.K f) (rdA P Φ X.K W ms)) := by
    unfold bval at hb hbc
    split at hb
    · rename_i hc
      rw [if_pos hc] at hbc
      exact pe_callTy hbc (gl_ok O hg) hm hb ha d3 d1 he hp
    · rename_i hc
      rw [if_neg hc] at hbc
      exact pe_callB hbc (gl_ok O hg) hm hb ha d3 d1 he hp
  refine main.imp fun σ H Q ⟨w, env, st, hE, hS, h⟩ => ?_
  refine rdA_seq hE hS h fun w1 v xs st1 H1 l1 hE1 hS1 rv h1 => ?_
  obtain ⟨z, e', q⟩ := Post.of (o := bV st1 f v) h1
  exact ⟨w1, st1, v, hS1, rv, z, e', q⟩
end
end Mp
end

section
set_option Elab.async false
set_option linter.all false
set_option maxRecDepth 100000
set_option maxHeartbeats
                         1000000
namespace Mp
open PySem L2 PySem.Spec PyProof.Rows

section
variable {P : Prog} {Φ : Cal} {fa : Str → Addr} {k : Nat} {N : List Str} {sc : Sco} {W : WX} {X : Cx}
/-! ### methods of built-in types -/
def rBm (K : PySem.W.Frag) (f : String) : V → List V → Hp → VK → Prop := fun x xs H Q => ∃ w st a vs, RS K w st H ∧ RV K w a x ∧ RVs K w vs xs ∧ ∃ v st', bmV st f a vs = some (v, st') ∧ ∀ w' H', Le w w' → RS K w' st' H' → ∀ y, RV K w' v y → Q y H'
theorem at_lst {K : PySem.W.Frag} {w : Wd} {st : Store} {H : Hp} {i : Nat} {xs : List Val} {x : V} (hS : RS K w st H) (r : RV K w (.ref i) x) (e : st[i]? = some (.lst xs)) : ∃ p ys, x = .ref p ∧ w.e[i]? = some p ∧ H p = some (.lst ys) ∧ xs.length ≤ sizeLine ∧ RVs K w xs ys := by
  obtain ⟨p, rfl, e1⟩ := r
  obtain ⟨ys, h1, h2, h3⟩ := hS.obj i p _ e1 e
  exact ⟨p, ys, rfl, e1, h1, h2, h3⟩
theorem mt_ok_append : MtR X "list.append" (rBm X.K "append") := by
  intro pins s σ H x xs v us Q I rx rs ⟨w, st, a, vs, hS, ra, rv, u, st', e, q⟩
  replace e : appendV st a vs = some (u, st') := by simpa [bmV] using e
  unfold appendV at e
  split at e
  · rename_i i y _
    split at e
    · rename_i zs ez
      split at e
      · rename_i hz
        cases e
        obtain ⟨p, ys, rfl, e1, h1, h2, h3⟩ := at_lst hS ra ez
        obtain ⟨y', rfl, ry⟩ := one_rel rv
        refine mt_append pins s σ H _ _ v us Q I rx rs ⟨p, ys, y', rfl, rfl, h1, by rw [← h3.length]; exact hz, ?_⟩
        exact q w _ (Le.refl _) (hS.set e1 ⟨_, upd_same, by rw [List.length_append, List.length_singleton]; exact hz, h3.append (.cons ry .nil)⟩) _ rfl
      · cases e
    · cases e
  · cases e
theorem mt_ok_extend : MtR X "list.extend" (rBm X.K "extend") := by
  intro pins s σ H x xs v us Q I rx rs ⟨w, st, a, vs, hS, ra, rv, u, st', e, q⟩
  replace e : extendV st a vs = some (u, st') := by simpa [bmV] using e
  unfold extendV at e
  split at e
  · rename_i i y _
    split at e
    · rename_i zs ws ez ew
      split at e
      · rename_i hz
        cases e
        obtain ⟨p, ys, rfl, e1, h1, h2, h3⟩ := at_lst hS ra ez
        obtain ⟨y', rfl, ry⟩ := one_rel rv
        obtain ⟨p2, y2, rfl, g1, g2, g3⟩ := lstOf_rel hS ry ew
        refine mt_extend pins s σ H _ _ v us Q I rx rs ⟨p, p2, ys, y2, rfl, rfl, h1, g1, by rw [← h3.length, ← g3.length]; exact hz, ?_⟩
        exact q w _ (Le.refl _) (hS.set e1 ⟨_, upd_same, by rw [List.length_append]; exact hz, h3.append g3⟩) _ rfl
      · cases e
    · cases e
  · cases e
theorem mt_ok_clear : MtR X "list.clear" (rBm X.K "clear") := by
  intro pins s σ H x xs v us Q I rx rs ⟨w, st, a, vs, hS, ra, rv, u, st', e, q⟩
  replace e : clearV st a vs = some (u, st') := by simpa [bmV] using e
  unfold clearV at e
  split at e
  · rename_i i _
    split at e
    · rename_i zs ez
      cases e
      obtain ⟨p, ys, rfl, e1, h1, h2, h3⟩ := at_lst hS ra ez
      cases (show xs = [] from rv)
      exact mt_clear pins s σ H _ _ v us Q I rx rs ⟨p, ys, rfl, rfl, h1, q w _ (Le.refl _) (hS.set e1 ⟨_, upd_same, Nat.zero_le _, .nil⟩) _ rfl⟩
    · cases e
  · cases e
theorem sOk_join {x : Str} {ys : List Str} (hx : sOk x) (hy : ∀ y ∈ ys, sOk y) (hz : (ys.map (·.length)).sum + ys.length * x.length ≤ 16777216) : sOk (Str.join x ys) := by
  have hb : ∀ (zs : List Str), (∀ y ∈ zs, sOk y) → (Str.join x zs).length ≤ (zs.map (·.length)).sum + zs.length * x.length ∧ PyData.strOk (Str.join x zs) = true := by
    intro zs
    induction zs with
    | nil => exact fun _ => ⟨Nat.zero_le _, sOk_empty.2⟩
    | cons a r ih =>
      intro h
      cases r with
      | nil => exact ⟨by simp [Str.join], (h a (by simp)).2⟩
      | cons b r =>
        obtain ⟨i1, i2⟩ := ih fun y hy => h y (List.mem_cons_of_mem _ hy)
        have ha := h a (by simp)
        have e : Str.join x (a :: b :: r) = a ++ x ++ Str.join x (b :: r) := rfl
        rw [e]
        refine ⟨?_, ?_⟩
        · rw [length_append, length_append]
          simp only [List.map_cons, List.sum_cons, List.length_cons, Nat.add_mul, Nat.one_mul] at i1 ⊢
          omega
        · have h1 := ha.2
          have h2 := hx.2
          have h3 := i2
          unfold PyData.strOk at *
          show (a.cps ++ x.cps ++ (Str.join x (b :: r)).cps).all _ = true
          rw [Array.all_append, Array.all_append, h1, h2, h3]; rfl
  obtain ⟨h1, h2⟩ := hb ys hy
  exact ⟨Nat.le_trans h1 (Nat.le_trans hz (by rw [sizeLine_eq]; omega)), h2⟩
theorem mt_ok_join : MtR X "str.join" (rBm X.K "join") := by
  intro pins s σ H x xs v us Q I rx rs ⟨w, st, a, vs, hS, ra, rv, u, st', e, q⟩
  replace e : joinV st a vs = some (u, st') := by simpa [bmV] using e
  unfold joinV at e
  split at e
  · rename_i z y
    split at e
    · rename_i ys ez
      split at e
      · rename_i hz
        cases e
        obtain ⟨rfl, sz⟩ := ra
        obtain ⟨y', rfl, ry⟩ := one_rel rv
        simp only [Option.bind_eq_some_iff] at ez
        obtain ⟨zs, e1, e2⟩ := ez
        obtain ⟨p, xs', rfl, g1, g2, g3⟩ := lstOf_rel hS ry e1
        obtain ⟨rfl, hy⟩ := strs_rel g3 e2
        exact mt_join pins s σ H _ _ v us Q I rx rs ⟨z, p, ys, rfl, rfl, .inl (SqL.of g1), hz, q w H (Le.refl _) hS _ ⟨by rw [TL.join_eq], sOk_join sz hy hz⟩⟩
      · cases e
    · cases e
  · cases e
theorem tyV_of {w : Wd} {st : Store} {H : Hp} {f : String} {a : Val} {x : V} (hS : RS X.K w st H) (ra : RV X.K w a x) (h : bmTy st f a = true) : (f = "join" ∧ tyV X.K "str" x H) ∨ (f ≠ "join" ∧ tyV X.K "list" x H) := by
  by_cases hs : ∃ z, a = .str z
  · obtain ⟨z, rfl⟩ := hs
    obtain ⟨rfl, _⟩ := ra
    exact .inl ⟨of_decide_eq_true h, rfl⟩
  · have e : ((decide (f = "append") || decide (f = "extend") || decide (f = "clear")) && (lstOf st a).isSome) = true := by
      cases a <;> first | exact absurd ⟨_, rfl⟩ hs | exact h
    simp only [Bool.and_eq_true, Bool.or_eq_true, decide_eq_true_eq] at e
    obtain ⟨e1, e2⟩ := e
    obtain ⟨xs, e3⟩ := Option.isSome_iff_exists.mp e2
    obtain ⟨p, ys, rfl, h1, h2, h3⟩ := lstOf_rel hS ra e3
    exact .inr ⟨by rcases e1 with (rfl | rfl) | rfl <;> decide, .inl ⟨rfl, ys, SqL.of h1⟩⟩
theorem snd_bm {T id f : String} {name : Str} (pa : PlainAttrs T) (slot : Slot T name id) (hty : typeOf (.builtin id) = pure (.type "method_descriptor")) (hm : MtR X id (rBm X.K f))
    (hT : (f = "join" ∧ T = "str") ∨ (f ≠ "join" ∧ T = "list")) {o : Expr} {mo : ME} {apos cpos : Pos} {es : List Expr} {ms : List ME} (hl : (apos.endLine == cpos.line) = true) (hz : es.length < 30) (hb : attributeBase o name X.env (eval o X.env) = eval o X.env)
    (ns : NoStar es) (ns2 : ∀ e es', es = e :: es' → NoStar es') (hnil : es = [] → ms = []) (ho : PE X o (rdE P Φ X.K W mo)) (ha : PA X es (rdA P Φ X.K W ms)) : PE X (.Call (.Attribute o name apos) es [] cpos) (rdE P Φ X.K W (.bmeth f mo ms)) := by
  have read : ∀ σ H Q, rdE P Φ X.K W (.bmeth f mo ms) σ H Q → tBM X.K T (rBm X.K f) (rdE P Φ X.K W mo) (rdA P Φ X.K W ms) σ H Q := by
    intro σ H Q ⟨w, env, st, hE, hS, h⟩
    refine rdE_seq hE hS h fun w1 v x st1 H1 l1 hE1 hS1 rv h1 => ?_
    cases e : bmTy st1 f v with
    | false => rw [e] at h1; exact h1.elim
    | true =>
      rw [e] at h1
      refine ⟨?_, ?_⟩
      · rcases tyV_of hS1 rv e with ⟨e1, e2⟩ | ⟨e1, e2⟩
        · rcases hT with ⟨_, rfl⟩ | ⟨n, _⟩
          · exact e2
          · exact absurd e1 n
        · rcases hT with ⟨n, _⟩ | ⟨_, rfl⟩
          · exact absurd n e1
          · exact e2
      · refine rdA_seq hE1 hS1 h1 fun w2 vs xs st2 H2 l2 hE2 hS2 rvs h2 => ?_
        refine ⟨w2, st2, v, vs, hS2, RV.mono l2 v rv, rvs, ?_⟩
        cases e3 : bmV st2 f v vs with
        | none => rw [e3] at h2; exact h2.elim
        | some z =>
          obtain ⟨u, st3⟩ := z
          rw [e3] at h2
          exact ⟨u, st3, rfl, fun w' H' l s y r => h2 w' H' l s y r⟩
  cases es with
  | nil =>
    refine (pe_bm0 pa slot hty hm ho hb hl).imp fun σ H Q q => ?_
    have q1 := read σ H Q q
    obtain ⟨w, env, st, hE, hS, q2⟩ := q1
    refine ⟨w, env, st, hE, hS, q2.imp fun w' a st' H' l s r x rx => ?_⟩
    obtain ⟨r1, r2⟩ := r x rx
    exact ⟨r1, rdA_nil (hnil rfl) _ _ _ r2⟩
  | cons e es =>
    refine (pe_bm pa slot hty hm ho ha hb ?_ hl (ns.cons (ns2 e es rfl) _) ((ns2 e es rfl).any _ _)).imp read
    rw [ns.all]
    simp [backToKw, keywordEach]
    simp at hz
    omega
end
end Mp
end

section
set_option Elab.async false
set_option linter.all false
set_option maxRecDepth 100000
set_option maxHeartbeats
                         1000000
namespace Mp
open PySem L2 PySem.Spec PyProof.Rows

section
variable {P : Prog} {Φ : Cal} {fa : Str → Addr} {k : Nat} {N : List Str} {sc : Sco} {W : WX} {X : Cx}
/-! ### isinstance -/
def clsV (K : PySem.W.Frag) (t : Str) : V := match bty t with
  | some s => .ty s
  | none => .ref (cA K t)
theorem clsV_ok (K : PySem.W.Frag) (t : Str) : ClsV (clsV K t) (tyVal K t) := by
  unfold clsV tyVal
  cases bty t with
  | some s => exact .ty s
  | none => exact .own _
/-- a class's name in the text -/
def clsOk (P : Prog) (sc : Sco) (t : Str) : Bool := isGl sc t && nmOk t && (P.isc t || match bty t with
  | some s => decide (t = Str.ofString s) && decide (s ∈ biNames) && (bootBuiltins t == some (.type s))
  | none => false)
theorem pe_cls (O : OkX P Φ fa k N sc W X) {t : Str} {p : Pos} (h : clsOk P sc t = true) : PE X (.Name t p) (tC (clsV X.K t)) := by
  unfold clsOk at h
  simp only [Bool.and_eq_true, Bool.or_eq_true] at h
  obtain ⟨⟨h1, h2⟩, h3⟩ := h
  obtain ⟨d1, _, d3, _⟩ := nmOk_d h2
  by_cases hc : P.isc t = true
  · obtain ⟨g1, g2, g3⟩ := O.lk.gc t hc
    have e : clsV X.K t = .ref (cA X.K t) := by unfold clsV; rw [g3]
    rw [e]
    exact pe_glob (gl_ok O h1) g1 rfl d1
  · rcases h3 with h3 | h3
    · exact absurd h3 hc
    · cases e : bty t with
      | none => rw [e] at h3; cases h3
      | some s =>
        rw [e] at h3
        simp only [Bool.and_eq_true, decide_eq_true_eq] at
                                                           h3
        obtain ⟨⟨h4, h5⟩, h6⟩ := h3
        have e2 : clsV X.K t = .ty s := by unfold clsV; rw [e]
        rw [e2]
        exact pe_bltn (gl_ok O h1) (by rw [h4]; exact O.lk.bi s h5) (eq_of_beq h6) rfl d3 d1
theorem ty_rel (O : OkX P Φ fa k N sc W X) {w : Wd} {st : Store} {H : Hp} {v : Val} {x : V} {n : Str} (hS : RS X.K w st H) (rv : RV X.K w v x) (hn : tyN st v = some n) (hi : ((insOf st v).isSome && !P.isc n) = false) : TyX X.K H x (tyVal X.K n) := by
  have ins : ∀ {z : Str × List Str × List Val}, lstOf st v = none → insOf st v = some z → n = z.1 → TyX X.K H x (tyVal X.K n) := by
    intro z hl hz e
    obtain ⟨c, ns, vs⟩ := z
    subst e
    rw [hz] at hi
    have hc : P.isc n = true := by simpa using hi
    obtain ⟨p, dx, fs, rfl, hp, _, _⟩ := insOf_rel hS rv hz
    obtain ⟨g1, g2, g3⟩ := O.lk.gc n hc
    have T := O.lk.ty n hc
    have e : tyVal X.K n = .ref (cA X.K n) := by unfold tyVal; rw [g3]
    rw [e]
    exact .base (.ins hp (O.lk.cl n hc) T.ha T.hn T.htk T.hm)
  have lst : ∀ {us : List Val}, lstOf st v = some us → n = "list" → TyX X.K H x (tyVal X.K n) := by
    intro us h1 h2
    obtain ⟨p, xs, rfl, hp, hz, rr⟩ := lstOf_rel hS rv h1
    subst h2
    exact .base (.lst hp)
  have rest : (match lstOf st v with | some _ => some ("list" : Str) | none => (insOf st v).map (·.1)) = some n → TyX X.K H x (tyVal X.K n) := by
    intro h
    cases e : lstOf st v with
    | some us =>
      rw [e] at h
      simp only [Option.some.injEq] at
                                       h
      exact lst e h.symm
    | none =>
      rw [e] at h
      simp only [Option.map_eq_some_iff] at
                                            h
      obtain ⟨z, h1, h2⟩ := h
      exact ins e h1 h2.symm
  cases v with
  | non => cases (show x = .non from rv); cases hn; exact .base .non
  | bl b => cases (show x = .bl b from rv); cases hn; exact .base (.bl b)
  | int i => cases (show x = .int i from rv); cases hn; exact .base (.int i)
  | str z => obtain ⟨rfl, _⟩ := rv; cases hn; exact .base (.str z)
  | tup us =>
    obtain ⟨p, xs, rfl, hp, hz, rr⟩ := rv
    cases hn
    show TyX X.K H (.ref p) (.type "tuple")
    rcases SqT.mono hS.sub hp with h | ⟨o, its, n, h1, h2, _⟩
    · rcases h with h | ⟨o, h⟩
      · exact .base (.tup h)
      · exact .fTuple h
    · exact .kTuple h1 h2
  | _ => exact rest hn
theorem isTs_any {K : PySem.W.Frag} (hk : ∀ n t b, P.sub n t = some b → PySem.W.kitOne K (tyVal K n) (tyVal K t) = some b) {st : Store} {v : Val} {n : Str} (hn : tyN st v = some n) (hi : ((insOf st v).isSome && !P.isc n) = false) : ∀ {ts : List Str} {b : Bool}, isTs P st v ts = some b → PySem.W.kitAny K (tyVal K n) (ts.map (tyVal K)) = some b
  | [], b, h => h
  | t :: ts, b, h => by
    have e1 : isT P st v t = P.sub n t := by
      unfold isT
      rw [hn]
      show (if ((insOf st v).isSome && !P.isc n) = true then none else P.sub n t) = _
      rw [hi]; rfl
    unfold isTs at h
    rw [e1] at h
    unfold PySem.W.kitAny
    show (match PySem.W.kitOne K (tyVal K n) (tyVal K t) with | some true => some true | some false => PySem.W.kitAny K (tyVal K n) (ts.map (tyVal K)) | none => none) = _
    cases e : P.sub n t with
    | none => rw [e] at h; cases
                                 h
    | some c =>
      rw [e] at h
      rw [hk n t c e]
      cases c with
      | true => exact h
      | false => exact isTs_any hk hn hi h
theorem isTs_ty {st : Store} {v : Val} {t : Str} {ts : List Str} {b : Bool} (h : isTs P st v (t :: ts) = some b) : ∃ n, tyN st v = some n ∧ ((insOf st v).isSome && !P.isc n) = false := by
  unfold isTs isT at h
  cases e : tyN st v with
  | none => rw [e] at h; cases
                               h
  | some n =>
    rw [e] at h
    refine ⟨n, rfl, ?_⟩
    cases e2 : ((insOf st v).isSome && !P.isc n) with
    | false => rfl
    | true =>
      rw [Option.bind_some, e2] at h
      cases h
theorem snd_isin1 (O : OkX P Φ fa k N sc W X) {a : Expr} {ma : ME} {t x : Str} {p p1 pos : Pos} (hx : x = "isinstance") (hg : isGl sc x = true) (hc : clsOk P sc t = true) (ns : NoStar [a, .Name t p1]) (ns2 : NoStar [.Name t p1]) (ha : PE X a (rdE P Φ X.K W ma)) :
    PE X (.Call (.Name x p) [a, .Name t p1] [] pos) (rdE P Φ X.K W (.isin ma [t])) := by
  have hm : X.mg x = none := by rw [hx]; exact O.lk.bi "isinstance" (by decide)
  have hp := pa_cons ha (pa_cons (pe_cls (p := p1) O hc) pa_nil (NoStar.cons ns2 (fun _ => rfl) X.env)) (ns.cons ns2 X.env)
  refine (pe_callB call_isi (gl_ok O hg) hm (by rw [hx]; decide +kernel) hp (by rw [hx]; decide) (by rw [hx]; decide) (ns.cons ns2 X.env) (ns2.any _ _)).imp fun σ H Q ⟨w, env, st, hE, hS, h⟩ => ?_
  refine rdE_seq hE hS h fun w1 v x1 st1 H1 l1 hE1 hS1 rv h1 => ?_
  obtain ⟨z, e, q⟩ := h1.of
  obtain ⟨b, e2, rfl⟩ := Option.map_eq_some_iff.mp e
  obtain ⟨n, hn, hi⟩ := isTs_ty e2
  have hk := isTs_any O.lk.isa hn hi e2
  refine ⟨x1, _, _, tyVal X.K t, b, rfl, clsV_ok X.K t, ty_rel O hS1 rv hn hi, ?_, q w1 H1 (Le.refl _) hS1 _ rfl⟩
  unfold PySem.W.kitAny at hk
  simp only [List.map_cons, List.map_nil] at hk
  cases e3 : PySem.W.kitOne X.K (tyVal X.K n) (tyVal X.K t) with
  | none => rw [e3] at hk; cases hk
  | some c =>
    rw [e3] at hk
    cases c with
    | true => exact hk
    | false => exact hk
inductive ClsL (P : Prog) (sc : Sco) : List Expr → List Str → Prop
  | nil : ClsL P sc [] []
  | cons {t : Str} {p : Pos} {es : List Expr} {ts : List Str} (h : clsOk P sc t = true) (ns : NoStar (.Name t p :: es)) (ns2 : NoStar es) (r : ClsL P sc es ts) : ClsL P sc (.Name t p :: es) (t :: ts)
theorem pa_cls (O : OkX P Φ fa k N sc W X) {es : List Expr} {ts : List Str} (h : ClsL P sc es ts) : PA X es fun _ H Q => Q (ts.map (clsV X.K)) H := by
  induction h with
  | nil => exact pa_nil
  | cons h ns ns2 r ih => exact (pa_cons (pe_cls O h) ih (ns.cons ns2 _)).imp fun σ H Q q => q
theorem snd_isinT (O : OkX P Φ fa k N sc W X) {a : Expr} {ma : ME} {es : List Expr} {t : Str} {ts : List Str} {x : Str} {n1 : Nat} {p p1 pos : Pos} (hx : x = "isinstance") (hg : isGl sc x = true) (hc : ClsL P sc es (t :: ts)) (ns : NoStar [a, .Tuple es n1 p1]) (ns2 : NoStar [.Tuple es n1 p1]) (hl : ts.length < 1000) (ha : PE X a (rdE P Φ X.K W ma)) :
    PE X (.Call (.Name x p) [a, .Tuple es n1 p1] [] pos) (rdE P Φ X.K W (.isin ma (t :: ts))) := by
  have hm : X.mg x = none := by rw [hx]; exact O.lk.bi "isinstance" (by decide)
  have hp := pa_cons ha (pa_cons (pe_tup (pos := p1) (pa_cls O hc)) pa_nil (NoStar.cons ns2 (fun _ => rfl) X.env)) (ns.cons ns2 X.env)
  refine (pe_callB call_isiT (gl_ok O hg) hm (by rw [hx]; decide +kernel) hp (by rw [hx]; decide) (by rw [hx]; decide) (ns.cons ns2 X.env) (ns2.any _ _)).imp fun σ H Q ⟨w, env, st, hE, hS, h⟩ => ?_
  refine rdE_seq hE hS h fun w1 v x1 st1 H1 l1 hE1 hS1 rv h1 => ?_
  obtain ⟨z, e, q⟩ := h1.of
  obtain ⟨b, e2, rfl⟩ := Option.map_eq_some_iff.mp e
  obtain ⟨n, hn, hi⟩ := isTs_ty e2
  have hk := isTs_any O.lk.isa hn hi e2
  refine ⟨by rw [List.length_map, List.length_cons, sizeLine_eq]; omega, fun p hp => ?_⟩
  have le := RS.freeze_le (o := HO.tup ((t :: ts).map (clsV X.K))) hS1 hp
  have hS2 := RS.freeze (o := HO.tup ((t :: ts).map (clsV X.K))) hS1 hp
  refine ⟨x1, p, _, tyVal X.K n, (t :: ts).map (tyVal X.K), b, rfl, upd_same, ?_, ty_rel O hS2 (RV.mono le v rv) hn hi, hk, q _ _ le hS2 _ rfl⟩
  generalize t :: ts = l
  induction l with
  | nil => exact .nil
  | cons a r ih => exact .cons (clsV_ok X.K a) ih
end
end Mp
end

section
set_option Elab.async false
set_option linter.all false
set_option maxRecDepth 100000
set_option maxHeartbeats
                         1000000
namespace Mp
open PySem L2 PySem.Spec PyProof.Rows

/-! ### special methods of own instances -/
section
variable {P : Prog} {Φ : Cal} {fa : Str → Addr} {k : Nat} {N : List Str} {sc : Sco} {W : WX} {X : Cx} {w : Wd} {st : Store} {H : Hp} {pins : List (Addr × Obj)} {σ : L2.St} {s : Shared} {Q : VK}
theorem noErr_post {K : PySem.W.Frag} {w : Wd} {r : R Val} {A : Wd → Val → Store → Hp → Prop} (h : Post K w (noErr r) A fun _ _ _ => False) : Post K w r A fun _ _ _ => False := by
  cases r with
  | ok v st => exact h
  | err _ _ _ _ => exact h.elim
  | stuck => exact h.elim
/-- a special method's run -/
def Ran (X : Cx) (pins : List (Addr × Obj)) (σ : L2.St) (kk : Val → Store → R Val) (Q : VK) (u : Value) (s' : Shared) : Prop := ∃ v y w' st' H', L2.Inv X pins σ H' s' ∧ RelV y u ∧ RV X.K w' v y ∧ RS X.K w' st' H' ∧ Post X.K w' (kk v st') (AV X.K Q) fun _ _ _ => False
theorem spec_run (O : OkX P Φ fa k N sc W X) {A : Around} {g : Str} {vs : List Val} {xs : List V} {us : List Value} {kk : Val → Store → R Val} {E : Value → Shared → Prop} (hr : Room k A) (h0 : Env0 X.prog X.w X.K X.mg X.base A X.stack s H) (I : L2.Inv X pins σ H s) (hS : RS X.K w st H) (rv : RVs X.K w vs xs) (r : Vals xs us)
    (h : Post X.K w ((specM P Φ g vs st).then_ kk) (AV X.K Q) fun _ _ _ => False) : wpAny (model X.prog X.w) A (PySem.call (.ref (fa g)) us) (Ran X pins σ kk Q) E s := by
  have h1 : Post X.K w (specM P Φ g vs st) (fun w' v st' H' => Post X.K w' (kk v st') (AV X.K Q) fun _ _ _ => False) fun _ _ _ => False := h.seq.imp fun w' v st' H' l s q => q
  unfold specM callM at h1
  cases e : P.bind g vs.length [] with
  | none => rw [e] at h1; exact h1.elim
  | some tp =>
    rw [e] at h1
    simp only at h1
    cases e2 : srcs vs [] tp with
    | none => rw [e2] at h1; exact h1.elim
    | some args =>
      rw [e2] at h1
      have h2 := noErr_post h1
      have h3 : Post X.K w (finish .pure st (Φ g args st)) (AV X.K fun y H' => ∃ w' v st', RV X.K w' v y ∧ RS X.K w' st' H' ∧ Post X.K w' (kk v st') (AV X.K Q) fun _ _ _ => False) fun _ _ _ => False :=
        h2.imp fun w' v st' H' l s q x rx => ⟨w', v, st', rx, s, q⟩
      have C := (O.lk.fn g _ [] tp e).1
      refine wpAny_call (codeAny_mono (C A X.stack s H us [] xs [] _ (fun _ _ _ => False) hr h0 r .nil ⟨w, st, vs, [], args, hS, rv, RVs.nil, rfl, rfl, e2, finish_ok hS h3⟩) fun r s' hq => ?_)
      cases r with
      | error er =>
        obtain ⟨_, _, _, _, _, _, _, _, _, _, _, _, z⟩ := hq
        exact z.elim
      | ok fl =>
        cases fl with
        | ret u =>
          obtain ⟨y, H', I3, ry, w', v, st', rv', s', q3⟩ := I.after hq
          exact ⟨v, y, w', st', H', I3, ry, rv', s', q3⟩
        | next => exact False.elim hq
        | brk => exact False.elim hq
        | cont => exact False.elim hq
/-- len(x), repr(x), x an own instance -/
def rOwn1 (P : Prog) (Φ : Cal) (K : PySem.W.Frag) (len : Bool) : List V → Hp → VK → Prop := fun xs H Q => ∃ w st v x, xs = [x] ∧ RS K w st H ∧ RV K w v x ∧ Post K w (own1M P Φ len v st) (AV K Q) fun _ _ _ => False
theorem own1_parts (O : OkX P Φ fa k N sc W X) {len : Bool} {v : Val} {x : V} (hS : RS X.K w st H) (rv : RV X.K w v x) (h : Post X.K w (own1M P Φ len v st) (AV X.K Q) fun _ _ _ => False) :
    ∃ c g p dx fs, x = .ref p ∧ H p = some (.ins (cA X.K c) dx fs) ∧ Meth X.K (cA X.K c) (name1 len) (fa g) ∧ Post X.K w ((specM P Φ g [v] st).then_ (back1 len)) (AV X.K Q) fun _ _ _ => False := by
  unfold own1M at h
  cases hi : insOf st v with
  | none => rw [hi] at h; exact h.elim
  | some z =>
    obtain ⟨c, ns, ws⟩ := z
    rw [hi] at h
    simp only at h
    split at h
    · rename_i hc
      cases hg : P.meth c (name1 len) with
      | none => rw [hg] at h; exact h.elim
      | some g =>
        rw [hg] at h
        obtain ⟨p, dx, fs, rfl, hp, _, _⟩ := insOf_rel hS rv hi
        exact ⟨c, g, p, dx, fs, rfl, hp, O.lk.me c (name1 len) g hg hc, h⟩
    · exact h.elim
theorem inst_of (I : L2.Inv X pins σ H s) {p dx : Addr} {fs : List (Str × V)} {C : Addr} (hp : H p = some (.ins C dx fs)) : ∃ ox od, PySem.W.InstAt s.heap p ox C od := by
  obtain ⟨mA, OO, _, _, _, _⟩ := ins_get I.hok hp
  obtain ⟨od, J, _⟩ := OO.look
  exact ⟨_, _, J⟩
theorem call_len1 (O : OkX P Φ fa k N sc W X) : CallR X (.builtin "len") (rOwn1 P Φ X.K true) := by
  intro pins s σ H xs us Q I r
                               h
  obtain ⟨w, st, v, x, rfl, hS, rv, h⟩ := h
  obtain ⟨c, g, p, dx, fs, rfl, hp, M, h1⟩ := own1_parts O hS rv h
  obtain ⟨u, rfl, ru⟩ := vals1
                               r
  obtain rfl : u = Value.ref p :=
                                  ru
  obtain ⟨ox, od, J⟩ := inst_of I hp
  refine Calls.call_function_entry kind_len plain_len entry_len (args_len1 _)
                                                                              ?_
  unfold Builtin.«len»
  refine wpAny_bind (m := PySem.oneArg "len" _) (wpAny_pure ?_)
  refine wpAny_bind (m := callSpecial? (.ref p) (Str.ofString "__len__")) (PySem.W.special_fn I.kIn J M.at_ (beq_iff_eq.mp M.fn) (wpAny_mono (spec_run O (O.room.mono (by omega)).in1 I.env0.in1 I hS (RVs.cons rv RVs.nil) (.cons rfl .nil) h1) (fun r s' hr => ?_) fun _ _ y => y))
  obtain ⟨v', y', w', st', H', I', ry, rv', hS', q⟩ := hr
  cases v' with
  | int n =>
    cases (show y' = .int n from rv')
    obtain ⟨t, rfl⟩ := (show ∃ t, r = Value.int n t from ry)
    replace q : Post X.K w' (if 0 ≤ n ∧ n < 9223372036854775808 then R.ok (Val.int n) st' else .stuck) (AV X.K Q) fun _ _ _ => False := q
    split at q
    · rename_i hn
      refine wpAny_bind (wpAny_holding (wpAny_pure
                                                   ?_))
      refine wpAny_bind (wpAny_letGo
                                     ?_)
      show wpAny _ _ (if n < 0 then _ else _) _ _
                                                  _
      rw [if_neg (by omega)]
      show wpAny _ _ (if n ≥ 2 ^ 63 then _ else _) _ _
                                                       _
      rw [if_neg (by omega)]
      exact wpAny_bind (wpAny_mkInt (wpAny_pure ⟨_, rfl, .int n, H', I'.tok _, ⟨_, rfl⟩, q w' H' (Le.refl _) hS' _ rfl⟩))
    · exact q.elim
  | _ => exact q.elim
theorem call_repr1 (O : OkX P Φ fa k N sc W X) : CallR X (.builtin "repr") (rOwn1 P Φ X.K false) := by
  intro pins s σ H xs us Q I r
                               h
  obtain ⟨w, st, v, x, rfl, hS, rv, h⟩ := h
  obtain ⟨c, g, p, dx, fs, rfl, hp, M, h1⟩ := own1_parts O hS rv h
  obtain ⟨u, rfl, ru⟩ := vals1
                               r
  obtain rfl : u = Value.ref p :=
                                  ru
  obtain ⟨ox, od, J⟩ := inst_of I hp
  have hu : X.A.in1.units < cLine := by
    have := (O.room.in1).un
    omega
  refine Calls.call_function_entry PySem.F.kind_repr PySem.F.plain_repr PySem.F.entry_repr (PySem.F.args_repr1 _)
                                                                                                                  ?_
  unfold Builtin.«repr»
  refine wpAny_bind (m := PySem.oneArg "repr" _) (wpAny_pure ?_)
  refine wpAny_bind (wpAny_cRoomFor hu
                                       ?_)
  refine wpAny_bind (wpAny_bind (J.type.here ((PySem.W.looks_findIn I.kIn M.at_).here ?_)))
  show wpAny _ _ (if (some (Value.ref (fa g))).isNone = true then _ else _) _ _ _
  rw [if_neg (by simp)]
  refine wpAny_bind (m := callSpecialIfBound? (.ref p) (Str.ofString "__repr__") _) (PySem.W.ifBound_K I.kIn J M.at_ M.fn (wpAny_mono (spec_run O (O.room.mono (by omega)).in1 I.env0.in1 I hS (RVs.cons rv RVs.nil) (.cons rfl .nil) h1) (fun r s' hr => ?_) fun _ _ y => y))
  obtain ⟨v', y', w', st', H', I', ry, rv', hS', q⟩ := hr
  cases v' with
  | str z =>
    obtain ⟨rfl, sz⟩ := rv'
    obtain ⟨t, rfl⟩ := (show ∃ t, r = Value.str z t from ry)
    have done : EP X pins σ Q (.str z t) s' := ⟨.str z, H', I', ⟨_, rfl⟩, q w' H' (Le.refl _) hS' _ ⟨rfl, sz⟩⟩
    refine wpAny_bind (wpAny_isInstance (typeIs_str _ _ _) isSubtype_str_str
                                                                             ?_)
    first
      | exact wpAny_pure ⟨_, rfl, done⟩
      | (rw [if_pos rfl]; exact wpAny_pure ⟨_, rfl, done⟩)
      | (simp only [if_true]; exact wpAny_pure ⟨_, rfl, done⟩)
  | _ => exact q.elim
/-! ### == and != -/
def rOwn2 (P : Prog) (Φ : Cal) (K : PySem.W.Frag) (ne : Bool) : V → V → Hp → VK → Prop := fun x y H Q => ∃ w st a b, RS K w st H ∧ RV K w a x ∧ RV K w b y ∧ Post K w (own2M P Φ ne a b st) (AV K Q) fun _ _ _ => False
theorem rich_of {op : CmpOp} {x C : Addr} {ox : Obj} {od : Option Obj} {K : PySem.W.Frag} {b tb : Value} {A : Around} {E : Value → Shared → Prop} {prog : Program} {ww : World} {R : Value → Shared → Prop} (hu : A.units < cLine) (kin : K.In s.heap) (J : PySem.W.InstAt s.heap x ox C od) (hb : PySem.W.Looks (model prog ww) s.heap (typeOf b) tb) (hn : PySem.W.notFirst K C tb = true)
    (one : wpAny (model prog ww) A (tryCompare (.ref x) (cmpInfo op).2.1 b) (fun r s' => ∃ v, r = some v ∧ R v s') E s) : wpAny (model prog ww) A (richCompare op (.ref x) b) R E s := by
  unfold richCompare
  simp only [oneThing_ref]
  refine wpAny_holding (wpAny_bind (wpAny_cRoomFor hu
                                                      ?_))
  refine wpAny_bind (J.type.here (wpAny_bind (hb.here ?_)))
  split
  · rename_i q
    have e : PySem.W.subIn K tb (.ref C) = some false := by
      rcases Bool.or_eq_true_iff.mp hn with e |
                                                e
      · rw [beq_iff_eq.mp e] at q; simp at
                                           q
      · exact beq_iff_eq.mp e
    refine wpAny_bind ((PySem.W.looks_subIn kin e).here ?_)
    simp only [Bool.false_eq_true,
                                   if_false]
    refine wpAny_bind (wpAny_mono one (fun r s' z => ?_) fun _ _ e =>
                                                                      e)
    obtain ⟨v, rfl, hq⟩ := z
    exact wpAny_pure hq
  · refine wpAny_bind (wpAny_pure
                                  ?_)
    simp only [Bool.false_eq_true,
                                   if_false]
    refine wpAny_bind (wpAny_mono one (fun r s' z => ?_) fun _ _ e =>
                                                                      e)
    obtain ⟨v, rfl, hq⟩ := z
    exact wpAny_pure hq
/-- what must be called for x == b, x != b -/
theorem try_eq {x C f : Addr} {ox : Obj} {od : Option Obj} {K : PySem.W.Frag} {b : Value} {A : Around} {E : Value → Shared → Prop} {prog : Program} {ww : World} {R : Value → Shared → Prop} (kin : K.In s.heap) (J : PySem.W.InstAt s.heap x ox C od) (M : Meth K C "__eq__" f)
    (h : wpAny (model prog ww) A (PySem.call (.ref f) [.ref x, b]) (fun v s' => ∃ z, v = .bool z ∧ R (.bool z) s') E s) : wpAny (model prog ww) A (tryCompare (.ref x) "__eq__" b) (fun r s' => ∃ v, r = some v ∧ R v s') E s := by
  unfold tryCompare
  refine wpAny_bind (PySem.W.ifBound_K kin J M.at_ M.fn (wpAny_mono h (fun v s' hv => ?_) fun _ _ e => e))
  obtain ⟨z, rfl, hz⟩ := hv
  exact wpAny_pure ⟨_, rfl, hz⟩
theorem ne_bound {x C : Addr} {ox : Obj} {od : Option Obj} {K : PySem.W.Frag} {args : List Value} {A : Around} {E : Value → Shared → Prop} {M : Model} {R : Option Value → Shared → Prop} (kin : K.In s.heap) (J : PySem.W.InstAt s.heap x ox C od) (hs : PySem.W.findIn K (.ref C) "__ne__" = some (some (.builtin "object.__ne__")))
    (h : wpAny M A (PySem.call (.builtin "object.__ne__") (.ref x :: args)) (fun v => R (some v)) E s) : wpAny M A (callSpecialIfBound? (.ref x) "__ne__" args) R E s := by
  simp only [callSpecialIfBound?,
                                  bindSpecialIfBound?]
  refine wpAny_holding (wpAny_bind (wpAny_bind (wpAny_bind (J.type.here ((PySem.W.looks_findIn kin hs).here ?_)))))
  simp only [PySem.F.cmp_object.ne.bind]
  refine wpAny_bind (wpAny_askSetting (wpAny_ite
                                                 ?_))
  have fin : wpAny M A (PySem.call (.builtin "object.__ne__") ([.ref x] ++ args) >>= fun v => pure (some v)) R E s := wpAny_bind (wpAny_mono h (fun v s' h' => wpAny_pure h') fun _ _ h' => h')
  split
  · exact wpAny_bind (wpAny_pure (wpAny_pure
                                             fin))
  · exact wpAny_tryCatch (wpAny_bind (wpAny_pure (wpAny_pure
                                                             fin)))
theorem ne_check {x C : Addr} {ox : Obj} {od : Option Obj} {K : PySem.W.Frag} {b : Value} {A : Around} {E : Value → Shared → Prop} {M : Model} {R : Unit → Shared → Prop} (kin : K.In s.heap) (J : PySem.W.InstAt s.heap x ox C od) (hm : PySem.W.mroIn K C (.type "object") = some true) (hq : R () s) :
    wpAny M A (checkBuiltinCall "object.__ne__" ⟨[.ref x, b], []⟩) R E s := by
  simp only [checkBuiltinCall, PySem.F.cmpKind_ne, PySem.F.cmpSplit_ne]
  have ha := PySem.F.cmpArgs_ne (.ref x) b
  refine wpAny_bind ?_
  unfold isInstance
  refine wpAny_bind (J.type.here ((PySem.W.looks_mroIn kin hm).here ?_))
  cases hsig : Manifest.signature? "object.__ne__" with
  | none => exact wpAny_pure hq
  | some sig =>
    simp only [argsOk, hsig] at
                                ha
    have h2 : Bind.checkArgs "object.__ne__" sig ⟨[.ref x, b], []⟩ = pure () := ha
    show wpAny M A (Bind.checkArgs "object.__ne__" sig ⟨[.ref x, b], []⟩) R E _
    rw [h2]
    exact wpAny_pure hq
theorem try_ne {x C f : Addr} {ox : Obj} {od : Option Obj} {K : PySem.W.Frag} {b : Value} {A : Around} {E : Value → Shared → Prop} {prog : Program} {ww : World} {R : Value → Shared → Prop} (hu : A.units + 1 < cLine) (kin : K.In s.heap) (J : PySem.W.InstAt s.heap x ox C od) (M : Meth K C "__eq__" f)
    (hs : PySem.W.findIn K (.ref C) "__ne__" = some (some (.builtin "object.__ne__"))) (hm : PySem.W.mroIn K C (.type "object") = some true)
    (h : wpAny (model prog ww) A.in1 (PySem.call (.ref f) [.ref x, b]) (fun v s' => ∃ z, v = .bool z ∧ R (.bool !z) s') E s) : wpAny (model prog ww) A (tryCompare (.ref x) "__ne__" b) (fun r s' => ∃ v, r = some v ∧ R v s') E s := by
  unfold tryCompare
  refine wpAny_bind (ne_bound kin J hs (wpAny_call (codeAny_call_builtin PySem.F.cmp_object.ne.plain PySem.F.cmpEntry_ne (ne_check kin J hm ?_))))
  unfold
         Builtin.«object.__ne__»
  repeat (first
    | with_reducible refine wpAny_cRoomFor hu
                                              ?_
    | (refine wpAny_bind (m := callSpecialIfBound? (.ref x) (Str.ofString "__eq__") [b])
        (PySem.W.ifBound_K kin J M.at_ M.fn (wpAny_mono h (fun r s' hr => by
          obtain ⟨z, rfl, hq⟩ := hr
          repeat (first | exact ⟨_, rfl, hq⟩ | exact wpAny_pure ⟨_, rfl, hq⟩ | (refine wpAny_bind (m := truthy (.bool _)) (wpAny_truthy_bool ?_)) | wp_step)) fun _ _ e => e)))
    | wp_step)
theorem beside_ok (O : OkX P Φ fa k N sc W X) {c : Str} {b : Val} {y : V} {u : Value} (hc : P.isc c = true) (I : L2.Inv X pins σ H s) (hS : RS X.K w st H) (rb : RV X.K w b y) (ry : RelV y u) (h : besideB P c st b = true) :
    ∃ tb, PySem.W.Looks (model X.prog X.w) s.heap (typeOf u) tb ∧ PySem.W.notFirst X.K (cA X.K c) tb = true := by
  unfold besideB at h
  cases hn : tyN st b with
  | none => rw [hn] at h; cases h
  | some n =>
    rw [hn] at h
    simp only [Bool.and_eq_true, Bool.or_eq_true, Bool.not_eq_true', decide_eq_true_eq] at h
    obtain ⟨h1, h2⟩ := h
    have ty := ty_rel O hS rb hn h1
    obtain ⟨R, Z, p, _⟩ := kit_of I ry ty
    refine ⟨_, Z.ty _ _ I.kIn p, ?_⟩
    have ec : tyVal X.K c = .ref (cA X.K c) := by
      unfold tyVal
      rw [(O.lk.gc c hc).2.2]
    unfold PySem.W.notFirst
    rcases h2 with rfl | h2
    · rw [ec]
      simp
    · have k1 := O.lk.isa n c false h2
      rw [ec] at k1
      unfold PySem.W.kitOne at k1
      split at k1
      · cases k1
      · unfold PySem.W.kitCls at k1
        simp only at k1
        split at k1
        · rw [k1]
          simp
        · cases k1
theorem op_own2 (O : OkX P Φ fa k N sc W X) (ne : Bool) : OpR X (compareOp (pycop (if ne = true then .ne else .eq))) (rOwn2 P Φ X.K ne) := by
  intro pins s σ H x y v u Q I rx ry
                                     h
  obtain ⟨w, st, a, b, hS, ra, rb, h⟩ := h
  have hu := units64 O
  unfold own2M at h
  cases hi : insOf st a with
  | none => rw [hi] at h; exact h.elim
  | some z =>
    obtain ⟨c, ns, ws⟩ := z
    rw [hi] at h
    simp only at h
    split at h
    · rename_i hcb
      obtain ⟨hc, hb⟩ := hcb
      cases hg : P.meth c "__eq__" with
      | none => rw [hg] at h; exact h.elim
      | some g =>
        rw [hg] at h
        obtain ⟨p, dx, fs, rfl, hp, _, _⟩ := insOf_rel hS ra hi
        obtain rfl : v = Value.ref p :=
                                        rx
        obtain ⟨ox, od, J⟩ := inst_of I hp
        obtain ⟨tb, hl, hn⟩ := beside_ok O hc I hS rb ry hb
        have M := O.lk.me c "__eq__" g hg hc
        have hs := O.lk.ne c g hg hc
        have hm := (O.lk.ty c hc).hm
        have back : ∀ {r : Value} {s' : Shared}, Ran X pins σ (back2 ne) Q r s' → ∃ z, r = .bool z ∧ EP X pins σ Q (.bool (xor ne z)) s' := by
          intro r s' hr
          obtain ⟨v', y', w', st', H', I', ry', rv', hS', q⟩ := hr
          cases v' with
          | bl z =>
            cases (show y' = .bl z from rv')
            cases (show r = Value.bool z from ry')
            exact ⟨z, rfl, .bl (xor ne z), H', I', rfl, q w' H' (Le.refl _) hS' _ rfl⟩
          | _ => exact q.elim
        cases ne with
        | false =>
          show wpAny _ _ (richCompare .Eq (.ref p) u) _ _ _
          refine rich_of (by omega) I.kIn J hl hn ?_
          exact try_eq I.kIn J M (wpAny_mono (spec_run O (O.room.mono (by omega)) I.env0 I hS (RVs.cons ra (RVs.cons rb RVs.nil)) (.cons rfl (.cons ry .nil)) h) (fun r s' hr => by
            obtain ⟨z, e, q⟩ := back hr
            rw [Bool.false_xor] at q
            exact ⟨z, e, q⟩) fun _ _ e => e)
        | true =>
          show wpAny _ _ (richCompare .NotEq (.ref p) u) _ _ _
          refine rich_of (by omega) I.kIn J hl hn ?_
          exact try_ne (by omega) I.kIn J M hs hm (wpAny_mono (spec_run O (O.room.mono (by omega)).in1 I.env0.in1 I hS (RVs.cons ra (RVs.cons rb RVs.nil)) (.cons rfl (.cons ry .nil)) h) (fun r s' hr => by
            obtain ⟨z, e, q⟩ := back hr
            rw [Bool.true_xor] at q
            exact ⟨z, e, q⟩) fun _ _ e => e)
    · exact h.elim
/-! ### in the text -/
theorem noErr_of {K : PySem.W.Frag} {w : Wd} {r : R Val} {A : Wd → Val → Store → Hp → Prop} {B : XK} (hr : ∀ c ns vs st, r ≠ .err c ns vs st) (h : Post K w r A B) : Post K w r A fun _ _ _ => False := by
  cases r with
  | ok v st => exact h
  | err c ns vs st => exact absurd rfl (hr c ns vs st)
  | stuck => exact h.elim
theorem specM_ne (g : Str) (vs : List Val) (st : Store) {kk : Val → Store → R Val} (hk : ∀ v st c ns vs st', kk v st ≠ .err c ns vs st') : ∀ c ns us st', ((specM P Φ g vs st).then_ kk) ≠ .err c ns us st' := by
  intro c ns us st' h
  unfold specM at h
  cases e : callM P Φ .pure g [] vs [] st with
  | ok v st1 => rw [e] at h; exact hk _ _ _ _ _ _ h
  | err _ _ _ _ => rw [e] at h; cases h
  | stuck => rw [e] at h; cases h
theorem back1_ne (len : Bool) (v : Val) (st : Store) : ∀ c ns vs st', back1 len v st ≠ .err c ns vs st' := by
  intro c ns vs st' h
  unfold back1 at h
  split at h
  · split at h <;> cases h
  · cases h
  · cases h
theorem back2_ne (ne : Bool) (v : Val) (st : Store) : ∀ c ns vs st', back2 ne v st ≠ .err c ns vs st' := by
  intro c ns vs st' h
  unfold back2 at h
  split at h <;> cases h
theorem own1M_ne (len : Bool) (v : Val) (st : Store) : ∀ c ns vs st', own1M P Φ len v st ≠ .err c ns vs st' := by
  intro c ns vs st' h
  unfold own1M at h
  split at h
  · split at h
    · split at h
      · exact specM_ne _ _ _ (back1_ne len) _ _ _ _ h
      · cases h
    · cases h
  · cases h
theorem own2M_ne (ne : Bool) (a b : Val) (st : Store) : ∀ c ns vs st', own2M P Φ ne a b st ≠ .err c ns vs st' := by
  intro c ns vs st' h
  unfold own2M at h
  split at h
  · split at h
    · split at h
      · exact specM_ne _ _ _ (back2_ne ne) _ _ _ _ h
      · cases h
    · cases h
  · cases h
theorem snd_own1 (O : OkX P Φ fa k N sc W X) {len : Bool} {x : Str} {p pos : Pos} {a : Expr} {ma : ME} (hx : x = if len = true then "len" else "repr") (hg : isGl sc x = true) (ns : NoStar [a]) (ha : PE X a (rdE P Φ X.K W ma)) : PE X (.Call (.Name x p) [a] [] pos) (rdE P Φ X.K W (.own1 len ma)) := by
  have n0 : NoStar [] := fun _ => rfl
  have hp := pa_cons ha pa_nil (ns.cons n0 X.env)
  have tail : ∀ σ H Q, rdE P Φ X.K W (.own1 len ma) σ H Q → tCB (rOwn1 P Φ X.K len) (tCons (rdE P Φ X.K W ma) tNil) σ H Q := fun σ H Q ⟨w, env, st, hE, hS, h⟩ =>
    rdE_seq hE hS h fun w1 v x1 st1 H1 l1 hE1 hS1 rv h1 => ⟨w1, st1, v, x1, rfl, hS1, rv, noErr_of (own1M_ne len v st1) h1⟩
  cases len with
  | true =>
    replace hx : x = "len" := hx
    have hm : X.mg x = none := by rw [hx]; exact O.lk.bi "len" (by decide)
    exact (pe_callB (call_len1 O) (gl_ok O hg) hm (by rw [hx]; decide +kernel) hp (by rw [hx]; decide) (by rw [hx]; decide) (ns.cons n0 X.env) (n0.any _ _)).imp tail
  | false =>
    replace hx : x = "repr" := hx
    have hm : X.mg x = none := by rw [hx]; exact O.lk.bi "repr" (by decide)
    exact (pe_callB (call_repr1 O) (gl_ok O hg) hm (by rw [hx]; decide +kernel) hp (by rw [hx]; decide) (by rw [hx]; decide) (ns.cons n0 X.env) (n0.any _ _)).imp tail
/-- list(x), a list that may be changed -/
theorem snd_lcopy (O : OkX P Φ fa k N sc W X) {x : Str} {p pos : Pos} {a : Expr} {ma : ME} (hx : x = "list") (hg : isGl sc x = true) (ns : NoStar [a]) (ha : PE X a (rdE P Φ X.K W ma)) : PE X (.Call (.Name x p) [a] [] pos) (rdE P Φ X.K W (.lcopy ma)) := by
  have n0 : NoStar [] := fun _ => rfl
  have hp := pa_cons ha pa_nil (ns.cons n0 X.env)
  have hm : X.mg x = none := by rw [hx]; exact O.lk.bi "list" (by decide)
  refine (pe_callTy call_list_of (gl_ok O hg) hm (by rw [hx]; decide +kernel) hp (by rw [hx]; decide) (by rw [hx]; decide) (ns.cons n0 X.env) (n0.any _ _)).imp fun σ H Q ⟨w, env, st, hE, hS, h⟩ => ?_
  refine rdE_seq hE hS h fun w1 v x1 st1 H1 l1 hE1 hS1 rv h1 => ?_
  cases e : seqOf st1 v with
  | none => rw [e] at h1; exact h1.elim
  | some vs =>
    rw [e] at h1
    obtain ⟨q, xs, rfl, hq, hz, rr⟩ := seqOf_rel hS1 rv e
    refine ⟨q, xs, rfl, hq, fun l hl => ?_⟩
    have s2 := hS1.push (H' := upd H1 l (.lst xs)) (s := .lst vs) hl (fun q n _ => upd_ne n) ⟨xs, upd_same, hz, RVs.mono (RS.push_le l) _ rr⟩
    refine h1 _ _ (RS.push_le l) s2 _ ⟨l, rfl, ?_⟩
    show (w1.e ++ [l])[st1.length]? = some l
    rw [← hS1.len]; simp
theorem snd_own2 (O : OkX P Φ fa k N sc W X) {ne : Bool} {o : CmpOp} {a b : Expr} {ma mb : ME} {pos : Pos} (ho : o = pycop (if ne = true then .ne else .eq)) (hm : behindInMarks o b = false) (ha : PE X a (rdE P Φ X.K W ma)) (hb : PE X b (rdE P Φ X.K W mb)) : PE X (.Compare a [o] [b] pos) (rdE P Φ X.K W (.own2 ne ma mb)) := by
  subst ho
  refine (pe_cmpR (op_own2 O ne) ha hb hm).imp fun σ H Q ⟨w, env, st, hE, hS, h⟩ => ?_
  refine rdE_seq hE hS h fun w1 v x st1 H1 l1 hE1 hS1 rv h1 => ?_
  refine rdE_seq hE1 hS1 h1 fun w2 u y st2 H2 l2 hE2 hS2 ru h2 => ?_
  exact ⟨w2, st2, v, u, hS2, RV.mono l2 v rv, ru, noErr_of (own2M_ne ne v u st2) h2⟩
theorem snd_own2T (O : OkX P Φ fa k N sc W X) {ne : Bool} {o : CmpOp} {a b : Expr} {ma mb : ME} {pos : Pos} (ho : o = pycop (if ne = true then .ne else .eq)) (hm : behindInMarks o b = false) (ha : PE X a (rdE P Φ X.K W ma)) (hb : PE X b (rdE P Φ X.K W mb)) : PT X (.Compare a [o] [b] pos) (rdT P Φ X.K W (.own2 ne ma mb)) := by
  subst ho
  refine (pt_cmpR (op_own2 O ne) ha hb hm).imp fun σ H Q ⟨w, env, st, hE, hS, h⟩ => ?_
  replace h := asB_post (show Post X.K w (asB _) _ _ from h)
  refine rdE_seq hE hS h fun w1 v x st1 H1 l1 hE1 hS1 rv h1 => ?_
  refine rdE_seq hE1 hS1 h1 fun w2 u y st2 H2 l2 hE2 hS2 ru h2 => ?_
  refine ⟨w2, st2, v, u, hS2, RV.mono l2 v rv, ru, noErr_of (own2M_ne ne v u st2) (h2.imp fun w' z st' H' l s ⟨b, e, q⟩ x rx => ?_)⟩
  subst e
  exact ⟨b, rx, q⟩
end
end Mp
end

section
set_option Elab.async false
set_option linter.all false
set_option maxRecDepth 100000
set_option maxHeartbeats
                         1000000
namespace Mp
open PySem L2 PySem.Spec PyProof.Rows

/-! ### walks -/
structure LeR (w w' : Wd) : Prop where
  F : ∀ p o, w.F p = some o → w'.F p = some o
  e : ∀ (i : Nat) (p : Addr), w.e[i]? = some p → w'.e[i]? = some p
theorem Le.r {w w' : Wd} (l : Le w w') : LeR w w' := ⟨l.F, l.e⟩
theorem LeR.refl (w : Wd) : LeR w w := ⟨fun _ _ h => h, fun _ _ h => h⟩
theorem LeR.trans {a b c : Wd} (h : LeR a b) (k : LeR b c) : LeR a c := ⟨fun p o q => k.F p o (h.F p o q), fun i p q => k.e i p (h.e i p q)⟩
theorem RV.monoR {K : PySem.W.Frag} {w w' : Wd} (l : LeR w w') (v : Val) {x : V} (r : RV K w v x) : RV K w' v x := RV.back (w := w) (w' := w) (w'' := w') l.F (fun i _ q _ h => l.e i q h) v r r
theorem RVs.monoR {K : PySem.W.Frag} {w w' : Wd} (l : LeR w w') (v : List Val) {x : List V} (r : RVs K w v x) : RVs K w' v x := RVs.back (w := w) (w' := w) (w'' := w') l.F (fun i _ q _ h => l.e i q h) v r r
theorem RE.monoR {K : PySem.W.Frag} {w w' : Wd} (l : LeR w w') {env : Env} {σ : L2.St} (h : RE K w env σ) : RE K w' env σ := ⟨h.1, fun i v e => by
  obtain ⟨x, e1, r⟩ := h.2 i v e
  exact ⟨x, e1, RV.monoR l v r⟩⟩
/-- an iterator that hands out the items -/
structure ItW (K : PySem.W.Frag) (J : It) (w0 : Wd) (items : List Val) (live : List (Nat × List Val)) : Prop where
  stop : ∀ w st H i, LeR w0 w → RS K w st H → still st live → items.length ≤ i → J.stop i H
  go : ∀ w st H i, LeR w0 w → RS K w st H → still st live → i < items.length → J.go i H
  yld : ∀ w st H i v x H', LeR w0 w → RS K w st H → still st live → items[i]? = some v → J.yld i H x H' → ∃ w', Le w w' ∧ RS K w' st H' ∧ RV K w' v x
theorem at_live {K : PySem.W.Frag} {w0 : Wd} {st0 : Store} {H0 : Hp} {v : Val} {x : V} {us : List Val} (hS : RS K w0 st0 H0) (rv : RV K w0 v x) (e : lstOf st0 v = some us) : ∃ p, x = .ref p ∧ (∃ xs, SqL K H0 p xs) ∧ ∀ w st H, LeR w0 w → RS K w st H → still st (liveOf v us) → ∃ xs, H p = some (.lst xs) ∧ RVs K w us xs := by
  cases v with
  | ref i =>
    have e' : st0[i]? = some (.lst us) := by
      simp only [lstOf] at e
      split at e
      · rename_i h; cases e; exact h
      · cases e
    obtain ⟨p, ys, rfl, e1, h1, h2, h3⟩ := at_lst hS rv e'
    refine ⟨p, rfl, ⟨ys, SqL.of h1⟩, fun w st H l s hs => ?_⟩
    have e2 : st[i]? = some (.lst us) := hs (i, us) (by simp [liveOf])
    obtain ⟨zs, g1, g2, g3⟩ := s.obj i p _ (l.e _ _ e1) e2
    exact ⟨zs, g1, g3⟩
  | lst us' =>
    have : us' = us := by simpa [lstOf] using e
    subst this
    obtain ⟨p, ys, rfl, h1, h2, h3⟩ := rv
    exact ⟨p, rfl, ⟨ys, SqL.of (hS.sub _ _ h1)⟩, fun w st H l s hs => ⟨ys, s.sub _ _ (l.F _ _ h1), RVs.monoR l _ h3⟩⟩
  | _ => cases e
theorem itl_ok {K : PySem.W.Frag} {w0 : Wd} {p : Addr} {us : List Val} {live : List (Nat × List Val)} (h : ∀ w st H, LeR w0 w → RS K w st H → still st live → ∃ xs, SqL K H p xs ∧ RVs K w us xs) : ItW K (Itl K p) w0 us live := by
  refine ⟨fun w st H i l s hs hi => ?_, fun w st H i l s hs hi => ?_, fun w st H i v x H' l s hs e y => ?_⟩
  · obtain ⟨xs, h1, r⟩ := h w st H l s hs
    exact ⟨xs, h1, by rw [← r.length]; exact hi⟩
  · obtain ⟨xs, h1, r⟩ := h w st H l s hs
    have hi' : i < xs.length := by rw [← r.length]; exact hi
    exact ⟨xs, xs[i], h1, by simp [hi']⟩
  · obtain ⟨xs, h1, r⟩ := h w st H l s hs
    obtain ⟨rfl, y⟩ := y
    obtain ⟨z, e1, rz⟩ := r.get e
    have e2 := y xs h1
    rw [e1] at e2
    cases e2
    exact ⟨w, Le.refl w, s, rz⟩
theorem itt_ok {K : PySem.W.Frag} {w0 : Wd} {p : Addr} {us : List Val} {xs : List V} (h : SqT K w0.F p xs) (r : RVs K w0 us xs) : ItW K (Itt K p) w0 us [] := by
  refine ⟨fun w st H i l s hs hi => ⟨xs, SqT.mono s.sub (SqT.mono l.F h), by rw [← r.length]; exact hi⟩, fun w st H i l s hs hi => ?_, fun w st H i v x H' l s hs e y => ?_⟩
  · have hi' : i < xs.length := by rw [← r.length]; exact hi
    exact ⟨xs, xs[i], SqT.mono s.sub (SqT.mono l.F h), by simp [hi']⟩
  · obtain ⟨rfl, y⟩ := y
    obtain ⟨z, e1, rz⟩ := r.get e
    have e2 := y xs (SqT.mono s.sub (SqT.mono l.F h))
    rw [e1] at e2
    cases e2
    exact ⟨w, Le.refl w, s, RV.monoR l _ rz⟩
theorem itr_ok {K : PySem.W.Frag} {w0 : Wd} (lo : Int) (n : Nat) : ItW K (Itr lo n) w0 ((List.range n).map fun (k : Nat) => .int (lo + k)) [] := by
  refine ⟨fun w st H i l s hs hi => show n ≤ i by simpa using hi, fun w st H i l s hs hi => show i < n by simpa using hi, fun w st H i v x H' l s hs e y => ?_⟩
  obtain ⟨rfl, rfl⟩ := y
  rw [List.getElem?_map] at e
  have hi : i < n := by
    by_cases hi : i < n
    · exact hi
    · rw [List.getElem?_eq_none (by simpa using hi)] at e; cases e
  rw [List.getElem?_range hi] at e
  cases e
  exact ⟨w, Le.refl w, s, rfl⟩
theorem its_ok {K : PySem.W.Frag} {w0 : Wd} {z : Str} (hz : sOk z) : ItW K (Its z) w0 (z.cps.toList.map fun c => .str ⟨#[c]⟩) [] := by
  refine ⟨fun w st H i l s hs hi => show z.cps.size ≤ i by simpa using hi, fun w st H i l s hs hi => show i < z.cps.size by simpa using hi, fun w st H i v x H' l s hs e y => ?_⟩
  obtain ⟨rfl, c, e1, rfl⟩ := y
  rw [List.getElem?_map, Array.getElem?_toList, e1] at e
  cases e
  exact ⟨w, Le.refl w, s, rfl, sOk_one hz (by rw [← Array.getElem?_toList] at e1; exact List.mem_of_getElem? e1)⟩
theorem ite_ok {K : PySem.W.Frag} {w0 : Wd} {p : Addr} {us : List Val} {live : List (Nat × List Val)} (h : ∀ w st H, LeR w0 w → RS K w st H → still st live → ∃ xs, SqL K H p xs ∧ RVs K w us xs) : ItW K (Ite K p) w0 (((List.range us.length).zip us).map fun p => .tup [.int p.1, p.2]) live := by
  have hl : (((List.range us.length).zip us).map fun p => Val.tup [.int p.1, p.2]).length = us.length := by simp
  refine ⟨fun w st H i l s hs hi => ?_, fun w st H i l s hs hi => ?_, fun w st H i v x H' l s hs e y => ?_⟩
  · obtain ⟨xs, h1, r⟩ := h w st H l s hs
    exact ⟨xs, h1, by rw [← r.length, ← hl]; exact hi⟩
  · obtain ⟨xs, h1, r⟩ := h w st H l s hs
    have hi' : i < xs.length := by rw [← r.length, ← hl]; exact hi
    exact ⟨xs, xs[i], h1, by simp [hi']⟩
  · obtain ⟨xs, h1, r⟩ := h w st H l s hs
    obtain ⟨T, x', rfl, hT, rfl, y⟩ := y
    have hi : i < us.length := by rw [← hl]; exact (List.getElem?_eq_some_iff.mp e).1
    have e0 : us[i]? = some us[i] := by simp [hi]
    have ev : v = .tup [.int i, us[i]] := by
      rw [List.getElem?_map, (List.getElem?_zip_eq_some (z := (i, us[i]))).mpr ⟨List.getElem?_range hi, e0⟩] at e
      exact (Option.some.inj e).symm
    subst ev
    obtain ⟨z, e1, rz⟩ := r.get e0
    have e2 := y xs h1
    rw [e1] at e2
    cases e2
    have le := RS.freeze_le (o := HO.tup [.int (i : Nat), x']) s hT
    exact ⟨_, le, RS.freeze s hT, T, [.int (i : Nat), x'], rfl, .inl (.inl upd_same), by rw [sizeLine_eq]; simp, .cons rfl (.cons (RV.mono le _ rz) .nil)⟩
theorem itz_ok {K : PySem.W.Frag} {w0 : Wd} {p q : Addr} {us vs : List Val} {live : List (Nat × List Val)} (h : ∀ w st H, LeR w0 w → RS K w st H → still st live → (∃ xs, SqL K H p xs ∧ RVs K w us xs) ∧ ∃ xs, SqL K H q xs ∧ RVs K w vs xs) : ItW K (Itz K p q) w0 ((us.zip vs).map fun p => .tup [p.1, p.2]) live := by
  have hl : ((us.zip vs).map fun p => Val.tup [p.1, p.2]).length = min us.length vs.length := by simp
  refine ⟨fun w st H i l s hs hi => ?_, fun w st H i l s hs hi => ?_, fun w st H i v x H' l s hs e y => ?_⟩
  · obtain ⟨⟨xs, h1, r⟩, ys, h2, r2⟩ := h w st H l s hs
    rw [hl] at hi
    exact ⟨xs, ys, h1, h2, by rw [← r.length, ← r2.length]; omega⟩
  · obtain ⟨⟨xs, h1, r⟩, ys, h2, r2⟩ := h w st H l s hs
    rw [hl] at hi
    have hi1 : i < xs.length := by rw [← r.length]; omega
    have hi2 : i < ys.length := by rw [← r2.length]; omega
    exact ⟨xs, ys, xs[i], ys[i], h1, h2, by simp [hi1], by simp [hi2]⟩
  · obtain ⟨⟨xs, h1, r⟩, ys, h2, r2⟩ := h w st H l s hs
    obtain ⟨T, x', y', rfl, hT, rfl, z1, z2⟩ := y
    have hi : i < min us.length vs.length := by rw [← hl]; exact (List.getElem?_eq_some_iff.mp e).1
    have i1 : i < us.length := by omega
    have i2 : i < vs.length := by omega
    have e0 : us[i]? = some us[i] := by simp [i1]
    have e1 : vs[i]? = some vs[i] := by simp [i2]
    have ev : v = .tup [us[i], vs[i]] := by
      rw [List.getElem?_map, (List.getElem?_zip_eq_some (z := (us[i], vs[i]))).mpr ⟨e0, e1⟩] at e
      exact (Option.some.inj e).symm
    subst ev
    obtain ⟨a, g1, ra⟩ := r.get e0
    obtain ⟨b, g2, rb⟩ := r2.get e1
    have k1 := z1 xs h1
    have k2 := z2 ys h2
    rw [g1] at k1
    rw [g2] at k2
    cases k1
    cases k2
    have le := RS.freeze_le (o := HO.tup [x', y']) s hT
    exact ⟨_, le, RS.freeze s hT, T, [x', y'], rfl, .inl (.inl upd_same), by rw [sizeLine_eq]; simp, .cons (RV.mono le _ ra) (.cons (RV.mono le _ rb) .nil)⟩

section
variable {P : Prog} {Φ : Cal} {fa : Str → Addr} {k : Nat} {N : List Str} {sc : Sco} {W : WX} {X : Cx}
/-- what is walked -/
def srcE (P : Prog) (Φ : Cal) (k : SrcK) (es : List ME) (env : Env) (st : Store) : R (List Val × List (Nat × List Val)) := (evalEs P Φ es env st).then_ fun vs st => R.of (srcV st k vs) st
def rdS (P : Prog) (Φ : Cal) (K : PySem.W.Frag) (W : WX) (k : SrcK) (es : List ME) : TI := fun σ H Q => rd K W (srcE P Φ k es) σ H fun w p H' => ∀ J, ItW K J w p.1 p.2 → Q J H'
theorem _root_.L2.PI.imp {X : Cx} {tg e : Expr} {t t' : TI} (h : PI X tg e t) (i : ∀ σ H R, t' σ H R → t σ H R) : PI X tg e t' := ⟨fun pins s σ H R I q => h.run pins s σ H R I (i σ H R q)⟩
def iSeq (K : PySem.W.Frag) (te : TE) : TI := fun σ H R => te σ H fun x H1 => (∃ a, x = .ref a ∧ (∃ xs, SqL K H1 a xs) ∧ R (Itl K a) H1) ∨ (∃ a, x = .ref a ∧ (∃ xs, SqT K H1 a xs) ∧ R (Itt K a) H1) ∨ ∃ z, x = .str z ∧ R (Its z) H1
theorem pi_seq {tg e : Expr} {te : TE} (he : PE X e te) : PI X tg e (iSeq X.K te) := by
  refine ⟨fun pins s σ H R I h =>
                                  ?_⟩
  refine thn (he.run pins s σ H _ I h) fun v s1 ⟨x, H1, I1, r1, q1⟩ => ?_
  rcases q1 with ⟨a, rfl, ⟨xs, hq⟩, q⟩ | ⟨a, rfl, ⟨xs, hq⟩, q⟩ | ⟨z, rfl, q⟩
  · cases r1
    obtain ⟨its, rv, p, hz⟩ := I1.list
                                       hq
    exact wpAny_pyIter_list p.isList (pi_one (tk := s1.toks) I1 _ (turn_list a _) ⟨_, Heap.get?_push_size _ rfl, rfl, rfl⟩ q)
  · cases r1
    obtain ⟨its, rv, p, hz⟩ := I1.tuple
                                        hq
    exact wpAny_pyIter_tuple (show s1.heap.IsTuple a its.toArray from p) (pi_one (tk := s1.toks) I1 _ (turn_tuple a _) ⟨_, Heap.get?_push_size _ rfl, rfl, rfl⟩ q)
  · obtain ⟨t, rfl⟩ := r1
    cases ha : z.cps.all (· < 128) with
    | false => exact wpAny_pyIter_wide ha (pi_one (tk := s1.toks) I1 _ (turn_str _ z t "str_iterator" (.inr rfl)) ⟨_, Heap.get?_push_size _ rfl, rfl, rfl⟩ q)
    | true => exact wpAny_pyIter_ascii ha (pi_one (tk := s1.toks) I1 _ (turn_str _ z t "str_ascii_iterator" (.inl rfl)) ⟨_, Heap.get?_push_size _ rfl, rfl, rfl⟩ q)
theorem one_val {m : ME} {env : Env} {st : Store} {β : Type} {kk : List Val → Store → R β} : (evalEs P Φ [m] env st).then_ kk = (evalE P Φ m env st).then_ fun v st => kk [v] st := by
  show ((evalE P Φ m env st).then_ fun v st => R.ok [v] st).then_ kk = _
  cases evalE P Φ m env st <;> rfl
theorem snd_src_seq {tg e : Expr} {m : ME} (he : PE X e (rdE P Φ X.K W m)) : PI X tg e (rdS P Φ X.K W .seq [m]) := by
  refine (pi_seq he).imp fun σ H R ⟨w, env, st, hE, hS, h⟩ => ?_
  unfold srcE at h
  rw [one_val] at h
  refine rdE_seq hE hS h fun w1 v x st1 H1 l1 hE1 hS1 rv h1 => ?_
  obtain ⟨z, e, q⟩ := h1.of
  have q' := q w1 H1 (Le.refl _) hS1
  have list : ∀ {us : List Val}, lstOf st1 v = some us → z = (us, liveOf v us) → ∃ a, x = .ref a ∧ (∃ xs, SqL X.K H1 a xs) ∧ R (Itl X.K a) H1 := by
    intro us h1 h2
    subst h2
    obtain ⟨p, rfl, hx, hh⟩ := at_live hS1 rv h1
    exact ⟨p, rfl, hx, q' _ (itl_ok fun w st H l s hs => by
      obtain ⟨xs, g1, g2⟩ := hh w st H l s hs
      exact ⟨xs, SqL.of g1, g2⟩)⟩
  cases v with
  | scr ns =>
    cases e
    obtain ⟨p, rfl, hp, hz⟩ := rv
    exact .inl ⟨p, rfl, ⟨_, SqL.mono hS1.sub hp⟩, q' _ (itl_ok fun w st H l s hs => ⟨_, SqL.mono s.sub (SqL.mono l.F hp), RVs.ints _⟩)⟩
  | str z =>
    cases e
    obtain ⟨rfl, sz⟩ := rv
    exact .inr (.inr ⟨z, rfl, q' _ (its_ok sz)⟩)
  | tup us =>
    cases e
    obtain ⟨p, xs, rfl, hp, hz, rr⟩ := rv
    exact .inr (.inl ⟨p, rfl, ⟨_, SqT.mono hS1.sub hp⟩, q' _ (itt_ok hp rr)⟩)
  | lst us => cases e; exact .inl (list rfl rfl)
  | ref i =>
    replace e : (lstOf st1 (.ref i)).map (fun xs => (xs, liveOf (.ref i) xs)) = some z := e
    obtain ⟨us, e1, e2⟩ := Option.map_eq_some_iff.mp e
    exact .inl (list e1 e2.symm)
  | _ => cases e
theorem snd_src_range1 (O : OkX P Φ fa k N sc W X) {tg a : Expr} {x : Str} {m : ME} {p pos : Pos} (hx : x = "range") (hg : isGl sc x = true) (ns : NoStar [a]) (ha : PA X [a] (rdA P Φ X.K W [m])) : PI X tg (.Call (.Name x p) [a] [] pos) (rdS P Φ X.K W .range1 [m]) := by
  subst hx
  refine (pi_range1 (gl_ok O hg) (O.lk.bi "range" (by decide)) ha (ns _)).imp fun σ H R ⟨w, env, st, hE, hS, h⟩ => ?_
  refine rdA_seq hE hS h fun w1 vs xs st1 H1 l1 hE1 hS1 rv h1 => ?_
  obtain ⟨z, e, q⟩ := Post.of (o := rng1S vs) h1
  unfold rng1S at e
  split at e
  · split at e
    · rename_i hj
      cases e
      obtain ⟨y, rfl, ry⟩ := one_rel rv
      cases (show y = .int _ from ry)
      exact ⟨_, rfl, by omega, by omega, q w1 H1 (Le.refl _) hS1 _ (itr_ok _ _)⟩
    · cases e
  · cases e
theorem snd_src_range2 (O : OkX P Φ fa k N sc W X) {tg a b : Expr} {x : Str} {m m2 : ME} {p pos : Pos} (hx : x = "range") (hg : isGl sc x = true) (ns : NoStar [a, b]) (ns2 : NoStar [b]) (ha : PA X [a, b] (rdA P Φ X.K W [m, m2])) : PI X tg (.Call (.Name x p) [a, b] [] pos) (rdS P Φ X.K W .range2 [m, m2]) := by
  subst hx
  refine (pi_range2 (gl_ok O hg) (O.lk.bi "range" (by decide)) ha (ns _) (ns2 _)).imp fun σ H R ⟨w, env, st, hE, hS, h⟩ => ?_
  refine rdA_seq hE hS h fun w1 vs xs st1 H1 l1 hE1 hS1 rv h1 => ?_
  obtain ⟨z, e, q⟩ := Post.of (o := rng2S vs) h1
  unfold rng2S at e
  split at e
  · split at e
    · rename_i hj
      cases e
      obtain ⟨y, y2, rfl, ry, ry2⟩ := two_rel rv
      cases (show y = .int _ from ry)
      cases (show y2 = .int _ from ry2)
      exact ⟨_, _, rfl, by omega, q w1 H1 (Le.refl _) hS1 _ (itr_ok _ _)⟩
    · cases e
  · cases e
theorem itc_ok {K : PySem.W.Frag} {w0 : Wd} (lo c : Int) (n : Nat) : ItW K (Itc lo c n) w0 ((List.range n).map fun (k : Nat) => .int (lo + (k : Nat) * c)) [] := by
  refine ⟨fun w st H i l s hs hi => show n ≤ i by simpa using hi, fun w st H i l s hs hi => show i < n by simpa using hi, fun w st H i v x H' l s hs e y => ?_⟩
  obtain ⟨rfl, rfl⟩ := y
  rw [List.getElem?_map] at e
  have hi : i < n := by
    by_cases hi : i < n
    · exact hi
    · rw [List.getElem?_eq_none (by simpa using hi)] at e; cases e
  rw [List.getElem?_range hi] at e
  cases e
  exact ⟨w, Le.refl w, s, rfl⟩
theorem three_rel {K : PySem.W.Frag} {w : Wd} {a b c : Val} {xs : List V} (r : RVs K w [a, b, c] xs) : ∃ x y z, xs = [x, y, z] ∧ RV K w a x ∧ RV K w b y ∧ RV K w c z := by
  obtain ⟨x, ys, rfl, h1, h2⟩ := r
  obtain ⟨y, z, rfl, h3, h4⟩ := two_rel h2
  exact ⟨x, y, z, rfl, h1, h3, h4⟩
theorem snd_src_range3 (O : OkX P Φ fa k N sc W X) {tg a b c : Expr} {x : Str} {m m2 m3 : ME} {p pos : Pos} (hx : x = "range") (hg : isGl sc x = true) (ns : NoStar [a, b, c]) (ns2 : NoStar [b, c]) (ha : PA X [a, b, c] (rdA P Φ X.K W [m, m2, m3])) : PI X tg (.Call (.Name x p) [a, b, c] [] pos) (rdS P Φ X.K W .range3 [m, m2, m3]) := by
  subst hx
  refine (pi_range3 (gl_ok O hg) (O.lk.bi "range" (by decide)) ha (ns.cons ns2 _) (ns2.any _ _)).imp fun σ H R ⟨w, env, st, hE, hS, h⟩ => ?_
  refine rdA_seq hE hS h fun w1 vs xs st1 H1 l1 hE1 hS1 rv h1 => ?_
  obtain ⟨z, e, q⟩ := Post.of (o := rng3S vs) h1
  unfold rng3S at e
  split at e
  · split at e
    · rename_i hj
      cases e
      obtain ⟨y, y2, y3, rfl, ry, ry2, ry3⟩ := three_rel rv
      cases (show y = .int _ from ry)
      cases (show y2 = .int _ from ry2)
      cases (show y3 = .int _ from ry3)
      obtain ⟨rfl, b1, b2, b3, b4⟩ := hj
      exact ⟨_, _, _, _, rfl, RgC.neg (by omega) (by omega) (by omega) (by omega), q w1 H1 (Le.refl _) hS1 _ (itc_ok _ _ _)⟩
    · cases e
  · cases e
theorem snd_src_enum (O : OkX P Φ fa k N sc W X) {a : Expr} {x : Str} {m : ME} {p pos tpos : Pos} {elts : List Expr} {kk : Nat} (hx : x = "enumerate") (hg : isGl sc x = true) (ns : NoStar [a]) (ha : PA X [a] (rdA P Φ X.K W [m])) : PI X (.Tuple elts kk tpos) (.Call (.Name x p) [a] [] pos) (rdS P Φ X.K W .enum [m]) := by
  subst hx
  refine (pi_enum (gl_ok O hg) (O.lk.bi "enumerate" (by decide)) ha (ns _)).imp fun σ H R ⟨w, env, st, hE, hS, h⟩ => ?_
  refine rdA_seq hE hS h fun w1 vs xs st1 H1 l1 hE1 hS1 rv h1 => ?_
  obtain ⟨z, e, q⟩ := Post.of (o := enumS st1 vs) h1
  unfold enumS at e
  split at e
  · obtain ⟨us, e1, rfl⟩ := Option.map_eq_some_iff.mp e
    obtain ⟨y, rfl, ry⟩ := one_rel rv
    obtain ⟨p, rfl, ⟨ys, hx⟩, hh⟩ := at_live hS1 ry e1
    exact ⟨p, ys, rfl, hx, q w1 H1 (Le.refl _) hS1 _ (ite_ok fun w st H l s hs => by
      obtain ⟨xs, g1, g2⟩ := hh w st H l s hs
      exact ⟨xs, SqL.of g1, g2⟩)⟩
  · cases e
theorem snd_src_zip (O : OkX P Φ fa k N sc W X) {a b : Expr} {x : Str} {m m2 : ME} {p pos tpos : Pos} {elts : List Expr} {kk : Nat} (hx : x = "zip") (hg : isGl sc x = true) (ns : NoStar [a, b]) (ns2 : NoStar [b]) (ha : PA X [a, b] (rdA P Φ X.K W [m, m2])) : PI X (.Tuple elts kk tpos) (.Call (.Name x p) [a, b] [] pos) (rdS P Φ X.K W .zip [m, m2]) := by
  subst hx
  refine (pi_zip (gl_ok O hg) (O.lk.bi "zip" (by decide)) ha (ns.cons ns2 _) (ns2.any _ _)).imp fun σ H R ⟨w, env, st, hE, hS, h⟩ => ?_
  refine rdA_seq hE hS h fun w1 vs xs st1 H1 l1 hE1 hS1 rv h1 => ?_
  obtain ⟨z, e, q⟩ := Post.of (o := zipS st1 vs) h1
  unfold zipS at e
  split at e
  · split at e
    · rename_i us ws e1 e2
      cases e
      obtain ⟨y, y2, rfl, ry, ry2⟩ := two_rel rv
      obtain ⟨p, rfl, ⟨ys, hx⟩, hh⟩ := at_live hS1 ry e1
      obtain ⟨p2, rfl, ⟨ys2, hx2⟩, hh2⟩ := at_live hS1 ry2 e2
      refine ⟨p, p2, ys, ys2, rfl, hx, hx2, q w1 H1 (Le.refl _) hS1 _ (itz_ok fun w st H l s hs => ?_)⟩
      obtain ⟨xs, g1, g2⟩ := hh w st H l s fun p hp => hs p (List.mem_append_left _ hp)
      obtain ⟨xs2, g3, g4⟩ := hh2 w st H l s fun p hp => hs p (List.mem_append_right _ hp)
      exact ⟨⟨xs, SqL.of g1, g2⟩, xs2, SqL.of g3, g4⟩
    · cases e
  · cases e
end
end Mp
end

section
set_option Elab.async false
set_option linter.all false
set_option maxRecDepth 100000
set_option maxHeartbeats
                         1000000
namespace Mp
open PySem L2 PySem.Spec PyProof.Rows

/-! ### worlds with an object in the making -/
section
variable {K : PySem.W.Frag} {w : Wd} {st : Store} {H : Hp} {D : Addr}
theorem RO.monoR {w w' : Wd} {p : Addr} {s : SO} (l : LeR w w') (h : RO K w H p s) : RO K w' H p s := by
  cases s with
  | lst vs => obtain ⟨xs, e', z, r⟩ := h; exact ⟨xs, e', z, RVs.monoR l vs r⟩
  | ins c ns vs => obtain ⟨dx, fs, e', z, r⟩ := h; exact ⟨dx, fs, e', z, RVs.monoR l vs r⟩
theorem leG (w : Wd) (G : Hp) : LeR w ⟨w.F, w.e, G⟩ := ⟨fun _ _ h => h, fun _ _ h => h⟩
/-- less at rest -/
theorem RS.less (s : RS K w st H) {G : Hp} (h : ∀ p o, G p = some o → w.G p = some o) : RS K ⟨w.F, w.e, G⟩ st H := by
  have hn : ∀ p, w.G p = none → G p = none := fun p e => by
    cases z : G p with
    | none => rfl
    | some o => rw [h p o z] at e; cases e
  exact ⟨s.sub, s.len, fun i p o e1 e2 => (s.obj i p o e1 e2).monoR (leG w G), s.nd, s.sep, fun p o e => s.gub p o (h p o e), fun i p e => hn p (s.gse i p e), fun p n => s.gF p fun z => n (hn p z)⟩
/-- a fresh object in the making -/
theorem RS.lay (s : RS K w st H) (hD : H D = none) (o : HO) : RS K ⟨w.F, w.e, upd w.G D o⟩ st (upd H D o) := by
  have hF : w.F D = none := by
    cases e : w.F D with
    | none => rfl
    | some o' => rw [s.sub _ _ e] at hD; cases hD
  have hE : ∀ (i : Nat) (p : Addr), w.e[i]? = some p → p ≠ D := fun i p e z => by
    obtain ⟨o', e1, r⟩ := s.at e
    exact ro_some r (by rw [z]; exact hD)
  refine ⟨fun p o' e => ?_, s.len, fun i p o' e1 e2 => ?_, s.nd, s.sep, fun p o' e => ?_, fun i p e => ?_, fun p n => ?_⟩
  · have : p ≠ D := fun z => by subst z; rw [hF] at e; cases e
    rw [upd_ne this]; exact s.sub p o' e
  · exact ((s.obj i p o' e1 e2).keep (Le.refl w) (upd_ne (hE i p e1))).monoR (leG w _)
  · have e' : upd w.G D o p = some o' := e
    by_cases z : p = D
    · subst z; rw [upd_same] at e' ⊢; exact e'
    · rw [upd_ne z] at e' ⊢; exact s.gub p o' e'
  · show upd w.G D o p = none
    rw [upd_ne (hE i p e)]; exact s.gse i p e
  · have n' : upd w.G D o p ≠ none := n
    by_cases z : p = D
    · subst z; exact hF
    · rw [upd_ne z] at n'; exact s.gF p n'
/-- it is written -/
theorem RS.relay {G : Hp} {o o' : HO} (s : RS K ⟨w.F, w.e, upd G D o⟩ st H) : RS K ⟨w.F, w.e, upd G D o'⟩ st (upd H D o') := by
  have hF : w.F D = none := s.gF D (by show upd G D o D ≠ none; rw [upd_same]; exact fun z => nomatch z)
  have hE : ∀ (i : Nat) (p : Addr), w.e[i]? = some p → p ≠ D := fun i p e z => by
    have := s.gse i p e
    subst z
    have h : upd G p o p = none := this
    rw [upd_same] at h; cases h
  refine ⟨fun p q e => ?_, s.len, fun i p q e1 e2 => ?_, s.nd, s.sep, fun p q e => ?_, fun i p e => ?_, fun p n => ?_⟩
  · have : p ≠ D := fun z => by subst z; rw [show w.F p = none from hF] at e; cases e
    rw [upd_ne this]; exact s.sub p q e
  · exact RO.monoR (w := ⟨w.F, w.e, upd G D o⟩) (w' := ⟨w.F, w.e, upd G D o'⟩) ⟨fun _ _ h => h, fun _ _ h => h⟩ ((s.obj i p q e1 e2).keep (Le.refl _) (upd_ne (hE i p e1)))
  · have e' : upd G D o' p = some q := e
    by_cases z : p = D
    · subst z; rw [upd_same] at e' ⊢; exact e'
    · rw [upd_ne z] at e' ⊢
      exact s.gub p q (by show upd G D o p = some q; rw [upd_ne z]; exact e')
  · show upd G D o' p = none
    have := s.gse i p e
    have h : upd G D o p = none := this
    rw [upd_ne (hE i p e)] at h ⊢; exact h
  · have n' : upd G D o' p ≠ none := n
    by_cases z : p = D
    · subst z; exact hF
    · rw [upd_ne z] at n'; exact s.gF p (by show upd G D o p ≠ none; rw [upd_ne z]; exact n')
/-- it is done: frozen -/
theorem RS.seal {G : Hp} {o : HO} (s : RS K ⟨w.F, w.e, upd G D o⟩ st H) (hG : G D = none) : RS K ⟨upd w.F D o, w.e, G⟩ st H := by
  have hF : w.F D = none := s.gF D (by show upd G D o D ≠ none; rw [upd_same]; exact fun z => nomatch z)
  have hE : ∀ (i : Nat) (p : Addr), w.e[i]? = some p → p ≠ D := fun i p e z => by
    have := s.gse i p e
    subst z
    have h : upd G p o p = none := this
    rw [upd_same] at h; cases h
  have ne : ∀ p, G p ≠ none → p ≠ D := fun p n z => n (by rw [z]; exact hG)
  refine ⟨fun p q e => ?_, s.len, fun i p q e1 e2 => ?_, s.nd, fun i p e => ?_, fun p q e => ?_, fun i p e => ?_, fun p n => ?_⟩
  · have e' : upd w.F D o p = some q := e
    by_cases z : p = D
    · subst z
      rw [upd_same] at e'
      exact s.gub p q (by show upd G p o p = some q; rw [upd_same]; exact e')
    · rw [upd_ne z] at e'; exact s.sub p q e'
  · refine RO.monoR (w := ⟨w.F, w.e, upd G D o⟩) (w' := ⟨upd w.F D o, w.e, G⟩) ⟨fun r o' h => ?_, fun _ _ h => h⟩ (s.obj i p q e1 e2)
    show upd w.F D o r = some o'
    have h' : w.F r = some o' := h
    rw [upd_ne (fun z => by subst z; rw [hF] at h'; cases h')]; exact h'
  · show upd w.F D o p = none
    rw [upd_ne (hE i p e)]; exact s.sep i p e
  · exact s.gub p q (by show upd G D o p = some q; rw [upd_ne (ne p (fun z => by rw [show G p = some _ from e] at z; cases z))]; exact e)
  · have := s.gse i p e
    have h : upd G D o p = none := this
    rw [upd_ne (hE i p e)] at h; exact h
  · show upd w.F D o p = none
    rw [upd_ne (ne p n)]
    exact s.gF p (by show upd G D o p ≠ none; rw [upd_ne (ne p n)]; exact n)
/-- it is done: in the store -/
theorem RS.adopt {G : Hp} {vs : List Val} {xs : List V} (s : RS K ⟨w.F, w.e, upd G D (.lst xs)⟩ st H) (hG : G D = none) (hz : vs.length ≤ sizeLine) (r : RVs K w vs xs) : RS K ⟨w.F, w.e ++ [D], G⟩ (st ++ [.lst vs]) H := by
  have hF : w.F D = none := s.gF D (by show upd G D _ D ≠ none; rw [upd_same]; exact fun z => nomatch z)
  have hD : H D = some (.lst xs) := s.gub D _ (by show upd G D _ D = _; rw [upd_same])
  have hE : ∀ (i : Nat) (p : Addr), w.e[i]? = some p → p ≠ D := fun i p e z => by
    have := s.gse i p e
    subst z
    have h : upd G p (.lst xs) p = none := this
    rw [upd_same] at h; cases h
  have ne : ∀ p, G p ≠ none → p ≠ D := fun p n z => n (by rw [z]; exact hG)
  have le : LeR w ⟨w.F, w.e ++ [D], G⟩ := ⟨fun _ _ h => h, fun i q e => by
    show (w.e ++ [D])[i]? = some q
    rw [List.getElem?_append_left (List.getElem?_eq_some_iff.mp e).1]; exact e⟩
  have at_ : ∀ (i : Nat) (q : Addr), (w.e ++ [D])[i]? = some q → (i < w.e.length ∧ w.e[i]? = some q) ∨ (i = w.e.length ∧ q = D) := fun i q e => by
    by_cases hi : i < w.e.length
    · rw [List.getElem?_append_left hi] at e; exact .inl ⟨hi, e⟩
    · rw [List.getElem?_append_right (by omega)] at e
      have h0 : i - w.e.length = 0 := by
        have := (List.getElem?_eq_some_iff.mp e).1
        simp at this; omega
      rw [h0] at e
      exact .inr ⟨by omega, by simpa using e.symm⟩
  have hl : w.e.length = st.length := s.len
  refine ⟨s.sub, by simp [hl], fun i q o e1 e2 => ?_, ?_, fun i q e => ?_, fun p o e => ?_, fun i q e => ?_, fun p n => ?_⟩
  · rcases at_ i q e1 with ⟨hi, e⟩ | ⟨rfl, rfl⟩
    · rw [List.getElem?_append_left (by rw [← hl]; exact hi)] at e2
      exact RO.monoR (w := ⟨w.F, w.e, upd G D (.lst xs)⟩) (w' := ⟨w.F, w.e ++ [D], G⟩) ⟨fun _ _ h => h, le.e⟩ (s.obj i q o e e2)
    · rw [List.getElem?_append_right (by omega), hl] at e2
      simp at e2
      subst e2
      exact ⟨xs, hD, hz, RVs.monoR le _ r⟩
  · show (w.e ++ [D]).Nodup
    rw [List.nodup_append]
    refine ⟨s.nd, by simp, fun a ha b hb z => ?_⟩
    have hb' : b = D := by simpa using hb
    subst z hb'
    obtain ⟨i, hi⟩ := List.getElem?_of_mem ha
    exact hE i _ hi rfl
  · rcases at_ i q e with ⟨_, e⟩ | ⟨_, rfl⟩
    · exact s.sep i q e
    · exact hF
  · exact s.gub p o (by show upd G D _ p = some o; rw [upd_ne (ne p (fun z => by rw [show G p = some _ from e] at z; cases z))]; exact e)
  · rcases at_ i q e with ⟨_, e⟩ | ⟨_, rfl⟩
    · have := s.gse i q e
      have h : upd G D (.lst xs) q = none := this
      rw [upd_ne (hE i q e)] at h; exact h
    · exact hG
  · exact s.gF p (by show upd G D _ p ≠ none; rw [upd_ne (ne p n)]; exact n)
/-- what holds without the object holds with it -/
theorem Post.up {α : Type} {w wd : Wd} {r : R α} {A : Wd → α → Store → Hp → Prop} {B : XK} (l : LeR w wd) (hg : ∀ p o, w.G p = some o → wd.G p = some o) (h : Post K w r A B) : Post K wd r (fun w3 a st H => A ⟨w3.F, w3.e, w.G⟩ a st H) B := by
  have lift : ∀ {w3 : Wd}, Le wd w3 → Le w ⟨w3.F, w3.e, w.G⟩ := fun l3 => ⟨fun p o e => l3.F p o (l.F p o e), fun i p e => l3.e i p (l.e i p e), rfl⟩
  cases r with
  | ok a st => exact fun w3 H' l3 s => h _ H' (lift l3) (s.less fun p o e => by rw [l3.G]; exact hg p o e)
  | err c ns vs st =>
    intro w3 cls d H' l3 s x
    obtain ⟨x1, dd, fs, x2, x3, x4, x5⟩ := x
    exact h _ cls d H' (lift l3) (s.less fun p o e => by rw [l3.G]; exact hg p o e) ⟨x1, dd, fs, x2, x3, x4, RVs.monoR (leG w3 w.G) _ x5⟩
  | stuck => exact h
theorem Post.seqN {α β : Type} {w : Wd} {r : R α} {k : α → Store → R β} {A : Wd → β → Store → Hp → Prop} {B : XK} (h : Post K w ((noErr r).then_ k) A B) : Post K w r (fun w' a st' _ => Post K w' (k a st') A B) (fun _ _ _ => False) := by
  cases r with
  | ok a st => exact fun w2 H' l2 s => (show Post K w (k a st) A B from h).mono l2
  | err c ns vs st => exact h.elim
  | stuck => exact h
end

/-! ### targets -/
def stOk (sc : Sco) (x : Str) : Bool := decide (sc.sc.names.lookup x = some .local) || (sc.df && decide (sc.sc.names.lookup x = some .cell))
mutual
def tgC (N : List Str) (sc : Sco) : Expr → MT → Bool
  | .Name x _, .v i => decide (N[i]? = some x) && stOk sc x
  | .Tuple es _ _, .t ts => tgsC N sc es ts
  | _, _ => false
def tgsC (N : List Str) (sc : Sco) : List Expr → List MT → Bool
  | [], [] => true
  | e :: es, t :: ts => tgC N sc e t && tgsC N sc es ts
  | _, _ => false
end
theorem wipe_get (σ : L2.St) (j : Nat) : ∀ vs : List Nat, (L2.wipe σ vs)[j]? = if j ∈ vs then (σ[j]?).map (fun _ => none) else σ[j]?
  | [] => by simp [L2.wipe]
  | v :: vs => by
    have ih := wipe_get σ j vs
    unfold L2.wipe
    by_cases hv : v = j
    · subst hv
      rw [if_pos (by simp)]
      by_cases hl : v < σ.length
      · rw [List.getElem?_set_self (by rw [L2.wipe_length]; exact hl)]
        simp [hl]
      · rw [List.getElem?_eq_none (by simp [L2.wipe_length]; omega), List.getElem?_eq_none (by omega)]; rfl
    · rw [List.getElem?_set_ne hv, ih]
      by_cases hj : j ∈ vs
      · rw [if_pos hj, if_pos (List.mem_cons_of_mem _ hj)]
      · rw [if_neg hj, if_neg]
        intro z
        rcases List.mem_cons.mp z with z |
                                           z
        · exact hv z.symm
        · exact hj z
theorem wipe_set {σ : L2.St} {i : Nat} {x : Option V} {vs : List Nat} (h : i ∈ vs) : L2.wipe (σ.set i x) vs = L2.wipe σ vs := by
  apply List.ext_getElem?
  intro j
  rw [wipe_get, wipe_get]
  by_cases hj : j ∈ vs
  · rw [if_pos hj, if_pos hj, List.getElem?_set]
    split
    · rename_i e
      subst e
      split
      · rename_i hl; simp [hl]
      · rename_i hl; rw [List.getElem?_eq_none (by omega)]
    · rfl
  · rw [if_neg hj, if_neg hj, List.getElem?_set_ne fun z => hj (by rw [← z]; exact h)]
section
variable {P : Prog} {Φ : Cal} {fa : Str → Addr} {k : Nat} {N : List Str} {sc : Sco} {W : WX} {X : Cx}
theorem RE.set {K : PySem.W.Frag} {w : Wd} {env : Env} {σ : L2.St} (h : RE K w env σ) (i : Nat) {v : Val} {x : V} (r : RV K w v x) : RE K w (env.set i (some v)) (σ.set i (some x)) := by
  refine ⟨by rw [List.length_set, List.length_set]; exact h.1, fun j u e => ?_⟩
  by_cases hj : i = j
  · subst hj
    have hl : i < env.length := by have := (List.getElem?_eq_some_iff.mp e).1; rwa [List.length_set] at this
    rw [List.getElem?_set_self hl] at e
    cases e
    exact ⟨x, List.getElem?_set_self (by rw [← h.1]; exact hl), r⟩
  · rw [List.getElem?_set_ne hj] at e ⊢
    exact h.2 j u e
theorem RE.wipe {K : PySem.W.Frag} {w : Wd} {env : Env} {σ : L2.St} (h : RE K w env σ) : ∀ vs : List Nat, RE K w (wipeE env vs) (L2.wipe σ vs)
  | [] => h
  | v :: vs => by
    have ih := RE.wipe h vs
    refine ⟨by unfold wipeE L2.wipe; rw [List.length_set, List.length_set]; exact ih.1, fun j u e => ?_⟩
    unfold wipeE at e
    unfold L2.wipe
    by_cases hj : v = j
    · subst hj
      have hl : v < (wipeE env vs).length := by have := (List.getElem?_eq_some_iff.mp e).1; rwa [List.length_set] at this
      rw [List.getElem?_set_self hl] at e
      cases e
    · rw [List.getElem?_set_ne hj] at e ⊢
      exact ih.2 j u e
def tgR (K : PySem.W.Frag) (t : MT) : TG := fun x σ H Q => ∃ w env st v env', RE K w env σ ∧ RS K w st H ∧ RV K w v x ∧ bindT t v env = some env' ∧ ∀ σ', RE K w env' σ' → (∀ vs : List Nat, (∀ i ∈ slots t, i ∈ vs) → L2.wipe σ' vs = L2.wipe σ vs) → Q σ' H
def tgsR (K : PySem.W.Frag) (ts : List MT) : TGs := fun xs σ H Q => ∃ w env st vs env', RE K w env σ ∧ RS K w st H ∧ RVs K w vs xs ∧ bindTs ts vs env = some env' ∧ ∀ σ', RE K w env' σ' → (∀ us : List Nat, (∀ i ∈ slotsL ts, i ∈ us) → L2.wipe σ' us = L2.wipe σ us) → Q σ' H
theorem _root_.L2.PG.imp {e : Expr} {t t' : TG} (h : PG X e t) (i : ∀ x σ H Q, t' x σ H Q → t x σ H Q) : PG X e t' := ⟨fun pins s σ H v u Q I r q => h.run pins s σ H v u Q I r (i v σ H Q q)⟩
theorem _root_.L2.PGs.imp {e : List Expr} {t t' : TGs} (h : PGs X e t) (i : ∀ x σ H Q, t' x σ H Q → t x σ H Q) : PGs X e t' := ⟨fun pins s σ H v u Q I r q => h.run pins s σ H v u Q I r (i v σ H Q q)⟩
theorem tgC_cases {e : Expr} {t : MT} (h : tgC N sc e t = true) : (∃ x p i, e = .Name x p ∧ t = .v i ∧ N[i]? = some x ∧ stOk sc x = true) ∨ ∃ es n p ts, e = .Tuple es n p ∧ t = .t ts ∧ tgsC N sc es ts = true := by
  unfold tgC at h
  split at h
  · rename_i x p i
    simp only [Bool.and_eq_true, decide_eq_true_eq] at
                                                       h
    exact .inl ⟨x, p, i, rfl, rfl, h.1, h.2⟩
  · rename_i es n p ts
    exact .inr ⟨es, n, p, ts, rfl, rfl, h⟩
  · cases h
theorem tgsC_cons {es : List Expr} {t : MT} {ts : List MT} (h : tgsC N sc es (t :: ts) = true) : ∃ e er, es = e :: er ∧ tgC N sc e t = true ∧ tgsC N sc er ts = true := by
  cases es with
  | nil => unfold tgsC at h; cases h
  | cons e er =>
    unfold tgsC at h
    simp only [Bool.and_eq_true] at
                                    h
    exact ⟨e, er, rfl, h.1, h.2⟩
theorem tgsC_nil {es : List Expr} (h : tgsC N sc es [] = true) : es = [] := by
  cases es with
  | nil => rfl
  | cons e er => unfold tgsC at h; cases h
theorem asg_cons {e : Expr} {t : MT} (h : tgC N sc e t = true) (es : List Expr) (env : PySem.Env) : assignEach (e :: es) env = (false, assign e env) :: assignEach es env := by
  rcases tgC_cases h with ⟨x, p, i, rfl, _⟩ | ⟨es', n, p, ts, rfl, _⟩ <;> rfl
theorem asg_all : ∀ (ts : List MT) (es : List Expr), tgsC N sc es ts = true → ∀ env : PySem.Env, (assignEach es env).length = es.length ∧ (assignEach es env).findIdx? (·.1) = none ∧ es.length = ts.length
  | [], es, h, env => by
    cases tgsC_nil h
    exact ⟨rfl, rfl, rfl⟩
  | t :: ts, es, h, env => by
    obtain ⟨e, er, rfl, h1, h2⟩ := tgsC_cons h
    obtain ⟨i1, i2, i3⟩ := asg_all ts er h2 env
    rw [asg_cons h1]
    refine ⟨by simp [i1], ?_, by simp [i3]⟩
    rw [List.findIdx?_cons, i2]; rfl
theorem _root_.L2.PG.either {e : Expr} {t t' : TG} (h : PG X e t) (h' : PG X e t') : PG X e (fun v σ H Q => t v σ H Q ∨ t' v σ H Q) := ⟨fun pins s σ H v u Q I r q => q.elim (h.run pins s σ H v u Q I r) (h'.run pins s σ H v u Q I r)⟩
theorem bindTs_len : ∀ (ts : List MT) (vs : List Val) (env : Env) (env' : Env), bindTs ts vs env = some env' → vs.length = ts.length := by
  intro ts
  induction ts with
  | nil => intro vs env env' e; cases vs with | nil => rfl | cons _ _ => cases e
  | cons t ts ih =>
    intro vs env env' e
    cases vs with
    | nil => cases e
    | cons v vs =>
      simp only [bindTs] at e
      split at e
      · rw [List.length_cons, List.length_cons, ih _ _ _ e]
      · cases e
mutual
theorem pg_ok (O : OkX P Φ fa k N sc W X) : ∀ (t : MT) (e : Expr), tgC N sc e t = true → PG X e (tgR X.K t)
  | .v i, e, h => by
    rcases tgC_cases h with ⟨x, p, j, rfl, ht, hN, hx⟩ | ⟨es, n, p, ts, _, ht, _⟩
    · cases ht
      have hloc : Loc X.env.scope x ∧ (X.fn x = true ∨ X.env.scope.names.lookup x = some .local) := by
        rw [O.sco]
        unfold stOk at hx
        simp only [Bool.or_eq_true, Bool.and_eq_true, decide_eq_true_eq] at hx
        rcases hx with hx | ⟨h1, h2⟩
        · exact ⟨.inl hx, .inr hx⟩
        · exact ⟨.inr h2, .inl (O.fn h1 x)⟩
      refine (pg_name (by rw [O.names]; exact O.nd) (by rw [O.names]; exact hN) hloc.1 hloc.2).imp fun x σ H Q ⟨w, env, st, v, env', hE, hS, rv, e, q⟩ => ?_
      simp only [bindT] at e
      split at e
      · cases e
        exact q _ (hE.set _ rv) fun vs hv => wipe_set (hv _ (by simp [slots]))
      · cases e
    · cases ht
  | .t ts, e, h => by
    rcases tgC_cases h with ⟨x, p, j, _, ht, _⟩ | ⟨es, n, p, ts', rfl, ht, hh⟩
    · cases ht
    · cases ht
      obtain ⟨a1, a2, a3⟩ := asg_all ts es hh X.env
      refine ((pg_tup O.calm (pgs_ok O ts es hh) a1 a2).either (pg_lst O.calm (pgs_ok O ts es hh) a1 a2)).imp fun x σ H Q ⟨w, env, st, v, env', hE, hS, rv, e, q⟩ => ?_
      cases v with
      | tup vs =>
        obtain ⟨a, xs, rfl, s, z, rr⟩ := rv
        exact .inl ⟨a, xs, rfl, SqT.mono hS.sub s, by rw [← rr.length, bindTs_len ts vs env env' e, a3], w, env, st, vs, env', hE, hS, rr, e, fun σ' h1 h2 => q σ' h1 fun us hu => h2 us fun i hi => hu i (by simpa [slots] using hi)⟩
      | lst vs =>
        obtain ⟨a, xs, rfl, s, z, rr⟩ := rv
        exact .inr ⟨a, xs, rfl, SqL.of (hS.sub _ _ s), by rw [← rr.length, bindTs_len ts vs env env' e, a3], w, env, st, vs, env', hE, hS, rr, e, fun σ' h1 h2 => q σ' h1 fun us hu => h2 us fun i hi => hu i (by simpa [slots] using hi)⟩
      | _ => cases e
theorem pgs_ok (O : OkX P Φ fa k N sc W X) : ∀ (ts : List MT) (es : List Expr), tgsC N sc es ts = true → PGs X es (tgsR X.K ts)
  | [], es, h => by
    cases tgsC_nil h
    refine pgs_nil.imp fun xs σ H Q ⟨w, env, st, vs, env', hE, hS, rv, e, q⟩ => ?_
    cases vs with
    | nil =>
      cases e
      exact ⟨rv, q σ hE fun _ _ => rfl⟩
    | cons _ _ => cases e
  | t :: ts, es, h => by
    obtain ⟨e, er, rfl, h1, h2⟩ := tgsC_cons h
    refine (pgs_cons (pg_ok O t e h1) (pgs_ok O ts er h2) (by rw [asg_cons h1]; rfl)).imp fun xs σ H Q ⟨w, env, st, vs, env', hE, hS, rv, e, q⟩ => ?_
    cases vs with
    | nil => cases e
    | cons v vs =>
      simp only [bindTs] at e
      split at e
      · rename_i env1 e1
        obtain ⟨x, xr, rfl, r1, r2⟩ := rv
        refine ⟨x, xr, rfl, w, env, st, v, env1, hE, hS, r1, e1, fun σ1 g1 g2 => ?_⟩
        exact ⟨w, env1, st, vs, env', g1, hS, r2, e, fun σ2 k1 k2 => q σ2 k1 fun us hu => (k2 us fun i hi => hu i (by simp [slotsL, hi])).trans (g2 us fun i hi => hu i (by simp [slotsL, hi]))⟩
      · cases e
end
end
end Mp
end

section
set_option Elab.async false
set_option linter.all false
set_option maxRecDepth 100000
set_option maxHeartbeats
                         1000000
namespace Mp
open PySem L2 PySem.Spec PyProof.Rows

section
variable {P : Prog} {Φ : Cal} {fa : Str → Addr} {k : Nat} {N : List Str} {sc : Sco} {W : WX} {X : Cx}
/-- no exception comes -/
abbrev Wf : WX := fun _ _ _ _ => False
theorem blk_ok (O : OkX P Φ fa k N sc W X) (s : Shared) (H : Hp) (scope : Scope) (C : Addr) (cl : List (Str × Addr)) (fp : List Addr) : OkX P Φ fa k N ⟨relS scope sc.sc, false⟩ Wf (X.blk s H scope (compEnvC scope cl C X.env) fp) := by
  refine ⟨O.calm, O.names, O.nd, fun h => (nomatch h), ?_, fun u s' h => ?_, PassesOwn.never, O.room, O.lk⟩
  · show relS scope X.env.scope = _
    rw [O.sco]
  · obtain ⟨_, _, _, _, _, _, _, _, _, _, _, _, _, _, _, _, z⟩ := h
    exact z
theorem compL_nil (f : Val → Store → R (Option Val)) (live : List (Nat × List Val)) (acc : List Val) (st : Store) : compL f live [] acc st = if stillB st live = true then .ok acc st else .stuck := rfl
theorem compL_cons (f : Val → Store → R (Option Val)) (live : List (Nat × List Val)) (x : Val) (r acc : List Val) (st : Store) : compL f live (x :: r) acc st = if stillB st live = true then (noErr (f x st)).then_ fun o st' => match o with
      | some y => compL f live r (acc ++ [y]) st'
      | none => compL f live r acc st'
    else .stuck := rfl
/-- one turn -/
def turnF (P : Prog) (Φ : Cal) (mt : MT) (melt : ME) (mifs : List ME) (env : Env) : Val → Store → R (Option Val) := fun x st => match bindT mt x (wipeE env (slots mt)) with
        | none => .stuck
        | some env' => (testL P Φ mifs env' st).then_ fun b st => match b with
          | true => (evalE P Φ melt env' st).then_ fun y st => .ok (some y) st
          | false => .ok none st
def finC (mu : Bool) (ys : List Val) (st : Store) : R Val := match mu with
      | true => .ok (.ref st.length) (st ++ [.lst ys])
      | false => .ok (.lst ys) st
def compE (P : Prog) (Φ : Cal) (mu : Bool) (mt : MT) (melt : ME) (mifs : List ME) (env : Env) (p : List Val × List (Nat × List Val)) (st : Store) : R Val :=
  if p.1.length ≤ sizeLine then (compL (turnF P Φ mt melt mifs env) p.2 p.1 [] st).then_ (finC mu) else .stuck
theorem evalE_comp (mu : Bool) (melt : ME) (mt : MT) (kd : SrcK) (mes mifs : List ME) (env : Env) (st : Store) : evalE P Φ (.comp mu melt mt kd mes mifs) env st = (srcE P Φ kd mes env st).then_ (compE P Φ mu mt melt mifs env) := rfl
theorem comp_rd {mu : Bool} {melt : ME} {mt : MT} {kd : SrcK} {mes mifs : List ME} {σ : L2.St} {H : Hp} {Q : VK} (h : rdE P Φ X.K W (.comp mu melt mt kd mes mifs) σ H Q) :
    tLc (rdS P Φ X.K W kd mes) (tgR X.K mt) (rdTw P Φ X.K Wf (testL P Φ mifs)) (rdE P Φ X.K Wf melt) (slots mt) σ H Q := by
  obtain ⟨w, env, st, hE, hS, h⟩ := h
  rw [evalE_comp] at h
  refine rd_seq hE hS h fun w1 p st1 H1 l1 hE1 hS1 h1 => fun J itw D hD => ?_
  obtain ⟨items, live⟩ := p
  simp only at itw
  have hG1 : w1.G D = none := by
    cases e : w1.G D with
    | none => rfl
    | some o => rw [hS1.gub D o e] at hD; cases hD
  replace h1 : Post X.K w1 (if items.length ≤ sizeLine then (compL (turnF P Φ mt melt mifs env) live items [] st1).then_ (finC mu) else .stuck) (AV X.K Q) fun c d H' => W c d σ H' := h1
  split at h1
  · rename_i hlen
    replace h1 : Post X.K w1 ((compL (turnF P Φ mt melt mifs env) live (items.drop 0) [] st1).then_ (finC mu)) (AV X.K Q) fun c d H' => W c d σ H' := h1
    let Inv' : Nat → Hp → Prop := fun i H => ∃ w' st' acc accV, Le w1 w' ∧ RS X.K ⟨w'.F, w'.e, upd w'.G D (.lst accV)⟩ st' H ∧ RVs X.K w' acc accV ∧ i ≤ items.length ∧ acc.length ≤ i ∧ Post X.K w' ((compL (turnF P Φ mt melt mifs env) live (items.drop i) acc st').then_ (finC mu)) (AV X.K Q) fun c d H' => W c d σ H'
    refine ⟨fun i m H => m = items.length - i ∧ Inv' i H, ⟨items.length, by omega, w1, st1, [], [], Le.refl _, hS1.lay hD _, RVs.nil, Nat.zero_le _, Nat.le_refl _, h1⟩, ?_⟩
    rintro i m H2 ⟨rfl, w', st', acc, accV, l', sD, ra, hi, hal, hp⟩
    have hG' : w'.G D = none := by rw [l'.G]; exact hG1
    have lR : LeR w1 ⟨w'.F, w'.e, upd w'.G D (.lst accV)⟩ := ⟨l'.F, l'.e⟩
    have lG : LeR w' ⟨w'.F, w'.e, upd w'.G D (.lst accV)⟩ := ⟨fun _ _ h => h, fun _ _ h => h⟩
    have hsub : ∀ q o, w'.G q = some o → upd w'.G D (.lst accV) q = some o := fun q o e => by
      rw [upd_ne fun z => by rw [z, hG'] at e; cases e]; exact e
    by_cases hlt : i < items.length
    · have hdrop : items.drop i = items[i] :: items.drop (i + 1) := List.drop_eq_getElem_cons hlt
      rw [hdrop, compL_cons] at hp
      split at hp
      · rename_i hstill0
        have hstill := still_of hstill0
        replace hp : Post X.K w' ((noErr (turnF P Φ mt melt mifs env items[i] st')).then_ fun o st => (match o with
          | some y => compL (turnF P Φ mt melt mifs env) live (items.drop (i + 1)) (acc ++ [y]) st
          | none => compL (turnF P Φ mt melt mifs env) live (items.drop (i + 1)) acc st).then_ (finC mu)) (AV X.K Q) fun c d H' => W c d σ H' := by
          cases e : noErr (turnF P Φ mt melt mifs env items[i] st') with
          | ok o st => rw [e] at hp; exact hp
          | err _ _ _ _ => rw [e] at hp; exact hp
          | stuck => rw [e] at hp; exact hp
        have hp1 := Post.seqN hp
        refine .inr ⟨itw.go _ st' H2 i lR sD hstill hlt, fun H' => ∃ m', m' < items.length - i ∧ m' = items.length - (i + 1) ∧ Inv' (i + 1) H', fun H' ⟨m', a, b, c⟩ => ⟨m', a, b, c⟩, fun x H3 hy => ?_⟩
        obtain ⟨w2, l2, s2, rx⟩ := itw.yld _ st' H2 i items[i] x H3 lR sD hstill (by simp [hlt]) hy
        have lR2 : LeR w1 w2 := lR.trans l2.r
        have l2w : LeR w' w2 := lG.trans l2.r
        have hs2 : ∀ q o, w'.G q = some o → w2.G q = some o := fun q o e => by rw [l2.G]; exact hsub q o e
        unfold turnF at hp1
        cases hb : bindT mt items[i] (wipeE env (slots mt)) with
        | none => rw [hb] at hp1; exact hp1.elim
        | some env' =>
          rw [hb] at hp1
          refine ⟨w2, _, st', items[i], env', RE.wipe (hE1.monoR lR2) (slots mt), s2, rx, hb, fun σ' hE' hw => ⟨?_, ?_⟩⟩
          · rw [hw (slots mt) fun _ h => h]
            apply List.ext_getElem?
            intro j
            rw [wipe_get, wipe_get]
            split
            · rename_i hj; cases σ[j]? <;> rfl
            · rfl
          · -- the test
            have ht := Post.up l2w hs2 (Post.seq hp1)
            refine ⟨w2, env', st', hE', s2, ht.imp fun w3 b st3 H4 l3 s3 hb3 => ?_⟩
            have l3w : LeR w' w3 := l2w.trans l3.r
            have hG3 : w3.G D = some (.lst accV) := by rw [l3.G, l2.G]; exact upd_same
            have strip3 : RS X.K ⟨w3.F, w3.e, w'.G⟩ st3 H4 := s3.less fun q o e => by rw [l3.G]; exact hs2 q o e
            have lw3 : Le w1 ⟨w3.F, w3.e, w'.G⟩ := ⟨fun q o e => l3w.F q o (l'.F q o e), fun j q e => l3w.e j q (l'.e j q e), l'.G⟩
            have full : ∀ {w4 : Wd} {st4 : Store} {H5 : Hp}, Le w3 w4 → RS X.K w4 st4 H5 → RS X.K ⟨w4.F, w4.e, upd w'.G D (.lst accV)⟩ st4 H5 := fun {w4 st4 H5} l4 s4 => by
              have : w4.G = upd w'.G D (.lst accV) := by rw [l4.G, l3.G, l2.G]
              rw [← this]; exact s4
            cases b with
            | false =>
              simp only [Bool.false_eq_true,
                                             if_false]
              have hfin2 := hb3 _ _ (Le.refl _) strip3
              exact ⟨_, by omega, rfl, _, st3, acc, accV, lw3, full (w4 := w3) (Le.refl _) s3, RVs.monoR (w := w') (w' := ⟨w3.F, w3.e, w'.G⟩) ⟨l3w.F, l3w.e⟩ _ ra, hlt, by omega, hfin2⟩
            | true =>
              simp only [if_true]
              have he := Post.up (leG w3 w'.G |> fun _ => (⟨fun _ _ h => h, fun _ _ h => h⟩ : LeR ⟨w3.F, w3.e, w'.G⟩ w3)) (fun q o e => by rw [l3.G]; exact hs2 q o e) (Post.seq hb3)
              refine ⟨w3, env', st3, hE'.monoR l3.r, s3, he.imp fun w4 y st4 H5 l4 s4 hy4 => fun yv ry => ?_⟩
              have hG4 : w4.G D = some (.lst accV) := by rw [l4.G]; exact hG3
              have hD4 : H5 D = some (.lst accV) := s4.gub D _ hG4
              have strip4 : RS X.K ⟨w4.F, w4.e, w'.G⟩ st4 H5 := s4.less fun q o e => by rw [l4.G, l3.G]; exact hs2 q o e
              have lw4 : Le w1 ⟨w4.F, w4.e, w'.G⟩ := ⟨fun q o e => l4.F q o (lw3.F q o e), fun j q e => l4.e j q (lw3.e j q e), l'.G⟩
              have hfin2 := hy4 _ _ (Le.refl _) strip4
              have ra4 : RVs X.K ⟨w4.F, w4.e, w'.G⟩ acc accV := RVs.monoR (w := w') (w' := ⟨w4.F, w4.e, w'.G⟩) ⟨fun q o e => l4.F q o (l3w.F q o e), fun j q e => l4.e j q (l3w.e j q e)⟩ _ ra
              refine ⟨accV, hD4, by rw [← ra.length]; omega, _, by omega, rfl, _, st4, acc ++ [y], accV ++ [yv], lw4, ?_, RVs.append ra4 (.cons (RV.monoR (leG w4 w'.G) _ ry) .nil), hlt, by rw [List.length_append, List.length_singleton]; omega, hfin2⟩
              exact RS.relay (w := w4) (full (w4 := w4) l4 s4)
      · exact hp.elim
    · have hi' : i = items.length := by omega
      subst hi'
      rw [List.drop_length, compL_nil] at hp
      split at hp
      · rename_i hstill0
        have hstill := still_of hstill0
        refine .inl ⟨itw.stop _ st' H2 _ lR sD hstill (Nat.le_refl _), ?_⟩
        cases mu with
        | false =>
          have lf : Le w' ⟨upd w'.F D (.lst accV), w'.e, w'.G⟩ := ⟨fun q o e => by
            have hF : w'.F D = none := sD.gF D (by show upd w'.G D _ D ≠ none; rw [upd_same]; exact fun z => nomatch z)
            show upd w'.F D _ q = some o
            rw [upd_ne fun z => by rw [z, hF] at e; cases e]; exact e, fun _ _ h => h, rfl⟩
          exact hp _ H2 lf (sD.seal hG') _ ⟨D, accV, rfl, upd_same, by omega, RVs.mono lf _ ra⟩
        | true =>
          have lf : Le w' ⟨w'.F, w'.e ++ [D], w'.G⟩ := RS.push_le D
          refine hp _ H2 lf (sD.adopt hG' (by omega) ra) _ ⟨D, rfl, ?_⟩
          have : w'.e.length = st'.length := sD.len
          show (w'.e ++ [D])[st'.length]? = some D
          rw [← this]; simp
      · exact hp.elim
  · exact h1.elim
end
end Mp
end

section
set_option Elab.async false
set_option linter.all false
set_option maxRecDepth 100000
set_option maxHeartbeats
                         1000000
namespace Mp
open PySem L2 PySem.Spec PyProof.Rows

/-! ### the text's expressions against the small ones -/
def noSt : Expr → Bool
  | .Starred _ _ => false
  | _ => true
def plain (es : List Expr) : Bool := es.all noSt
def noSup : Expr → Bool
  | .Call (.Name x _) _ _ _ => !(x == ("super" : Str))
  | _ => true
def kwsC : List Str → List Keyword → Bool
  | [], [] => true
  | n :: ns, ⟨some m, _, _⟩ :: kws => decide (n = m) && kwsC ns kws
  | _, _ => false
def plainIx : Expr → Bool
  | .Slice _ _ _ _ => false
  | _ => true
def noSet : Expr → Bool
  | .Set _ _ _ => false
  | _ => true
def clsLC (P : Prog) (sc : Sco) : List Expr → List Str → Bool
  | [], [] => true
  | .Name x _ :: es, t :: ts => decide (x = t) && clsOk P sc t && clsLC P sc es ts
  | _, _ => false
def bmNames : List String := ["append", "extend", "clear", "join"]
def isStr : ME → Bool
  | .str _ => true
  | _ => false
section
variable (P : Prog) (N : List Str)
def ownOf (tg : MT) : List (Str × Nat) := (slots tg).map fun i => (N.getD i "", i)
mutual
def ck : ME → Bool → Sco → Expr → Bool
  | .var i, _, sc, e => match e with
    | .Name x _ => decide (N[i]? = some x) && vis sc x && nmOk x
    | _ => false
  | .non, _, _, e => match e with
    | .Constant .none _ _ => true
    | _ => false
  | .bl b, _, _, e => match e with
    | .Constant (.bool c) _ _ => decide (b = c)
    | _ => false
  | .int i, _, _, e => match e with
    | .Constant (.int j) _ _ => decide (i = j)
    | _ => false
  | .str x, _, _, e => match e with
    | .Constant (.str y) _ _ => decide (x = y) && decide (x.length ≤ 65536) && PyData.strOk x
    | _ => false
  | .glob x, _, sc, e => match e with
    | .Name y _ => decide (x = y) && isGl sc x && nmOk x
    | _ => false
  | .bin op a b, _, sc, e => match e with
    | .BinOp x o y _ => decide (o = pyop op) && ck a false sc x && ck b false sc y
    | _ => false
  | .neg a, _, sc, e => match e with
    | .UnaryOp .USub x _ => ck a false sc x
    | _ => false
  | .cmp op a b, _, sc, e => match e with
    | .Compare x [o] [y] _ => decide (o = pycop op) && !behindInMarks o y && ck a false sc x && ck b false sc y
    | _ => false
  | .chain o1 o2 a b c, _, sc, e => match e with
    | .Compare x [p, q] [y, z] _ => decide (p = pycop o1) && decide (q = pycop o2) && !lastMarks [p, q] [y, z] && ck a false sc x && ck b false sc y && ck c false sc z
    | _ => false
  | .and ms, tt, sc, e => match e with
    | .BoolOp .And es _ => !es.isEmpty && cks ms tt sc es
    | _ => false
  | .or ms, tt, sc, e => match e with
    | .BoolOp .Or es _ => !es.isEmpty && cks ms tt sc es
    | _ => false
  | .not a, tt, sc, e => match e with
    | .UnaryOp .Not x _ => ck a tt sc x
    | _ => false
  | .ite c a b, _, sc, e => match e with
    | .IfExp x y z _ => ck c true sc x && ck a false sc y && ck b false sc z
    | _ => false
  | .tup ms, _, sc, e => match e with
    | .Tuple es _ _ => decide (ms.length ≤ 1000) && plain es && cks ms false sc es
    | _ => false
  | .lst _ ms, _, sc, e => match e with
    | .List es _ => decide (ms.length ≤ 1000) && plain es && cks ms false sc es
    | _ => false
  | .ix a b, _, sc, e => match e with
    | .Subscript x y _ => plainIx y && ck a false sc x && ck b false sc y
    | _ => false
  | .slc a lo hi, _, sc, e => match e with
    | .Subscript x (.Slice l h none _) _ => ck a false sc x && ckO lo sc l && ckO hi sc h
    | _ => false
  | .attr a f, _, sc, e => match e with
    | .Attribute x g _ => decide (f = g) && noSup x && ck a false sc x
    | _ => false
  | .call _ f ms kn ks, _, sc, e => match e with
    | .Call (.Name x _) es kws _ => decide (x = f) && isGl sc f && nmOk f && P.isg f && (P.bind f ms.length kn).isSome && plain es && kwsC kn kws && decide (ks.length = kn.length) && cks ms false sc es && cks ks false sc (kws.map (·.value))
    | _ => false
  | .make _ f ms kn ks, _, sc, e => match e with
    | .Call (.Name x _) es kws _ => decide (x = f) && isGl sc f && nmOk f && P.isc f && plain es && kwsC kn kws && decide (ks.length = kn.length) && cks ms false sc es && cks ks false sc (kws.map (·.value))
    | _ => false
  | .meth _ a f ms, _, sc, e => match e with
    | .Call (.Attribute x g ap) es [] pos => decide (f = g) && (ap.endLine == pos.line) && decide (es.length < 30) && noSup x && plain es && ck a false sc x && cks ms false sc es
    | _ => false
  | .bcall f ms, _, sc, e => match e with
    | .Call (.Name x _) (y :: ys) [] _ => decide (x = Str.ofString f) && decide (f ∈ biNames) && (bootBuiltins x == some (bval f)) && isGl sc x && nmOk x && plain (y :: ys) && cks ms false sc (y :: ys)
    | _ => false
  | .bmeth f a ms, _, sc, e => match e with
    | .Call (.Attribute x g ap) es [] pos => decide (g = Str.ofString f) && decide (f ∈ bmNames) && (ap.endLine == pos.line) && decide (es.length < 30) && noSup x && plain es && ck a false sc x && cks ms false sc es
    | _ => false
  | .isin a ts, _, sc, e => match e with
    | .Call (.Name x _) [y, c] [] _ => decide (x = "isinstance") && isGl sc x && noSt y && ck a false sc y && (match c, ts with
      | .Name t' _, [t] => decide (t' = t) && clsOk P sc t
      | .Tuple es _ _, t :: ts => decide (ts.length < 1000) && clsLC P sc es (t :: ts)
      | _, _ => false)
    | _ => false
  | .comp _ elt tg k ms ifs, _, sc, e => match e with
    | .ListComp y [⟨t, it, cs, 0⟩] scope _ => noSet it && ckSrc k ms sc it t && blkC N sc.sc scope (ownOf N tg) && tgC N ⟨relS scope sc.sc, false⟩ t tg && ckIf ifs ⟨relS scope sc.sc, false⟩ cs && ck elt false ⟨relS scope sc.sc, false⟩ y
    | _ => false
  | .fstr ms, _, sc, e => match e with
    | .JoinedStr (v1 :: v2 :: rest) _ => ckF ms sc (v1 :: v2 :: rest)
    | _ => false
  | .own1 o a, _, sc, e => match e with
    | .Call (.Name x _) [y] [] _ => decide (x = if o = true then "len" else "repr") && isGl sc x && noSt y && ck a false sc y
    | _ => false
  | .lcopy a, _, sc, e => match e with
    | .Call (.Name x _) [y] [] _ => decide (x = "list") && isGl sc x && noSt y && ck a false sc y
    | _ => false
  | .own2 ne a b, _, sc, e => match e with
    | .Compare x [o] [y] _ => decide (o = pycop (if ne = true then .ne else .eq)) && !behindInMarks o y && ck a false sc x && ck b false sc y
    | _ => false
def cks : List ME → Bool → Sco → List Expr → Bool
  | [], _, _, es => match es with
    | [] => true
    | _ => false
  | m :: ms, tt, sc, es => match es with
    | e :: es => ck m tt sc e && cks ms tt sc es
    | _ => false
def ckO : List ME → Sco → Option Expr → Bool
  | [], _, o => o.isNone
  | m :: ms, sc, o => match o with
    | some e => ms.isEmpty && ck m false sc e
    | none => false
def ckF : List ME → Sco → List Expr → Bool
  | [], _, es => match es with
    | [] => true
    | _ => false
  | m :: ms, sc, es => match es with
    | .FormattedValue x (-1) none _ :: es => ck m false sc x && ckF ms sc es
    | e :: es => isStr m && ck m false sc e && ckF ms sc es
    | _ => false
def ckSrc : SrcK → List ME → Sco → Expr → Expr → Bool
  | k, [], _, _, _ => false
  | k, m :: ms, sc, e, t => match k with
    | .seq => ms.isEmpty && ck m false sc e
    | .range1 => match e with
      | .Call (.Name x _) [a] [] _ => ms.isEmpty && decide (x = "range") && isGl sc x && noSt a && ck m false sc a
      | _ => false
    | .enum => match e, t with
      | .Call (.Name x _) [a] [] _, .Tuple _ _ _ => ms.isEmpty && decide (x = "enumerate") && isGl sc x && noSt a && ck m false sc a
      | _, _ => false
    | .range3 => match e with
      | .Call (.Name x _) [a, b, c] [] _ => decide (x = "range") && isGl sc x && noSt a && noSt b && noSt c && ck m false sc a && cks ms false sc [b, c]
      | _ => false
    | .range2 => match e with
      | .Call (.Name x _) [a, b] [] _ => decide (x = "range") && isGl sc x && noSt a && noSt b && ck m false sc a && cks ms false sc [b]
      | _ => false
    | .zip => match e, t with
      | .Call (.Name x _) [a, b] [] _, .Tuple _ _ _ => decide (x = "zip") && isGl sc x && noSt a && noSt b && ck m false sc a && cks ms false sc [b]
      | _, _ => false
def ckIf : List ME → Sco → List Expr → Bool
  | [], _, es => es.isEmpty
  | m :: ms, sc, es => match es with
    | [e] => ms.isEmpty && ck m true sc e
    | _ => false
end
end
end Mp
end

section
set_option Elab.async false
set_option linter.all false
set_option maxRecDepth 100000
set_option maxHeartbeats
                         1000000
namespace Mp
open PySem L2 PySem.Spec PyProof.Rows

/-! ### what the checks give -/
theorem starEach_cons {e : Expr} (h : noSt e = true) (es : List Expr) (env : PySem.Env) : starEach (e :: es) env = (false, eval e env) :: starEach es env := by
  cases e <;> first | rfl | cases h
theorem plain_ns : ∀ {es : List Expr}, plain es = true → NoStar es
  | [], _, _ => rfl
  | e :: es, h, env => by
    unfold plain at h
    rw [List.all_cons, Bool.and_eq_true] at
                                            h
    rw [starEach_cons h.1, plain_ns (es := es) h.2 env]; rfl
theorem plain_tail {es : List Expr} (h : plain es = true) : ∀ e es', es = e :: es' → NoStar es' := fun e es' he => by
  subst he
  unfold plain at h
  rw [List.all_cons, Bool.and_eq_true] at
                                          h
  exact plain_ns h.2
theorem noSup_ok {o : Expr} (h : noSup o = true) (f : Str) (env : PySem.Env) (whole : Sem Value) : attributeBase o f env whole = whole := by
  unfold attributeBase
  split
  · rename_i x p pos
    have hx : (x == ("super" : Str)) = false := by simpa [noSup] using h
    have : (x != ("super" : Str)) = true := by rw [bne, hx]; rfl
    rw [this]
    simp
  · rfl
theorem kwsC_ok : ∀ {kn : List Str} {kws : List Keyword}, kwsC kn kws = true → KwsOk kn kws
  | [], [], _ => .nil
  | n :: ns, ⟨some m, e, p⟩ :: kws, h => by
    unfold kwsC at h
    rw [Bool.and_eq_true, decide_eq_true_eq] at
                                                h
    obtain ⟨rfl, h⟩ := h
    exact .cons (kwsC_ok h)
  | [], _ :: _, h => by unfold kwsC at h; cases h
  | _ :: _, [], h => by unfold kwsC at h; cases h
  | _ :: _, ⟨none, _, _⟩ :: _, h => by unfold kwsC at h; cases h
theorem kwsC_len {kn : List Str} {kws : List Keyword} (h : KwsOk kn kws) : kws.length = kn.length := by
  induction h with
  | nil => rfl
  | cons _ ih => simp [ih]
theorem plainIx_ok {b : Expr} (h : plainIx b = true) : PlainIx b := fun o i => by
  cases b <;> first | rfl | cases h
theorem noSet_ok {e : Expr} (h : noSet e = true) (env : PySem.Env) (x : Value) : foldedSetIterable e env x = pure x := by
  cases e <;> first | rfl | cases h
section
variable {P : Prog} {Φ : Cal} {fa : Str → Addr} {k : Nat} {N : List Str} {sc : Sco} {W : WX} {X : Cx}
theorem clsLC_ok : ∀ {es : List Expr} {ts : List Str}, clsLC P sc es ts = true → ClsL P sc es ts
  | [], [], _ => .nil
  | [], _ :: _, h => by unfold clsLC at h; cases h
  | e :: es, [], h => by cases e <;> (unfold clsLC at h; cases h)
  | e :: es, t :: ts, h => by
    cases e <;> first | (unfold clsLC at h; cases h; done) | skip
    rename_i x p
    unfold clsLC at h
    simp only [Bool.and_eq_true, decide_eq_true_eq] at
                                                       h
    obtain ⟨⟨rfl, h1⟩, h2⟩ := h
    have r := clsLC_ok h2
    have hp : ∀ {es : List Expr} {ts : List Str}, ClsL P sc es ts → plain es = true := by
      intro es ts r
      induction r with
      | nil => rfl
      | cons _ _ _ _ ih => unfold plain; rw [List.all_cons]; unfold plain at ih; rw [ih]; rfl
    have hq := hp r
    exact .cons h1 (plain_ns (by unfold plain; rw [List.all_cons]; unfold plain at hq; rw [hq]; rfl)) (plain_ns hq) r
theorem pt_vac {e : Expr} {m : ME} (hm : ∀ env st, evalT P Φ m env st = .stuck) : PT X e (rdT P Φ X.K W m) := ⟨fun pins s σ H Q I ⟨w, env, st, hE, hS, h⟩ => by rw [hm] at h; exact h.elim⟩
def Snd (P : Prog) (Φ : Cal) (fa : Str → Addr) (k : Nat) (N : List Str) (m : ME) : Prop := ∀ (sc : Sco) (W : WX) (X : Cx), OkX P Φ fa k N sc W X → ∀ (e : Expr) (tt : Bool), ck P N m tt sc e = true → (tt = false → PE X e (rdE P Φ X.K W m)) ∧ (tt = true → PT X e (rdT P Φ X.K W m))
def Snds (P : Prog) (Φ : Cal) (fa : Str → Addr) (k : Nat) (N : List Str) (ms : List ME) : Prop := ∀ m ∈ ms, Snd P Φ fa k N m
/-- a value alone -/
theorem Snd.v {m : ME} (hm : ∀ env st, evalT P Φ m env st = .stuck) (h : ∀ (sc : Sco) (W : WX) (X : Cx), OkX P Φ fa k N sc W X → ∀ (e : Expr) (tt : Bool), ck P N m tt sc e = true → PE X e (rdE P Φ X.K W m)) : Snd P Φ fa k N m := fun sc W X O e tt he => ⟨fun _ => h sc W X O e tt he, fun _ => pt_vac hm⟩
/-- a value, its truth -/
theorem Snd.t {m : ME} (hm : ∀ env st, evalT P Φ m env st = (evalE P Φ m env st).then_ fun v st => R.of (truV st v) st)
    (h : ∀ (sc : Sco) (W : WX) (X : Cx), OkX P Φ fa k N sc W X → ∀ (e : Expr) (tt : Bool), ck P N m tt sc e = true → PE X e (rdE P Φ X.K W m) ∧ ∀ whole, isTrue e X.env whole = (do let v ← whole; standAt e.pos; holding [v] (truthy v))) : Snd P Φ fa k N m := fun sc W X O e tt he => by
  obtain ⟨h1, h2⟩ := h sc W X O e tt he
  exact ⟨fun _ => h1, fun _ => snd_truth h2 h1 hm⟩
theorem Snds.es {ms : List ME} (h : Snds P Φ fa k N ms) : ∀ {sc : Sco} {W : WX} {X : Cx}, OkX P Φ fa k N sc W X → ∀ {es : List Expr}, cks P N ms false sc es = true → PEs X P Φ W es ms := by
  induction ms with
  | nil =>
    intro sc W X O es he
    cases es with
    | nil => exact .nil
    | cons e es => cases he
  | cons m ms ih =>
    intro sc W X O es he
    cases es with
    | nil => cases he
    | cons e es =>
      replace he : (ck P N m false sc e && cks P N ms false sc es) = true := he
      rw [Bool.and_eq_true] at he
      exact .cons ((h m (by simp) sc W X O e false he.1).1 rfl) (ih (fun m hm => h m (List.mem_cons_of_mem _ hm)) O he.2)
theorem Snds.ts {ms : List ME} (h : Snds P Φ fa k N ms) : ∀ {sc : Sco} {W : WX} {X : Cx}, OkX P Φ fa k N sc W X → ∀ {es : List Expr}, cks P N ms true sc es = true → PTs2 X P Φ W es ms := by
  induction ms with
  | nil =>
    intro sc W X O es he
    cases es with
    | nil => exact .nil
    | cons e es => cases he
  | cons m ms ih =>
    intro sc W X O es he
    cases es with
    | nil => cases he
    | cons e es =>
      replace he : (ck P N m true sc e && cks P N ms true sc es) = true := he
      rw [Bool.and_eq_true] at he
      exact .cons ((h m (by simp) sc W X O e true he.1).2 rfl) (ih (fun m hm => h m (List.mem_cons_of_mem _ hm)) O he.2)
theorem PEs.pa {es : List Expr} {ms : List ME} (h : PEs X P Φ W es ms) (hp : plain es = true) : PA X es (rdA P Φ X.K W ms) := by
  induction h with
  | nil => exact snd_nil
  | cons h r ih =>
    unfold plain at hp
    rw [List.all_cons, Bool.and_eq_true] at hp
    exact snd_cons (starEach_cons hp.1 _ _) h (ih hp.2)
theorem PEs.nil_of {es : List Expr} {ms : List ME} (h : PEs X P Φ W es ms) : es = [] → ms = [] := fun e => by
  subst e
  cases h; rfl
theorem PEs.zip {es : List Expr} {ms : List ME} (h : PEs X P Φ W es ms) : ∀ p ∈ es.zip ms, PE X p.1 (rdE P Φ X.K W p.2) := by
  induction h with
  | nil => intro p hp; cases hp
  | cons h r ih =>
    intro p hp
    rcases List.mem_cons.mp hp with rfl |
                                          hp
    · exact h
    · exact ih p hp

/-! ### each construct -/
theorem s_var (i : Nat) : Snd P Φ fa k N (.var i) := by
  refine Snd.t (fun env st => ?_) fun sc W X O e tt h => ?_
  · show (match env[i]? with | some (some v) => R.of (truV st v) st | _ => .stuck) = R.then_ (match env[i]? with | some (some v) => R.ok v st | _ => .stuck) _
    split <;> rfl
  · unfold ck at h
    split at h
    · simp only [Bool.and_eq_true, decide_eq_true_eq] at
                                                         h
      exact ⟨snd_var O h.1.1 h.1.2 h.2, fun _ => rfl⟩
    · cases h
theorem s_non : Snd P Φ fa k N .non := Snd.v (fun _ _ => rfl) fun sc W X O e tt h => by
  unfold ck at h
  split at h
  · exact snd_const (v := .non) pe_non (fun _ _ => rfl) fun _ => rfl
  · cases h
theorem s_bl (b : Bool) : Snd P Φ fa k N (.bl b) := Snd.t (fun _ _ => rfl) fun sc W X O e tt h => by
  unfold ck at h
  split at h
  · simp only [decide_eq_true_eq] at h
    subst h
    exact ⟨snd_const (v := .bl b) pe_bl (fun _ _ => rfl) fun _ => rfl, fun _ => rfl⟩
  · cases h
theorem s_int (i : Int) : Snd P Φ fa k N (.int i) := Snd.v (fun _ _ => rfl) fun sc W X O e tt h => by
  unfold ck at h
  split at h
  · simp only [decide_eq_true_eq] at h
    subst h
    exact snd_const (v := .int i) pe_int (fun _ _ => rfl) fun _ => rfl
  · cases h
theorem s_str (x : Str) : Snd P Φ fa k N (.str x) := Snd.v (fun _ _ => rfl) fun sc W X O e tt h => by
  unfold ck at h
  split at h
  · simp only [Bool.and_eq_true, decide_eq_true_eq] at
                                                       h
    obtain ⟨⟨rfl, h1⟩, h2⟩ := h
    exact snd_const (v := .str x) pe_str (fun _ _ => rfl) fun _ => ⟨rfl, Nat.le_trans h1 (by rw [sizeLine_eq]; omega), h2⟩
  · cases h
theorem s_glob (x : Str) : Snd P Φ fa k N (.glob x) := Snd.v (fun _ _ => rfl) fun sc W X O e tt h => by
  unfold ck at h
  split at h
  · simp only [Bool.and_eq_true, decide_eq_true_eq] at
                                                       h
    obtain ⟨⟨rfl, h1⟩, h2⟩ := h
    exact snd_glob O h1 h2
  · cases h
theorem s_bin {op : Bop} {a b : ME} (ha : Snd P Φ fa k N a) (hb : Snd P Φ fa k N b) : Snd P Φ fa k N (.bin op a b) := Snd.v (fun _ _ => rfl) fun sc W X O e tt h => by
  unfold ck at h
  split at h
  · simp only [Bool.and_eq_true, decide_eq_true_eq] at
                                                       h
    exact snd_bin h.1.1 ((ha sc W X O _ _ h.1.2).1 rfl) ((hb sc W X O _ _ h.2).1 rfl)
  · cases h
theorem s_neg {a : ME} (ha : Snd P Φ fa k N a) : Snd P Φ fa k N (.neg a) := Snd.v (fun _ _ => rfl) fun sc W X O e tt h => by
  unfold ck at h
  split at h
  · exact snd_neg ((ha sc W X O _ _ h).1 rfl)
  · cases h
theorem s_cmp {op : Cop} {a b : ME} (ha : Snd P Φ fa k N a) (hb : Snd P Φ fa k N b) : Snd P Φ fa k N (.cmp op a b) := fun sc W X O e tt h => by
  unfold ck at h
  split at h
  · simp only [Bool.and_eq_true, decide_eq_true_eq, Bool.not_eq_true'] at h
    have h1 := (ha sc W X O _ _ h.1.2).1 rfl
    have h2 := (hb sc W X O _ _ h.2).1 rfl
    exact ⟨fun _ => snd_cmp O h.1.1.1 h.1.1.2 h1 h2, fun _ => snd_cmpT O h.1.1.1 h.1.1.2 h1 h2⟩
  · cases h
theorem s_chain {o1 o2 : Cop} {a b c : ME} (ha : Snd P Φ fa k N a) (hb : Snd P Φ fa k N b) (hc : Snd P Φ fa k N c) : Snd P Φ fa k N (.chain o1 o2 a b c) := fun sc W X O e tt h => by
  unfold ck at h
  split at h
  · simp only [Bool.and_eq_true, decide_eq_true_eq, Bool.not_eq_true'] at h
    have h1 := (ha sc W X O _ _ h.1.1.2).1 rfl
    have h2 := (hb sc W X O _ _ h.1.2).1 rfl
    have h3 := (hc sc W X O _ _ h.2).1 rfl
    exact ⟨fun _ => snd_chain O h.1.1.1.1.1 h.1.1.1.1.2 h.1.1.1.2 h1 h2 h3, fun _ => snd_chainT O h.1.1.1.1.1 h.1.1.1.1.2 h.1.1.1.2 h1 h2 h3⟩
  · cases h
theorem ne_of {α : Type} {es : List α} (h : (!es.isEmpty) = true) : es ≠ [] := fun z => by subst z; cases h
theorem s_and {ms : List ME} (hm : Snds P Φ fa k N ms) : Snd P Φ fa k N (.and ms) := fun sc W X O e tt h => by
  unfold ck at h
  split at h
  · simp only [Bool.and_eq_true] at h
    cases tt with
    | false => exact ⟨fun _ => snd_and (hm.es O h.2) (ne_of h.1), fun z => nomatch z⟩
    | true => exact ⟨fun z => (nomatch z), fun _ => (snd_andT (hm.ts O h.2) (ne_of h.1)).pt⟩
  · cases h
theorem s_or {ms : List ME} (hm : Snds P Φ fa k N ms) : Snd P Φ fa k N (.or ms) := fun sc W X O e tt h => by
  unfold ck at h
  split at h
  · simp only [Bool.and_eq_true] at h
    cases tt with
    | false => exact ⟨fun _ => snd_or (hm.es O h.2) (ne_of h.1), fun z => nomatch z⟩
    | true => exact ⟨fun z => (nomatch z), fun _ => (snd_orT (hm.ts O h.2) (ne_of h.1)).pt⟩
  · cases h
theorem s_not {a : ME} (ha : Snd P Φ fa k N a) : Snd P Φ fa k N (.not a) := fun sc W X O e tt h => by
  unfold ck at h
  split at h
  · obtain ⟨h1, h2⟩ := ha sc W X O _ _ h
    exact ⟨fun z => snd_not (h1 z), fun z => snd_notT (h2 z)⟩
  · cases h
theorem s_ite {c a b : ME} (hc : Snd P Φ fa k N c) (ha : Snd P Φ fa k N a) (hb : Snd P Φ fa k N b) : Snd P Φ fa k N (.ite c a b) := Snd.v (fun _ _ => rfl) fun sc W X O e tt h => by
  unfold ck at h
  split at h
  · simp only [Bool.and_eq_true] at h
    exact snd_ite ((hc sc W X O _ _ h.1.1).2 rfl) ((ha sc W X O _ _ h.1.2).1 rfl) ((hb sc W X O _ _ h.2).1 rfl)
  · cases h
theorem s_tup {ms : List ME} (hm : Snds P Φ fa k N ms) : Snd P Φ fa k N (.tup ms) := Snd.v (fun _ _ => rfl) fun sc W X O e tt h => by
  unfold ck at h
  split at h
  · simp only [Bool.and_eq_true, decide_eq_true_eq] at
                                                       h
    exact snd_tup h.1.1 (evalEs_len ms) ((hm.es O h.2).pa h.1.2)
  · cases h
theorem s_lst {mu : Bool} {ms : List ME} (hm : Snds P Φ fa k N ms) : Snd P Φ fa k N (.lst mu ms) := Snd.v (fun _ _ => rfl) fun sc W X O e tt h => by
  unfold ck at h
  split at h
  · simp only [Bool.and_eq_true, decide_eq_true_eq] at
                                                       h
    exact snd_lst h.1.1 (evalEs_len ms) ((hm.es O h.2).pa h.1.2)
  · cases h
theorem s_ix {a b : ME} (ha : Snd P Φ fa k N a) (hb : Snd P Φ fa k N b) : Snd P Φ fa k N (.ix a b) := Snd.t (fun _ _ => rfl) fun sc W X O e tt h => by
  unfold ck at h
  split at h
  · simp only [Bool.and_eq_true] at h
    exact ⟨snd_ix (plainIx_ok h.1.1) ((ha sc W X O _ _ h.1.2).1 rfl) ((hb sc W X O _ _ h.2).1 rfl), fun _ => rfl⟩
  · cases h
theorem Snds.o {ms : List ME} (h : Snds P Φ fa k N ms) (O : OkX P Φ fa k N sc W X) {o : Option Expr} (he : ckO P N ms sc o = true) : PB1 X P Φ W o ms := by
  cases ms with
  | nil =>
    have : o.isNone = true := he
    cases o with
    | none => exact .no
    | some _ => cases this
  | cons m ms =>
    cases o with
    | none => cases he
    | some e =>
      replace he : (ms.isEmpty && ck P N m false sc e) = true := he
      rw [Bool.and_eq_true] at he
      cases ms with
      | nil => exact .one ((h m (by simp) sc W X O e false he.2).1 rfl)
      | cons _ _ => cases he.1
theorem s_slc {a : ME} {lo hi : List ME} (ha : Snd P Φ fa k N a) (hl : Snds P Φ fa k N lo) (hh : Snds P Φ fa k N hi) : Snd P Φ fa k N (.slc a lo hi) := Snd.v (fun _ _ => rfl) fun sc W X O e tt h => by
  unfold ck at h
  split at h
  · simp only [Bool.and_eq_true] at h
    exact snd_slc ((ha sc W X O _ _ h.1.1).1 rfl) (hl.o O h.1.2) (hh.o O h.2)
  · cases h
theorem s_attr {a : ME} {f : Str} (ha : Snd P Φ fa k N a) : Snd P Φ fa k N (.attr a f) := Snd.t (fun _ _ => rfl) fun sc W X O e tt h => by
  unfold ck at h
  split at h
  · simp only [Bool.and_eq_true, decide_eq_true_eq] at
                                                       h
    obtain ⟨⟨rfl, h1⟩, h2⟩ := h
    exact ⟨snd_attr O (noSup_ok h1 _ _ _) ((ha sc W X O _ _ h2).1 rfl), fun _ => rfl⟩
  · cases h
theorem s_call {m : Mode} {f : Str} {ms ks : List ME} {kn : List Str} (hm : Snds P Φ fa k N ms) (hk : Snds P Φ fa k N ks) : Snd P Φ fa k N (.call m f ms kn ks) := Snd.t (fun _ _ => rfl) fun sc W X O e tt h => by
  unfold ck at h
  split at h
  · simp only [Bool.and_eq_true, decide_eq_true_eq] at
                                                       h
    obtain ⟨⟨⟨⟨⟨⟨⟨⟨⟨rfl, h1⟩, h2⟩, h3⟩, h4⟩, h5⟩, h6⟩, h7⟩, h8⟩, h9⟩ := h
    have ko := kwsC_ok h6
    exact ⟨snd_call O h1 h2 h3 h4 (plain_ns h5) (plain_tail h5) ko h7 (hm.es O h8).nil_of ((hm.es O h8).pa h5) (snd_kws ko (hk.es O h9).zip (by rw [kwsC_len ko, h7])), fun _ => rfl⟩
  · cases h
theorem s_make {m : Mode} {f : Str} {ms ks : List ME} {kn : List Str} (hm : Snds P Φ fa k N ms) (hk : Snds P Φ fa k N ks) : Snd P Φ fa k N (.make m f ms kn ks) := Snd.v (fun _ _ => rfl) fun sc W X O e tt h => by
  unfold ck at h
  split at h
  · simp only [Bool.and_eq_true, decide_eq_true_eq] at
                                                       h
    obtain ⟨⟨⟨⟨⟨⟨⟨⟨rfl, h1⟩, h2⟩, h3⟩, h5⟩, h6⟩, h7⟩, h8⟩, h9⟩ := h
    have ko := kwsC_ok h6
    exact snd_make O h1 h2 h3 (plain_ns h5) (plain_tail h5) ko h7 (hm.es O h8).nil_of ((hm.es O h8).pa h5) (snd_kws ko (hk.es O h9).zip (by rw [kwsC_len ko, h7]))
  · cases h
theorem s_meth {m : Mode} {a : ME} {f : Str} {ms : List ME} (ha : Snd P Φ fa k N a) (hm : Snds P Φ fa k N ms) : Snd P Φ fa k N (.meth m a f ms) := Snd.t (fun _ _ => rfl) fun sc W X O e tt h => by
  unfold ck at h
  split at h
  · simp only [Bool.and_eq_true, decide_eq_true_eq] at
                                                       h
    obtain ⟨⟨⟨⟨⟨⟨rfl, h1⟩, h2⟩, h3⟩, h5⟩, h6⟩, h7⟩ := h
    exact ⟨snd_meth O h1 h2 (noSup_ok h3 _ _ _) (plain_ns h5) (plain_tail h5) (hm.es O h7).nil_of ((ha sc W X O _ _ h6).1 rfl) ((hm.es O h7).pa h5), fun _ => rfl⟩
  · cases h
theorem s_bcall {f : String} {ms : List ME} (hm : Snds P Φ fa k N ms) : Snd P Φ fa k N (.bcall f ms) := Snd.t (fun _ _ => rfl) fun sc W X O e tt h => by
  unfold ck at h
  split at h
  · simp only [Bool.and_eq_true, decide_eq_true_eq] at
                                                       h
    obtain ⟨⟨⟨⟨⟨⟨h1, h2⟩, h3⟩, h4⟩, h5⟩, h6⟩, h7⟩ :=
                                                     h
    exact ⟨snd_bcall O h1 h2 (eq_of_beq h3) h4 h5 (plain_ns h6) (plain_tail h6 _ _ rfl) ((hm.es O h7).pa h6), fun _ => rfl⟩
  · cases h
theorem s_bmeth {f : String} {a : ME} {ms : List ME} (ha : Snd P Φ fa k N a) (hm : Snds P Φ fa k N ms) : Snd P Φ fa k N (.bmeth f a ms) := Snd.v (fun _ _ => rfl) fun sc W X O e tt h => by
  unfold ck at h
  split at h
  · simp only [Bool.and_eq_true, decide_eq_true_eq] at
                                                       h
    obtain ⟨⟨⟨⟨⟨⟨⟨rfl, h1⟩, h2⟩, h3⟩, h4⟩, h5⟩, h6⟩, h7⟩ := h
    have p1 := noSup_ok h4 (Str.ofString f) X.env
    have p2 := (ha sc W X O _ _ h6).1 rfl
    have p3 := hm.es O h7
    have cs : f = "append" ∨ f = "extend" ∨ f = "clear" ∨ f = "join" := by simpa [bmNames] using h1
    rcases cs with rfl | rfl | rfl | rfl
    · exact snd_bm PySem.F.plainAttrs_list PySem.F.slot_list_append PySem.F.type_list_append mt_ok_append (.inr ⟨by decide, rfl⟩) h2 h3 (p1 _) (plain_ns h5) (plain_tail h5) p3.nil_of p2 (p3.pa h5)
    · exact snd_bm PySem.F.plainAttrs_list PySem.F.slot_list_extend PySem.F.type_list_extend mt_ok_extend (.inr ⟨by decide, rfl⟩) h2 h3 (p1 _) (plain_ns h5) (plain_tail h5) p3.nil_of p2 (p3.pa h5)
    · exact snd_bm PySem.F.plainAttrs_list PySem.F.slot_list_clear PySem.F.type_list_clear mt_ok_clear (.inr ⟨by decide, rfl⟩) h2 h3 (p1 _) (plain_ns h5) (plain_tail h5) p3.nil_of p2 (p3.pa h5)
    · exact snd_bm PySem.F.plainAttrs_str PySem.F.slot_str_join PySem.F.type_str_join mt_ok_join (.inl ⟨rfl, rfl⟩) h2 h3 (p1 _) (plain_ns h5) (plain_tail h5) p3.nil_of p2 (p3.pa h5)
  · cases h
theorem one_ns {e : Expr} (h : noSt e = true) : NoStar [e] := fun env => by
  rw [starEach_cons h]
  rfl
theorem s_own1 {len : Bool} {a : ME} (ha : Snd P Φ fa k N a) : Snd P Φ fa k N (.own1 len a) := Snd.v (fun _ _ => rfl) fun sc W X O e tt h => by
  unfold ck at h
  split at h
  · simp only [Bool.and_eq_true, decide_eq_true_eq] at
                                                       h
    exact snd_own1 O h.1.1.1 h.1.1.2 (one_ns h.1.2) ((ha sc W X O _ _ h.2).1 rfl)
  · cases h
theorem s_lcopy {a : ME} (ha : Snd P Φ fa k N a) : Snd P Φ fa k N (.lcopy a) := Snd.v (fun _ _ => rfl) fun sc W X O e tt h => by
  unfold ck at h
  split at h
  · simp only [Bool.and_eq_true, decide_eq_true_eq] at
                                                       h
    exact snd_lcopy O h.1.1.1 h.1.1.2 (one_ns h.1.2) ((ha sc W X O _ _ h.2).1 rfl)
  · cases h
theorem s_own2 {ne : Bool} {a b : ME} (ha : Snd P Φ fa k N a) (hb : Snd P Φ fa k N b) : Snd P Φ fa k N (.own2 ne a b) := fun sc W X O e tt h => by
  unfold ck at h
  split at h
  · simp only [Bool.and_eq_true, decide_eq_true_eq, Bool.not_eq_true'] at h
    have h1 := (ha sc W X O _ _ h.1.2).1 rfl
    have h2 := (hb sc W X O _ _ h.2).1 rfl
    exact ⟨fun _ => snd_own2 O h.1.1.1 h.1.1.2 h1 h2, fun _ => snd_own2T O h.1.1.1 h.1.1.2 h1 h2⟩
  · cases h
theorem s_isin {a : ME} {ts : List Str} (ha : Snd P Φ fa k N a) : Snd P Φ fa k N (.isin a ts) := Snd.t (fun _ _ => rfl) fun sc W X O e tt h => by
  unfold ck at h
  split at h
  · rename_i x p y c pos
    simp only [Bool.and_eq_true, decide_eq_true_eq] at
                                                       h
    obtain ⟨⟨⟨⟨h1, h2⟩, h3⟩, h4⟩, h5⟩ := h
    have p2 := (ha sc W X O _ _ h4).1 rfl
    split at h5
    · simp only [Bool.and_eq_true, decide_eq_true_eq] at h5
      obtain ⟨rfl, h6⟩ := h5
      exact ⟨snd_isin1 O h1 h2 h6 (plain_ns (by unfold plain; rw [List.all_cons, h3]; rfl)) (plain_ns rfl) p2, fun _ => rfl⟩
    · simp only [Bool.and_eq_true, decide_eq_true_eq] at h5
      exact ⟨snd_isinT O h1 h2 (clsLC_ok h5.2) (plain_ns (by unfold plain; rw [List.all_cons, h3]; rfl)) (plain_ns rfl) h5.1 p2, fun _ => rfl⟩
    · cases h5
  · cases h
theorem ckF_ok {ms : List ME} (h : Snds P Φ fa k N ms) (O : OkX P Φ fa k N sc W X) : ∀ {es : List Expr}, ckF P N ms sc es = true → PFs X P Φ W es ms := by
  induction ms with
  | nil =>
    intro es he
    cases es with
    | nil => exact .nil
    | cons e es => cases he
  | cons m ms ih =>
    intro es he
    cases es with
    | nil => cases he
    | cons e es =>
      have ih' := @ih (fun m hm => h m (List.mem_cons_of_mem _ hm))
      unfold ckF at he
      split at he
      · rename_i he'
        cases he'
        rw [Bool.and_eq_true] at he
        exact .val ((h m (by simp) sc W X O _ false he.1).1 rfl) (ih' he.2)
      · rename_i heq
        cases heq
        simp only [Bool.and_eq_true] at he
        obtain ⟨⟨h1, h2⟩, h3⟩ := he
        cases m <;> first | (cases h1; done) | skip
        exact .txt ((h _ (by simp) sc W X O _ false h2).1 rfl) (ih' h3)
      · cases he
theorem s_fstr {ms : List ME} (hm : Snds P Φ fa k N ms) : Snd P Φ fa k N (.fstr ms) := Snd.v (fun _ _ => rfl) fun sc W X O e tt h => by
  unfold ck at h
  split at h
  · exact snd_fstr (ckF_ok hm O h)
  · cases h
theorem ckSrc_ok {kd : SrcK} {ms : List ME} (h : Snds P Φ fa k N ms) (O : OkX P Φ fa k N sc W X) {e t : Expr} (he : ckSrc P N kd ms sc e t = true) : PI X t e (rdS P Φ X.K W kd ms) := by
  cases ms with
  | nil => cases kd <;> cases he
  | cons m ms =>
    have hm := h m (by simp)
    have one : ∀ {a : Expr}, ms.isEmpty = true → ck P N m false sc a = true → noSt a = true → ms = [] ∧ NoStar [a] ∧ PA X [a] (rdA P Φ X.K W [m]) := by
      intro a h1 h2 h3
      have hp : plain [a] = true := by unfold plain; rw [List.all_cons, h3]; rfl
      exact ⟨List.isEmpty_iff.mp h1, plain_ns hp, (PEs.cons ((hm sc W X O _ false h2).1 rfl) .nil).pa hp⟩
    cases kd with
    | seq =>
      replace he : (ms.isEmpty && ck P N m false sc e) = true := he
      rw [Bool.and_eq_true] at he
      have : ms = [] := List.isEmpty_iff.mp he.1
      subst this
      exact snd_src_seq ((hm sc W X O _ false he.2).1 rfl)
    | range1 =>
      unfold ckSrc at he
      simp only at he
      split at he
      · simp only [Bool.and_eq_true, decide_eq_true_eq] at he
        obtain ⟨⟨⟨⟨h1, h2⟩, h3⟩, h4⟩, h5⟩ := he
        obtain ⟨rfl, n1, n2⟩ := one h1 h5 h4
        exact snd_src_range1 O h2 h3 n1 n2
      · cases he
    | enum =>
      unfold ckSrc at he
      simp only at he
      split at he
      · simp only [Bool.and_eq_true, decide_eq_true_eq] at he
        obtain ⟨⟨⟨⟨h1, h2⟩, h3⟩, h4⟩, h5⟩ := he
        obtain ⟨rfl, n1, n2⟩ := one h1 h5 h4
        exact snd_src_enum O h2 h3 n1 n2
      · cases he
    | range2 =>
      unfold ckSrc at he
      simp only at he
      split at he
      · simp only [Bool.and_eq_true, decide_eq_true_eq] at he
        obtain ⟨⟨⟨⟨⟨h2, h3⟩, h4⟩, h5⟩, h6⟩, h7⟩ := he
        have hp2 := Snds.es (fun m hm => h m (List.mem_cons_of_mem _ hm)) O h7
        cases ms with
        | nil => cases h7
        | cons m2 ms =>
          cases ms with
          | cons _ _ => cases hp2 with | cons _ r => cases r
          | nil =>
            rename_i a b _
            have hp : plain [a, b] = true := by unfold plain; rw [List.all_cons, List.all_cons, h4, h5]; rfl
            exact snd_src_range2 O h2 h3 (plain_ns hp) (plain_tail hp _ _ rfl) ((PEs.cons ((hm sc W X O _ false h6).1 rfl) hp2).pa hp)
      · cases he
    | range3 =>
      unfold ckSrc at he
      simp only at he
      split at he
      · simp only [Bool.and_eq_true, decide_eq_true_eq] at he
        obtain ⟨⟨⟨⟨⟨⟨h2, h3⟩, h4⟩, h5⟩, h5'⟩, h6⟩, h7⟩ := he
        have hp2 := Snds.es (fun m hm => h m (List.mem_cons_of_mem _ hm)) O h7
        cases ms with
        | nil => cases h7
        | cons m2 ms =>
          cases ms with
          | nil => cases hp2 with | cons _ r => cases r
          | cons m3 ms =>
            cases ms with
            | cons _ _ => cases hp2 with | cons _ r => cases r with | cons _ r => cases r
            | nil =>
              rename_i a b c _
              have hp : plain [a, b, c] = true := by unfold plain; rw [List.all_cons, List.all_cons, List.all_cons, h4, h5, h5']; rfl
              exact snd_src_range3 O h2 h3 (plain_ns hp) (plain_tail hp _ _ rfl) ((PEs.cons ((hm sc W X O _ false h6).1 rfl) hp2).pa hp)
      · cases he
    | zip =>
      unfold ckSrc at he
      simp only at he
      split at he
      · simp only [Bool.and_eq_true, decide_eq_true_eq] at he
        obtain ⟨⟨⟨⟨⟨h2, h3⟩, h4⟩, h5⟩, h6⟩, h7⟩ := he
        have hp2 := Snds.es (fun m hm => h m (List.mem_cons_of_mem _ hm)) O h7
        cases ms with
        | nil => cases h7
        | cons m2 ms =>
          cases ms with
          | cons _ _ => cases hp2 with | cons _ r => cases r
          | nil =>
            rename_i a b _ _ _ _
            have hp : plain [a, b] = true := by unfold plain; rw [List.all_cons, List.all_cons, h4, h5]; rfl
            exact snd_src_zip O h2 h3 (plain_ns hp) (plain_tail hp _ _ rfl) ((PEs.cons ((hm sc W X O _ false h6).1 rfl) hp2).pa hp)
      · cases he
theorem _root_.L2.PTs.imp {e : List Expr} {t t' : TT} (h : PTs X e t) (i : ∀ σ H Q, t' σ H Q → t σ H Q) : PTs X e t' := ⟨fun pins s σ H Q I q => h.run pins s σ H Q I (i σ H Q q)⟩
theorem ckIf_ok {ms : List ME} (h : Snds P Φ fa k N ms) (O : OkX P Φ fa k N sc W X) {es : List Expr} (he : ckIf P N ms sc es = true) : PTs X es (rdTw P Φ X.K W (testL P Φ ms)) := by
  cases ms with
  | nil =>
    have : es.isEmpty = true := he
    cases es with
    | nil => exact pts_nil.imp fun σ H Q ⟨w, env, st, hE, hS, q⟩ => q w H (Le.refl _) hS
    | cons _ _ => cases this
  | cons m ms =>
    unfold ckIf at he
    split at he
    · rw [Bool.and_eq_true] at he
      have : ms = [] := List.isEmpty_iff.mp he.1
      subst this
      exact (pts_one ((h m (by simp) sc W X O _ true he.2).2 rfl)).imp fun σ H Q q => q
    · cases he
theorem own_slots (tg : MT) : (ownOf N tg).map (·.2) = slots tg := by
  unfold ownOf
  rw [List.map_map]
  exact List.map_id _
/-- what a comprehension's rule asks -/
structure CompOk (X : Cx) (P : Prog) (Φ : Cal) (N : List Str) (W : WX) (tg : MT) (kd : SrcK) (elt : ME) (ms ifs : List ME) (y t it : Expr) (cs : List Expr) (scope : Scope) : Prop where
  src : PI X t it (rdS P Φ X.K W kd ms)
  blk : BlkOk X.N X.env.scope scope (ownOf N tg)
  hg : ∀ (s : Shared) (H : Hp) (C : Addr) (cl : List (Str × Addr)) (fp : List Addr), PG (X.blk s H scope (compEnvC scope cl C X.env) fp) t (tgR X.K tg)
  ht : ∀ (s : Shared) (H : Hp) (C : Addr) (cl : List (Str × Addr)) (fp : List Addr), PTs (X.blk s H scope (compEnvC scope cl C X.env) fp) cs (rdTw P Φ X.K Wf (testL P Φ ifs))
  he : ∀ (s : Shared) (H : Hp) (C : Addr) (cl : List (Str × Addr)) (fp : List Addr), PE (X.blk s H scope (compEnvC scope cl C X.env) fp) y (rdE P Φ X.K Wf elt)
  st : ∀ x, foldedSetIterable it X.env x = pure x
theorem comp_parts {mu : Bool} {elt : ME} {tg : MT} {kd : SrcK} {ms ifs : List ME} (he : Snd P Φ fa k N elt) (hm : Snds P Φ fa k N ms) (hi : Snds P Φ fa k N ifs) (O : OkX P Φ fa k N sc W X) {e : Expr} {tt : Bool} (h : ck P N (.comp mu elt tg kd ms ifs) tt sc e = true) :
    ∃ y t it cs scope pos, e = .ListComp y [⟨t, it, cs, 0⟩] scope pos ∧ CompOk X P Φ N W tg kd elt ms ifs y t it cs scope := by
  unfold ck at h
  split at h
  · rename_i y t it cs scope pos
    simp only [Bool.and_eq_true] at
                                    h
    obtain ⟨⟨⟨⟨⟨h1, h2⟩, h3⟩, h4⟩, h5⟩, h6⟩ := h
    have hb : BlkOk X.N X.env.scope scope (ownOf N tg) := by rw [O.names, O.sco]; exact blkOk_by h3
    exact ⟨y, t, it, cs, scope, pos, rfl, ckSrc_ok hm O h2, hb, fun s H C cl fp => pg_ok (blk_ok O s H scope C cl fp) tg t h4, fun s H C cl fp => ckIf_ok hi (blk_ok O s H scope C cl fp) h5,
      fun s H C cl fp => (he _ _ _ (blk_ok O s H scope C cl fp) y false h6).1 rfl, noSet_ok h1 _⟩
  · cases h
theorem s_comp {mu : Bool} {elt : ME} {tg : MT} {kd : SrcK} {ms ifs : List ME} (he : Snd P Φ fa k N elt) (hm : Snds P Φ fa k N ms) (hi : Snds P Φ fa k N ifs) : Snd P Φ fa k N (.comp mu elt tg kd ms ifs) := Snd.v (fun _ _ => rfl) fun sc W X O e tt h => by
  obtain ⟨y, t, it, cs, scope, pos, rfl, c⟩ := comp_parts he hm hi O h
  refine (pe_lc O.calm (by rw [O.names]; exact O.nd) c.src c.blk c.hg c.ht c.he c.st).imp fun σ H Q q => ?_
  rw [own_slots]
  exact comp_rd q
mutual
theorem snd : ∀ m : ME, Snd P Φ fa k N m
  | .var i => s_var i
  | .non => s_non
  | .bl b => s_bl b
  | .int i => s_int i
  | .str x => s_str x
  | .glob x => s_glob x
  | .bin op a b => s_bin (snd a) (snd b)
  | .neg a => s_neg (snd a)
  | .cmp op a b => s_cmp (snd a) (snd b)
  | .chain o1 o2 a b c => s_chain (snd a) (snd b) (snd c)
  | .and es => s_and (snds es)
  | .or es => s_or (snds es)
  | .not a => s_not (snd a)
  | .ite c a b => s_ite (snd c) (snd a) (snd b)
  | .tup es => s_tup (snds es)
  | .lst mu es => s_lst (snds es)
  | .ix a b => s_ix (snd a) (snd b)
  | .slc a lo hi => s_slc (snd a) (snds lo) (snds hi)
  | .attr a f => s_attr (snd a)
  | .call m f es kn ks => s_call (snds es) (snds ks)
  | .make m c es kn ks => s_make (snds es) (snds ks)
  | .meth m a f es => s_meth (snd a) (snds es)
  | .bcall f es => s_bcall (snds es)
  | .bmeth f a es => s_bmeth (snd a) (snds es)
  | .isin a ts => s_isin (snd a)
  | .comp mu elt tg k es ifs => s_comp (snd elt) (snds es) (snds ifs)
  | .fstr es => s_fstr (snds es)
  | .own1 len a => s_own1 (snd a)
  | .lcopy a => s_lcopy (snd a)
  | .own2 ne a b => s_own2 (snd a) (snd b)
theorem snds : ∀ ms : List ME, Snds P Φ fa k N ms
  | [] => fun m hm => by cases hm
  | m :: ms => fun n hn => by
    rcases List.mem_cons.mp hn with h | h
    · rw [h]; exact snd m
    · exact snds ms n h
end
end
end Mp
end

section
set_option Elab.async false
set_option linter.all false
set_option maxRecDepth 100000
set_option maxHeartbeats
                         1000000
namespace Mp
open PySem L2 PySem.Spec PyProof.Rows

/-! ### statements -/
def FA (K : PySem.W.Frag) (D : Ends) : Wd → Fl → Store → Hp → Prop := fun w' f _ H' => match f with
  | .next env' => ∀ σ', RE K w' env' σ' → D.nx σ' H'
  | .ret v => ∀ x, RV K w' v x → D.rt x H'
  | .brk env' => ∀ σ', RE K w' env' σ' → D.bk σ' H'
  | .cont env' => ∀ σ', RE K w' env' σ' → D.ct σ' H'
abbrev XA (W : WX) : XK := fun c d H' => ∀ σ, W c d σ H'
def rdF (K : PySem.W.Frag) (W : WX) (ev : Env → Store → R Fl) : TS := fun D σ H => ∃ w env st, RE K w env σ ∧ RS K w st H ∧ Post K w (ev env st) (FA K D) (XA W)
theorem Post.impB {K : PySem.W.Frag} {α : Type} {w : Wd} {r : R α} {A : Wd → α → Store → Hp → Prop} {B B' : XK} (h : Post K w r A B) (i : ∀ c d H, B c d H → B' c d H) : Post K w r A B' := by
  cases r with
  | ok a st => exact h
  | err c ns vs st => exact fun w' cls d H' l s x => i _ _ _ (h w' cls d H' l s x)
  | stuck => exact h
section
variable {P : Prog} {Φ : Cal} {fa : Str → Addr} {k : Nat} {N : List Str} {sc : Sco} {W : WX} {X : Cx}
theorem stE_seq {m : ME} {β : Type} {kk : Val → Store → R β} {σ : L2.St} {H : Hp} {w : Wd} {env : Env} {st : Store} {A : Wd → β → Store → Hp → Prop} {Q : VK}
    (hE : RE X.K w env σ) (hS : RS X.K w st H) (h : Post X.K w ((evalE P Φ m env st).then_ kk) A (XA W))
    (hk : ∀ w1 v x st1 H1, Le w w1 → RE X.K w1 env σ → RS X.K w1 st1 H1 → RV X.K w1 v x → Post X.K w1 (kk v st1) A (XA W) → Q x H1) : rdE P Φ X.K W m σ H Q :=
  ⟨w, env, st, hE, hS, (h.seq.imp fun w1 v st1 H1 l s p x r => hk w1 v x st1 H1 l (hE.mono l) s r p).impB fun c d H' q => q σ⟩
theorem stA_seq {m : List ME} {β : Type} {kk : List Val → Store → R β} {σ : L2.St} {H : Hp} {w : Wd} {env : Env} {st : Store} {A : Wd → β → Store → Hp → Prop} {Q : List V → Hp → Prop}
    (hE : RE X.K w env σ) (hS : RS X.K w st H) (h : Post X.K w ((evalEs P Φ m env st).then_ kk) A (XA W))
    (hk : ∀ w1 v x st1 H1, Le w w1 → RE X.K w1 env σ → RS X.K w1 st1 H1 → RVs X.K w1 v x → Post X.K w1 (kk v st1) A (XA W) → Q x H1) : rdA P Φ X.K W m σ H Q :=
  ⟨w, env, st, hE, hS, (h.seq.imp fun w1 v st1 H1 l s p x r => hk w1 v x st1 H1 l (hE.mono l) s r p).impB fun c d H' q => q σ⟩
theorem stT_seq {m : ME} {β : Type} {kk : Bool → Store → R β} {σ : L2.St} {H : Hp} {w : Wd} {env : Env} {st : Store} {A : Wd → β → Store → Hp → Prop} {Q : Bool → Hp → Prop}
    (hE : RE X.K w env σ) (hS : RS X.K w st H) (h : Post X.K w ((evalT P Φ m env st).then_ kk) A (XA W))
    (hk : ∀ w1 b st1 H1, Le w w1 → RE X.K w1 env σ → RS X.K w1 st1 H1 → Post X.K w1 (kk b st1) A (XA W) → Q b H1) : rdT P Φ X.K W m σ H Q :=
  ⟨w, env, st, hE, hS, (h.seq.imp fun w1 v st1 H1 l s p => hk w1 v st1 H1 l (hE.mono l) s p).impB fun c d H' q => q σ⟩
theorem stS_seq {kd : SrcK} {ms : List ME} {β : Type} {kk : List Val × List (Nat × List Val) → Store → R β} {σ : L2.St} {H : Hp} {w : Wd} {env : Env} {st : Store} {A : Wd → β → Store → Hp → Prop} {Q : It → Hp → Prop}
    (hE : RE X.K w env σ) (hS : RS X.K w st H) (h : Post X.K w ((srcE P Φ kd ms env st).then_ kk) A (XA W))
    (hk : ∀ w1 p st1 H1, Le w w1 → RE X.K w1 env σ → RS X.K w1 st1 H1 → Post X.K w1 (kk p st1) A (XA W) → ∀ J, ItW X.K J w1 p.1 p.2 → Q J H1) : rdS P Φ X.K W kd ms σ H Q :=
  ⟨w, env, st, hE, hS, (h.seq.imp fun w1 v st1 H1 l s p J j => hk w1 v st1 H1 l (hE.mono l) s p J j).impB fun c d H' q => q σ⟩

/-! ### what the text's statements are checked for -/
def noComp : Expr → Bool
  | .ListComp _ _ _ _ => false
  | .SetComp _ _ _ _ => false
  | .DictComp _ _ _ _ _ => false
  | _ => true
def noTup : Expr → Bool
  | .Tuple _ _ _ => false
  | _ => true
theorem noComp_ok {e : Expr} (h : noComp e = true) (t : Option Expr) (l : Nat) (env : PySem.Env) : swapsWith e t l env = pure false := by
  cases e <;> first | rfl | cases h
theorem noTup_ok {e t : Expr} (h : noTup e = true) (env : PySem.Env) : swappedStores [t] e env = pure none := by
  cases e <;> first | (cases t <;> rfl) | cases h
def noPair : Expr → Expr → Bool
  | .Name _ _, _ => true
  | _, e => noTup e
theorem noPair_ok {t e : Expr} (h : noPair t e = true) (env : PySem.Env) : swappedStores [t] e env = pure none := by
  cases t <;> first | exact noTup_ok h env | (cases e <;> rfl)
/-- a comprehension's list into a cell -/
def offC (sc : Sco) : Expr → Expr → Bool
  | .Name y _, .ListComp _ _ _ _ => decide (sc.sc.names.lookup y = some .cell)
  | .Tuple _ _ _, .ListComp _ _ _ _ => true
  | _, _ => false
theorem offC_ok (O : OkX P Φ fa k N sc W X) {t e : Expr} {l : Nat} (h : (noComp e || offC sc t e) = true) : swapsWith e (some t) l X.env = pure false := by
  rw [Bool.or_eq_true] at h
  rcases h with h | h
  · exact noComp_ok h _ _ _
  · cases t <;> first | (cases h; done) | skip
    · cases e <;> first | (cases h; done) | skip
      rename_i y py a b c d
      have hk : X.env.kindOf y = some .cell := by
        unfold Env.kindOf
        rw [O.sco]; exact of_decide_eq_true h
      unfold swapsWith
      simp [hk, show (NameKind.cell == NameKind.local) = false from rfl]
    · cases e <;> first | (cases h; done) | rfl
def isFn (sc : Sco) : Bool := decide (sc.sc.kind = .function)
theorem isFn_ok (O : OkX P Φ fa k N sc W X) (h : isFn sc = true) : X.env.scope.kind = .function ∧ X.env.blockKind = .function := by
  have : X.env.scope.kind = .function := by rw [O.sco]; exact of_decide_eq_true h
  exact ⟨this, by unfold Env.blockKind; rw [this]; rfl⟩
/-- the list goes into the name's slot at once -/
def swC (sc : Sco) (scope : Scope) (y : Str) (py pos : Pos) : Bool := isFn sc && decide (sc.sc.names.lookup y = some .local) && (py.line == pos.line) && !(scope.names.any fun (n, k) => n == y && (k == .local || k == .cell))
/-- x, y = a, b: x and y are slots of the frame, stored at once -/
def parC (sc : Sco) (x y : Str) (px py : Pos) (a b : Expr) : Bool := isFn sc && decide (sc.sc.names.lookup x = some .local) && decide (sc.sc.names.lookup y = some .local) && (py.line == px.line) && !(x == y) && noSt a && noSt b && !(foldedForSure 8 a && foldedForSure 8 b) && !(constantsAlone 8 a && constantsAlone 8 b)
theorem stF {e : Expr} : noSt e = true → (match e with | .Starred .. => true | _ => false) = false := by intro h; cases e <;> first | rfl | cases h
theorem parC_ok (O : OkX P Φ fa k N sc W X) {x y : Str} {px py pt pt2 : Pos} {kt k2 : Nat} {a b : Expr} (h : parC sc x y px py a b = true) : swappedStores [.Tuple [.Name x px, .Name y py] kt pt] (.Tuple [a, b] k2 pt2) X.env = pure (some [x, y]) := by
  unfold parC at h
  simp only [Bool.and_eq_true, decide_eq_true_eq, Bool.not_eq_true'] at h
  obtain ⟨⟨⟨⟨⟨⟨⟨⟨h1, h2⟩, h3⟩, h4⟩, h5⟩, h6⟩, h7⟩, h8⟩, h9⟩ :=
                                                               h
  obtain ⟨_, hb⟩ := isFn_ok O h1
  have kx : X.env.kindOf x = some .local := by unfold Env.kindOf; rw [O.sco]; exact h2
  have ky : X.env.kindOf y = some .local := by unfold Env.kindOf; rw [O.sco]; exact h3
  have e1 : x ≠ y := by simpa using h5
  have e2 : (x == y) = false := h5
  have e3 : (y == x) = false := by simpa using e1.symm
  have v2 : [a, b].all (foldedForSure 8) = false := by
    show (foldedForSure 8 a && (foldedForSure 8 b && true)) = false
    rw [Bool.and_true]; exact h8
  have v3 : [a, b].all (constantsAlone 8) = false := by
    show (constantsAlone 8 a && (constantsAlone 8 b && true)) = false
    rw [Bool.and_true]; exact h9
  unfold swappedStores
  simp only [hb, v2, v3]
  simp [kx, ky, e1, Expr.pos, List.eraseDups, List.eraseDupsBy, List.eraseDupsBy.loop, e2, e3, eq_of_beq h4]
  intro z
  rcases z with z | z
  · exact absurd ((stF h6).symm.trans z) (by decide)
  · exact absurd ((stF h7).symm.trans z) (by decide)
def par3C (sc : Sco) (x y z : Str) (px py pz : Pos) (a b c : Expr) : Bool := isFn sc && decide (sc.sc.names.lookup x = some .local) && decide (sc.sc.names.lookup y = some .local) && decide (sc.sc.names.lookup z = some .local) && (py.line == px.line) && (pz.line == px.line) && !(x == y) && !(x == z) && !(y == z) && noSt a && noSt b && noSt c && !(foldedForSure 8 a && (foldedForSure 8 b && foldedForSure 8 c)) && !(constantsAlone 8 a && (constantsAlone 8 b && constantsAlone 8 c))
theorem par3C_ok (O : OkX P Φ fa k N sc W X) {x y z : Str} {px py pz pt pt2 : Pos} {kt k2 : Nat} {a b c : Expr} (h : par3C sc x y z px py pz a b c = true) : swappedStores [.Tuple [.Name x px, .Name y py, .Name z pz] kt pt] (.Tuple [a, b, c] k2 pt2) X.env = pure (some [x, y, z]) := by
  unfold par3C at h
  simp only [Bool.and_eq_true, decide_eq_true_eq, Bool.not_eq_true'] at h
  obtain ⟨⟨⟨⟨⟨⟨⟨⟨⟨⟨⟨⟨⟨h1, h2⟩, h3⟩, h3'⟩, h4⟩, h4'⟩, h5⟩, h5'⟩, h5''⟩, h6⟩, h7⟩, h7'⟩, h8⟩, h9⟩ := h
  obtain ⟨_, hb⟩ := isFn_ok O h1
  have kx : X.env.kindOf x = some .local := by unfold Env.kindOf; rw [O.sco]; exact h2
  have ky : X.env.kindOf y = some .local := by unfold Env.kindOf; rw [O.sco]; exact h3
  have kz : X.env.kindOf z = some .local := by unfold Env.kindOf; rw [O.sco]; exact h3'
  have e1 : x ≠ y := by simpa using h5
  have e2 : x ≠ z := by simpa using h5'
  have e3 : y ≠ z := by simpa using h5''
  have f1 : (x == y) = false := h5
  have f2 : (x == z) = false := h5'
  have f3 : (y == z) = false := h5''
  have g1 : (y == x) = false := by simpa using e1.symm
  have g2 : (z == x) = false := by simpa using e2.symm
  have g3 : (z == y) = false := by simpa using e3.symm
  have v2 : [a, b, c].all (foldedForSure 8) = false := by
    show (foldedForSure 8 a && (foldedForSure 8 b && (foldedForSure 8 c && true))) = false
    rw [Bool.and_true]
    cases e : (foldedForSure 8 a && (foldedForSure 8 b && foldedForSure 8 c)) with
    | false => rfl
    | true => rw [e] at h8; cases h8
  have v3 : [a, b, c].all (constantsAlone 8) = false := by
    show (constantsAlone 8 a && (constantsAlone 8 b && (constantsAlone 8 c && true))) = false
    rw [Bool.and_true]
    cases e : (constantsAlone 8 a && (constantsAlone 8 b && constantsAlone 8 c)) with
    | false => rfl
    | true => rw [e] at h9; cases h9
  unfold swappedStores
  simp only [hb, v2, v3]
  simp [kx, ky, kz, e1, e2, e3, Expr.pos, List.eraseDups, List.eraseDupsBy, List.eraseDupsBy.loop, f1, f2, f3, g1, g2, g3, eq_of_beq h4, eq_of_beq h4']
  intro t
  rcases t with t | t | t
  · exact absurd ((stF h6).symm.trans t) (by decide)
  · exact absurd ((stF h7).symm.trans t) (by decide)
  · exact absurd ((stF h7').symm.trans t) (by decide)
/-- one of two names is no slot of the frame -/
def offP (sc : Sco) : List Expr → Bool
  | [.Name x _, .Name y _] => decide (sc.sc.names.lookup x = some .cell) || decide (sc.sc.names.lookup y = some .cell)
  | _ => false
theorem offP_ok (O : OkX P Φ fa k N sc W X) {es vs : List Expr} {n m : Nat} {p q : Pos} (h : offP sc es = true) : swappedStores [.Tuple es n p] (.Tuple vs m q) X.env = pure none := by
  unfold offP at h
  split at h
  · rename_i x px y py
    rw [Bool.or_eq_true, decide_eq_true_eq, decide_eq_true_eq] at
                                                                  h
    have kx : ∀ z, X.env.kindOf z = sc.sc.names.lookup z := fun z => by unfold Env.kindOf; rw [O.sco]
    unfold swappedStores
    rcases h with h | h
    · simp [kx, h]
      intro _ _ _ hl
      exfalso
      have := List.length_filterMap_le (fun e => match e with
        | Expr.Name id pos => if List.lookup id sc.sc.names = some NameKind.local ∧ pos.line = (Expr.Name x px).pos.line then some id else none
        | _ => none) [Expr.Name y py]
      simp only [List.length_singleton] at this
      have h2 := Nat.le_trans (Nat.le_of_eq hl.symm) this
      omega
    · simp [kx, h]
      intro _ _ _ hl
      exfalso
      simp only [List.filterMap_cons, List.filterMap_nil, h] at hl
      split at hl <;> simp at hl
  · cases h
end
end Mp
end

section
set_option Elab.async false
set_option linter.all false
set_option maxRecDepth 100000
set_option maxHeartbeats
                         1000000
namespace Mp
open PySem L2 PySem.Spec PyProof.Rows

section
variable (P : Prog) (N : List Str)
mutual
def ckS : MS → Sco → Stmt → Bool
  | .expr e, sc, s => match s with
    | .Expr x _ => noComp x && ck P N e false sc x
    | _ => false
  | .set t e, sc, s => match s with
    | .Assign [tg] x _ => ck P N e false sc x && tgC N sc tg t && noPair tg x && (noComp x || offC sc tg x)
    | _ => false
  | .setc i e, sc, s => match s with
    | .Assign [.Name y py] (.ListComp a b scope pos) _ => ck P N e false sc (.ListComp a b scope pos) && decide (N[i]? = some y) && swC sc scope y py pos
    | _ => false
  | .sett t e, sc, s => match s with
    | .Assign [.Tuple es n p] (.Tuple [a, b] m q) _ => ck P N e false sc (.Tuple [a, b] m q) && tgC N sc (.Tuple es n p) t && isFn sc && (offP sc es || (foldedForSure 8 a && foldedForSure 8 b))
    | _ => false
  | .par3 i j l ms, sc, s => match s with
    | .Assign [.Tuple [.Name x px, .Name y py, .Name z pz] kt pt] (.Tuple [u, v, w] k2 pt2) pos => decide (i ≠ j) && decide (i ≠ l) && decide (j ≠ l) && decide (N[i]? = some x) && decide (N[j]? = some y) && decide (N[l]? = some z) && par3C sc x y z px py pz u v w && cks P N ms false sc [u, v, w]
    | _ => false
  | .par i j a b, sc, s => match s with
    | .Assign [.Tuple [.Name x px, .Name y py] kt pt] (.Tuple [u, v] k2 pt2) pos => decide (i ≠ j) && decide (N[i]? = some x) && decide (N[j]? = some y) && parC sc x y px py u v && ck P N a false sc u && ck P N b false sc v
    | _ => false
  | .fld o f e, sc, s => match s with
    | .Assign [.Attribute x g _] y _ => decide (f = g) && noComp y && ck P N o false sc x && ck P N e false sc y
    | _ => false
  | .fldaug o f op e, sc, s => match s with
    | .AugAssign (.Attribute x g tp) q y pos => (decide (op = .add) || decide (op = .sub)) && decide (f = g) && decide (q = pyop op) && ck P N o false sc x && ck P N e false sc y
    | _ => false
  | .sub o i e, sc, s => match s with
    | .Assign [.Subscript x y _] z _ => noTup z && noComp z && plainIx y && ck P N o false sc x && ck P N i false sc y && ck P N e false sc z
    | _ => false
  | .aug i op e, sc, s => match s with
    | .AugAssign (.Name x _) q y _ => (decide (op = .add) || decide (op = .sub)) && decide (N[i]? = some x) && stOk sc x && decide (q = pyop op) && ck P N e false sc y
    | _ => false
  | .ret e, sc, s => match s with
    | .Return (some x) _ => ck P N e false sc x
    | _ => false
  | .retN, _, s => match s with
    | .Return none _ => true
    | _ => false
  | .ite c a b, sc, s => match s with
    | .If x y z _ => ck P N c true sc x && ckSs a sc y && ckSs b sc z
    | _ => false
  | .for_ t k es body, sc, s => match s with
    | .For tg it b [] _ => noSet it && ckSrc P N k es sc it tg && tgC N sc tg t && ckSs body sc b
    | _ => false
  | .while_ c body, sc, s => match s with
    | .While x b [] _ => ck P N c true sc x && ckSs body sc b
    | _ => false
  | .pass, _, s => match s with
    | .Pass _ => true
    | .Expr (.Constant (.str _) _ _) _ => true
    | _ => false
  | .brk, _, s => match s with
    | .Break _ => true
    | _ => false
  | .cont, _, s => match s with
    | .Continue _ => true
    | _ => false
  | .never, _, _ => true
def ckSs : List MS → Sco → List Stmt → Bool
  | [], _, ss => match ss with
    | [] => true
    | _ => false
  | m :: ms, sc, ss => match ss with
    | s :: ss => ckS m sc s && ckSs ms sc ss
    | _ => false
end
end
section
variable {P : Prog} {Φ : Cal} {fa : Str → Addr} {k : Nat} {N : List Str} {sc : Sco} {W : WX} {X : Cx}
/-- a statement's promise -/
def SndS (P : Prog) (Φ : Cal) (fa : Str → Addr) (k : Nat) (N : List Str) (m : MS) : Prop := ∀ (sc : Sco) (W : WX) (X : Cx), OkX P Φ fa k N sc W X → ∀ s : Stmt, ckS P N m sc s = true → PS X s (rdF X.K W (evalS P Φ m))
def SndSs (P : Prog) (Φ : Cal) (fa : Str → Addr) (k : Nat) (N : List Str) (ms : List MS) : Prop := ∀ (sc : Sco) (W : WX) (X : Cx), OkX P Φ fa k N sc W X → ∀ ss : List Stmt, ckSs P N ms sc ss = true → PSs X ss (rdF X.K W (evalSs P Φ ms))
theorem ss_nil : SndSs P Φ fa k N [] := fun sc W X O ss h => by
  cases ss with
  | nil => exact pss_nil.imp fun D σ H ⟨w, env, st, hE, hS, q⟩ => q w H (Le.refl _) hS σ hE
  | cons _ _ => cases h
theorem ss_cons {m : MS} {ms : List MS} (h1 : SndS P Φ fa k N m) (h2 : SndSs P Φ fa k N ms) : SndSs P Φ fa k N (m :: ms) := fun sc W X O ss h => by
  cases ss with
  | nil => cases h
  | cons s ss =>
    replace h : (ckS P N m sc s && ckSs P N ms sc ss) = true := h
    rw [Bool.and_eq_true] at h
    refine (pss_cons (h1 sc W X O s h.1) (h2 sc W X O ss h.2)).imp fun D σ H ⟨w, env, st, hE, hS, q⟩ => ?_
    replace q : Post X.K w ((evalS P Φ m env st).then_ fun f st => match f with
      | .next env' => evalSs P Φ ms env' st
      | f => .ok f st) (FA X.K D) (XA W) := q
    refine ⟨w, env, st, hE, hS, q.seq.imp fun w' f st' H' l s p => ?_⟩
    cases f with
    | next env' => exact fun σ' hE' => ⟨w', env', st', hE', s, p⟩
    | ret v => exact p w' H' (Le.refl _) s
    | brk env' => exact p w' H' (Le.refl _) s
    | cont env' => exact p w' H' (Le.refl _) s
theorem ss_expr {e : ME} : SndS P Φ fa k N (.expr e) := fun sc W X O s h => by
  unfold ckS at h
  split at h
  · rw [Bool.and_eq_true] at h
    refine (ps_expr ((snd e sc W X O _ _ h.2).1 rfl) (noComp_ok h.1 _ _ _)).imp fun D σ H ⟨w, env, st, hE, hS, q⟩ => ?_
    exact stE_seq hE hS q fun w1 v x st1 H1 l1 hE1 hS1 rv h1 => h1 w1 H1 (Le.refl _) hS1 σ hE1
  · cases h
/-- a value into a target -/
theorem set_tail {t : MT} {σ : L2.St} {H1 : Hp} {w1 : Wd} {env : Env} {st1 : Store} {v : Val} {x : V} {D : Ends} (hE1 : RE X.K w1 env σ) (hS1 : RS X.K w1 st1 H1) (rv : RV X.K w1 v x)
    (h1 : Post X.K w1 (match bindT t v env with | some env' => R.ok (Fl.next env') st1 | none => .stuck) (FA X.K D) (XA W)) : tgR X.K t x σ H1 D.nx := by
  cases e : bindT t v env with
  | none => rw [e] at h1; exact h1.elim
  | some env' =>
    rw [e] at h1
    exact ⟨w1, env, st1, v, env', hE1, hS1, rv, e, fun σ' hE' _ => h1 w1 H1 (Le.refl _) hS1 σ' hE'⟩
theorem ss_set {t : MT} {e : ME} : SndS P Φ fa k N (.set t e) := fun sc W X O s h => by
  unfold ckS at h
  split at h
  · rename_i tg x pos
    simp only [Bool.and_eq_true] at
                                    h
    obtain ⟨⟨⟨h1, h2⟩, h3⟩, h4⟩ :=
                                   h
    refine (ps_asg ((snd e sc W X O _ _ h1).1 rfl) (pg_ok O t tg h2) (offC_ok O h4) (noPair_ok h3 _) (by rw [asg_cons h2]; rfl)).imp fun D σ H ⟨w, env, st, hE, hS, q⟩ => ?_
    exact stE_seq hE hS q fun w1 v x st1 H1 l1 hE1 hS1 rv h1 => set_tail hE1 hS1 rv h1
  · cases h
theorem name_of {i : Nat} {y : Str} (O : OkX P Φ fa k N sc W X) (h : N[i]? = some y) : X.N.Nodup ∧ X.N[i]? = some y ∧ i < N.length := ⟨by rw [O.names]; exact O.nd, by rw [O.names]; exact h, (List.getElem?_eq_some_iff.mp h).1⟩
theorem ss_setc {i : Nat} {e : ME} : SndS P Φ fa k N (.setc i e) := fun sc W X O s h => by
  unfold ckS at h
  split at h
  · rename_i y py a b scope pos spos
    simp only [Bool.and_eq_true, decide_eq_true_eq] at
                                                       h
    obtain ⟨⟨h1, h2⟩, h3⟩ := h
    obtain ⟨n1, n2, n3⟩ := name_of O h2
    unfold swC at h3
    simp only [Bool.and_eq_true, decide_eq_true_eq, Bool.not_eq_true'] at h3
    obtain ⟨⟨⟨g1, g2⟩, g3⟩, g4⟩ := h3
    have hy : X.env.scope.names.lookup y = some .local := by rw [O.sco]; exact g2
    cases e <;> first | (unfold ck at h1; cases h1; done) | skip
    rename_i mu elt tg kd ms ifs
    obtain ⟨y', t, it, cs, scope', pos', e1, c⟩ := comp_parts (snd elt) (snds ms) (snds ifs) O h1
    cases e1
    refine (ps_setLc O.calm n1 n2 hy (sw_true (isFn_ok O g1).1 hy g3 g4) c.src c.blk c.hg c.ht c.he c.st).imp fun D σ H ⟨w, env, st, hE, hS, q⟩ => ?_
    show tLc _ _ _ _ _ σ H _
    rw [own_slots]
    refine comp_rd (mu := mu) ?_
    replace q : Post X.K w ((evalE P Φ (.comp mu elt tg kd ms ifs) env st).then_ fun v st => if i < env.length then R.ok (Fl.next (env.set i (some v))) st else .stuck) (FA X.K D) (XA W) := q
    refine stE_seq hE hS q fun w1 v x st1 H1 l1 hE1 hS1 rv h1 => ?_
    split at h1
    · exact h1 w1 H1 (Le.refl _) hS1 _ (hE1.set i rv)
    · exact h1.elim
  · cases h
theorem ss_sett {t : MT} {e : ME} : SndS P Φ fa k N (.sett t e) := fun sc W X O s h => by
  unfold ckS at h
  split at h
  · rename_i es n p a b m q pos
    simp only [Bool.and_eq_true] at
                                    h
    obtain ⟨⟨⟨h1, h2⟩, h3⟩, h4⟩ :=
                                   h
    have hw : swappedStores [.Tuple es n p] (.Tuple [a, b] m q) X.env = pure none := by
      rw [Bool.or_eq_true] at h4
      rcases h4 with h4 | h4
      · exact offP_ok O h4
      · rw [Bool.and_eq_true] at h4
        have v2 : [a, b].all (foldedForSure 8) = true := by
          show (foldedForSure 8 a && (foldedForSure 8 b && true)) = true
          rw [h4.1, h4.2]; rfl
        unfold swappedStores
        simp only [v2]
        simp
    refine (ps_asg ((snd e sc W X O _ _ h1).1 rfl) (pg_ok O t _ h2) rfl hw (by rw [asg_cons h2]; rfl)).imp fun D σ H ⟨w, env, st, hE, hS, q⟩ => ?_
    exact stE_seq hE hS q fun w1 v x st1 H1 l1 hE1 hS1 rv h1 => set_tail hE1 hS1 rv h1
  · cases h
theorem ss_par {i j : Nat} {a b : ME} : SndS P Φ fa k N (.par i j a b) := fun sc W X O s h => by
  unfold ckS at h
  split at h
  · rename_i x px y py kt pt u v k2 pt2 pos
    simp only [Bool.and_eq_true, decide_eq_true_eq] at
                                                       h
    obtain ⟨⟨⟨⟨⟨hij, h1⟩, h2⟩, h3⟩, h4⟩, h5⟩ := h
    obtain ⟨n1, n2, _⟩ := name_of O h1
    obtain ⟨_, n4, _⟩ := name_of O h2
    have hw := parC_ok (pt := pt) (pt2 := pt2) (kt := kt) (k2 := k2) O h3
    unfold parC at h3
    simp only [Bool.and_eq_true, decide_eq_true_eq, Bool.not_eq_true'] at h3
    obtain ⟨⟨⟨⟨⟨⟨⟨⟨g1, g2⟩, g3⟩, g4⟩, g5⟩, g6⟩, g7⟩, g8⟩, g9⟩ := h3
    have hp : plain [u, v] = true := by unfold plain; rw [List.all_cons, List.all_cons, g6, g7]; rfl
    have pa := (PEs.cons ((snd a sc W X O _ _ h4).1 rfl) (.cons ((snd b sc W X O _ _ h5).1 rfl) .nil)).pa hp
    refine (ps_par O.calm n1 n2 n4 hij (by rw [O.sco]; exact g2) (by rw [O.sco]; exact g3) pa hw).imp fun D σ H ⟨w, env, st, hE, hS, q⟩ => ?_
    replace q : Post X.K w ((evalE P Φ a env st).then_ fun v st => (evalE P Φ b env st).then_ fun u st => if i < env.length ∧ j < env.length then R.ok (Fl.next ((env.set i (some v)).set j (some u))) st else .stuck) (FA X.K D) (XA W) := q
    have q2 : Post X.K w ((evalEs P Φ [a, b] env st).then_ fun vs st => match vs with
      | [v, u] => if i < env.length ∧ j < env.length then R.ok (Fl.next ((env.set i (some v)).set j (some u))) st else .stuck
      | _ => .stuck) (FA X.K D) (XA W) := by
      have e : ((evalEs P Φ [a, b] env st).then_ fun vs st => (match vs with
        | [v, u] => if i < env.length ∧ j < env.length then R.ok (Fl.next ((env.set i (some v)).set j (some u))) st else .stuck
        | _ => .stuck : R Fl)) = (evalE P Φ a env st).then_ fun v st => (evalE P Φ b env st).then_ fun u st => if i < env.length ∧ j < env.length then R.ok (Fl.next ((env.set i (some v)).set j (some u))) st else .stuck := by
        show (((evalE P Φ a env st).then_ fun v st => ((evalE P Φ b env st).then_ fun u st => R.ok [u] st).then_ fun vs st => R.ok (v :: vs) st).then_ _) = _
        cases evalE P Φ a env st with
        | ok v st1 =>
          show (((evalE P Φ b env st1).then_ fun u st => R.ok [u] st).then_ fun vs st => R.ok (v :: vs) st).then_ _ = (evalE P Φ b env st1).then_ _
          cases evalE P Φ b env st1 <;> rfl
        | err c ns vs st => rfl
        | stuck => rfl
      rw [e]; exact q
    refine stA_seq hE hS q2 fun w1 vs xs st1 H1 l1 hE1 hS1 rv h1 => ?_
    split at h1
    · rename_i v u
      obtain ⟨y1, y2, rfl, r1, r2⟩ := two_rel rv
      split at h1
      · exact ⟨y1, y2, rfl, h1 w1 H1 (Le.refl _) hS1 _ ((hE1.set i r1).set j r2)⟩
      · exact h1.elim
    · exact h1.elim
  · cases h
theorem ss_par3 {i j l : Nat} {ms : List ME} : SndS P Φ fa k N (.par3 i j l ms) := fun sc W X O s h => by
  unfold ckS at h
  split at h
  · rename_i x px y py z pz kt pt u v t k2 pt2 pos
    simp only [Bool.and_eq_true, decide_eq_true_eq] at
                                                       h
    obtain ⟨⟨⟨⟨⟨⟨⟨hij, hil⟩, hjl⟩, h1⟩, h2⟩, h2'⟩, h3⟩, h4⟩ := h
    obtain ⟨n1, n2, _⟩ := name_of O h1
    obtain ⟨_, n4, _⟩ := name_of O h2
    obtain ⟨_, n5, _⟩ := name_of O h2'
    have hw := par3C_ok (pt := pt) (pt2 := pt2) (kt := kt) (k2 := k2) O h3
    unfold par3C at h3
    simp only [Bool.and_eq_true, decide_eq_true_eq, Bool.not_eq_true'] at h3
    obtain ⟨⟨⟨⟨⟨⟨⟨⟨⟨⟨⟨⟨⟨g1, g2⟩, g3⟩, g3'⟩, _⟩, _⟩, _⟩, _⟩, _⟩, g6⟩, g7⟩, g7'⟩, _⟩, _⟩ := h3
    have hp : plain [u, v, t] = true := by unfold plain; rw [List.all_cons, List.all_cons, List.all_cons, g6, g7, g7']; rfl
    have pa := ((snds ms).es O h4).pa hp
    refine (ps_par3 O.calm n1 n2 n4 n5 hij hil hjl (by rw [O.sco]; exact g2) (by rw [O.sco]; exact g3) (by rw [O.sco]; exact g3') pa hw).imp fun D σ H ⟨w, env, st, hE, hS, q⟩ => ?_
    refine stA_seq hE hS q fun w1 vs xs st1 H1 l1 hE1 hS1 rv h1 => ?_
    split at h1
    · obtain ⟨y1, y2, y3, rfl, r1, r2, r3⟩ := three_rel rv
      split at h1
      · exact ⟨y1, y2, y3, rfl, h1 w1 H1 (Le.refl _) hS1 _ (((hE1.set i r1).set j r2).set l r3)⟩
      · exact h1.elim
    · exact h1.elim
  · cases h
theorem ss_fld {o e : ME} {f : Str} : SndS P Φ fa k N (.fld o f e) := fun sc W X O s h => by
  unfold ckS at h
  split at h
  · simp only [Bool.and_eq_true, decide_eq_true_eq] at
                                                       h
    obtain ⟨⟨⟨rfl, h1⟩, h2⟩, h3⟩ := h
    refine (ps_fld ((snd o sc W X O _ _ h2).1 rfl) ((snd e sc W X O _ _ h3).1 rfl) (noComp_ok h1 _ _ _)).imp fun D σ H ⟨w, env, st, hE, hS, q⟩ => ?_
    refine stE_seq hE hS q fun w1 v y st1 H1 l1 hE1 hS1 rv h1 => ?_
    refine stE_seq hE1 hS1 h1 fun w2 z x st2 H2 l2 hE2 hS2 rz h2 => ?_
    cases e1 : fldSet P st2 z f v with
    | none => rw [e1] at h2; exact h2.elim
    | some st3 =>
      rw [e1] at h2
      unfold fldSet at e1
      split at e1
      · rename_i i
        split at e1
        · rename_i c ns vs e2
          split at e1
          · rename_i hc
            cases e1
            obtain ⟨p, rfl, ep⟩ := rz
            obtain ⟨dx, fs, hp, hn, rr⟩ := hS2.obj i p _ ep e2
            have pr := putV_rel (f := f) (RV.mono l2 v rv) hn rr
            refine ⟨p, cA X.K c, dx, fs, rfl, hp, O.lk.cl c hc.2.2, O.lk.na c f hc.2.1, by rw [← hn, List.length_map] at hc; exact hc.1, ?_⟩
            exact h2 w2 _ (Le.refl _) (hS2.set ep ⟨dx, _, upd_same, pr.1, pr.2⟩) σ hE2
          · cases e1
        · cases e1
      · cases e1
  · cases h
theorem ss_fldaug {o e : ME} {f : Str} {op : Bop} : SndS P Φ fa k N (.fldaug o f op e) := fun sc W X O s h => by
  unfold ckS at h
  split at h
  · simp only [Bool.and_eq_true, decide_eq_true_eq] at
                                                       h
    rename_i x g tp q y pos
    simp only [Bool.or_eq_true, decide_eq_true_eq] at h
    obtain ⟨⟨⟨⟨ho, rfl⟩, rfl⟩, h2⟩, h3⟩ := h
    have main : ∀ rdo, InOp X (pyop op) rdo → (∀ i j kk x y H Q, binJ op i (.int j) = some kk → x = .int i → y = .int j → Q (.int kk) H → rdo x y H Q) → PS X (.AugAssign (.Attribute x f tp) (pyop op) y pos) (rdF X.K W (evalS P Φ (.fldaug o f op e))) := by
      intro rdo hop hrd
      refine (ps_fldaug ((snd o sc W X O _ _ h2).1 rfl) ((snd e sc W X O _ _ h3).1 rfl) hop).imp fun D σ H ⟨w, env, st, hE, hS, q⟩ => ?_
      refine stE_seq hE hS q fun w1 z x st1 H1 l1 hE1 hS1 rz h1 => ?_
      cases e1 : fldGet P st1 z f with
      | none => rw [e1] at h1; exact h1.elim
      | some ci =>
        obtain ⟨c, i⟩ := ci
        rw [e1] at h1
        unfold fldGet at e1
        split at e1
        · rename_i c' ns vs e2
          split at e1
          · rename_i hc
            split at e1
            · rename_i i' e3
              cases e1
              obtain ⟨p, dx, fs, rfl, hp, hn, rr⟩ := insOf_rel hS1 rz e2
              obtain ⟨y0, hy0, ry0⟩ := (fld_rel hn rr).1 _ e3
              cases (show y0 = .int _ from ry0)
              refine ⟨p, _, dx, fs, _, rfl, hp, O.lk.cl c hc.1, O.lk.na c f hc.2, hy0, ?_⟩
              refine stE_seq hE1 hS1 h1 fun w2 v y st2 H2 l2 hE2 hS2 rv h2 => ?_
              cases e4 : binJ op i v with
              | none => rw [e4] at h2; exact h2.elim
              | some kk =>
                rw [e4] at h2
                have hv : ∃ j, v = .int j := by
                  unfold binJ at e4
                  split at e4
                  · exact ⟨_, rfl⟩
                  · exact ⟨_, rfl⟩
                  · cases e4
                obtain ⟨j, rfl⟩ := hv
                replace h2 : Post X.K w2 (if (insOf st2 z).map (·.1) = some c then (match fldSet P st2 z f (.int kk) with
                  | some st' => R.ok (Fl.next env) st'
                  | none => .stuck) else .stuck) (FA X.K D) (XA W) := h2
                split at h2
                · rename_i hcl
                  cases e5 : fldSet P st2 z f (.int kk) with
                  | none => rw [e5] at h2; exact h2.elim
                  | some st3 =>
                    rw [e5] at h2
                    unfold fldSet at e5
                    split at e5
                    · rename_i ii
                      split at e5
                      · rename_i c2 ns2 vs2 e6
                        split at e5
                        · rename_i hc2
                          cases e5
                          have hcc : c2 = c := by
                            have h6 : insOf st2 (.ref ii) = some (c2, ns2, vs2) := by simp [insOf, e6]
                            rw [h6] at hcl
                            exact Option.some.inj hcl
                          obtain ⟨p', e7, ep⟩ := RV.mono l2 _ rz
                          cases e7
                          obtain ⟨dx2, fs2, hp2, hn2, rr2⟩ := hS2.obj ii _ _ ep e6
                          subst hcc
                          have pr := putV_rel (K := X.K) (w := w2) (f := f) (y := .int kk) (x := .int kk) rfl hn2 rr2
                          refine hrd i j kk _ _ _ _ e4 rfl rv ⟨dx2, fs2, hp2, by rw [← hn2, List.length_map] at hc2; exact hc2.1, ?_⟩
                          exact h2 w2 _ (Le.refl _) (hS2.set ep ⟨dx2, _, upd_same, pr.1, pr.2⟩) σ hE2
                        · cases e5
                      · cases e5
                    · cases e5
                · exact h2.elim
            · cases e1
          · cases e1
        · cases e1
    rcases ho with rfl | rfl
    · exact main rAdd in_add fun i j kk x y H Q e hx hy q => ⟨i, j, hx, hy, by cases e; exact q⟩
    · exact main rSub in_sub fun i j kk x y H Q e hx hy q => ⟨i, j, hx, hy, by cases e; exact q⟩
  · cases h
theorem ss_sub {o i e : ME} : SndS P Φ fa k N (.sub o i e) := fun sc W X O s h => by
  unfold ckS at h
  split at h
  · simp only [Bool.and_eq_true] at h
    obtain ⟨⟨⟨⟨⟨h1, h2⟩, h0⟩, h3⟩, h4⟩, h5⟩ := h
    rename_i x y p2 z pos
    refine (ps_asg (pos := pos) ((snd e sc W X O _ _ h5).1 rfl) (pg_sub (pos := p2) ((snd o sc W X O _ _ h3).1 rfl) ((snd i sc W X O _ _ h4).1 rfl) set_list (by intro v; cases y <;> first | rfl | cases h0)) (noComp_ok h2 (some (.Subscript x y p2)) pos.line X.env) (noTup_ok h1 _) rfl).imp fun D σ H ⟨w, env, st, hE, hS, q⟩ => ?_
    refine stE_seq hE hS q fun w1 v yv st1 H1 l1 hE1 hS1 rv h1 => ?_
    refine stE_seq hE1 hS1 h1 fun w2 u xv st2 H2 l2 hE2 hS2 ru h2 => ?_
    refine stE_seq hE2 hS2 h2 fun w3 t iv st3 H3 l3 hE3 hS3 rt h3 => ?_
    cases e1 : setV st3 u t v with
    | none => rw [e1] at h3; exact h3.elim
    | some st4 =>
      rw [e1] at h3
      unfold setV at e1
      split at e1
      · rename_i kk j
        split at e1
        · rename_i xs e2
          obtain ⟨n, e3, rfl⟩ := Option.map_eq_some_iff.mp e1
          obtain ⟨p, rfl, ep⟩ := RV.mono l3 _ ru
          obtain ⟨ys, hp, hz, rr⟩ := hS3.obj kk p _ ep e2
          cases (show iv = .int j from rt)
          refine ⟨p, ys, j, n, rfl, rfl, hp, by rw [← rr.length]; exact e3, ?_⟩
          exact h3 w3 _ (Le.refl _) (hS3.set ep ⟨_, upd_same, by rw [List.length_set]; exact hz, rr.set n (RV.mono (l2.trans l3) v rv)⟩) σ hE3
        · cases e1
      · cases e1
  · cases h
theorem ss_aug {i : Nat} {op : Bop} {e : ME} : SndS P Φ fa k N (.aug i op e) := fun sc W X O s h => by
  unfold ckS at h
  split at h
  · rename_i x p q y pos
    simp only [Bool.and_eq_true, Bool.or_eq_true, decide_eq_true_eq] at h
    obtain ⟨⟨⟨⟨ho, h1⟩, hx⟩, rfl⟩, h5⟩ := h
    obtain ⟨n1, n2, _⟩ := name_of O h1
    have hloc : Loc X.env.scope x ∧ (X.fn x = true ∨ X.env.scope.names.lookup x = some .local) := by
      rw [O.sco]
      unfold stOk at hx
      simp only [Bool.or_eq_true, Bool.and_eq_true, decide_eq_true_eq] at hx
      rcases hx with hx | ⟨h1, h2⟩
      · exact ⟨.inl hx, .inr hx⟩
      · exact ⟨.inr h2, .inl (O.fn h1 x)⟩
    have main : ∀ f : Int → Int → Int, PIp X (pyop op) (ipI f) → (∀ a v kk, binJ op a v = some kk → ∃ j, v = .int j ∧ kk = f a j) → PS X (.AugAssign (.Name x p) (pyop op) y pos) (rdF X.K W (evalS P Φ (.aug i op e))) := by
      intro f hip hf
      refine (ps_aug n1 n2 hloc.1 ((snd e sc W X O _ _ h5).1 rfl) hip hloc.2).imp fun D σ H ⟨w, env, st, hE, hS, q⟩ => ?_
      replace q : Post X.K w (match env[i]? with
        | some (some (.int a)) => (evalE P Φ e env st).then_ fun v st => (match binJ op a v with
          | some k => R.ok (Fl.next (env.set i (some (.int k)))) st
          | none => .stuck)
        | _ => .stuck) (FA X.K D) (XA W) := q
      split at q
      · rename_i a ea
        obtain ⟨xv, e1, r1⟩ := hE.2 i _ ea
        cases (show xv = .int a from r1)
        refine ⟨_, e1, stE_seq hE hS q fun w1 v yv st1 H1 l1 hE1 hS1 rv h1 => ?_⟩
        cases e2 : binJ op a v with
        | none => rw [e2] at h1; exact h1.elim
        | some kk =>
          rw [e2] at h1
          obtain ⟨j, rfl, rfl⟩ := hf a v kk e2
          exact ⟨a, j, rfl, rv, h1 w1 H1 (Le.refl _) hS1 _ (hE1.set i rfl)⟩
      · exact q.elim
    rcases ho with rfl | rfl
    · exact main _ ip_add fun a v kk e => by
        cases v <;> first | (cases e; done) | skip
        cases e; exact ⟨_, rfl, rfl⟩
    · exact main _ ip_sub fun a v kk e => by
        cases v <;> first | (cases e; done) | skip
        cases e; exact ⟨_, rfl, rfl⟩
  · cases h
theorem ss_ret {e : ME} : SndS P Φ fa k N (.ret e) := fun sc W X O s h => by
  unfold ckS at h
  split at h
  · refine (ps_ret ((snd e sc W X O _ _ h).1 rfl)).imp fun D σ H ⟨w, env, st, hE, hS, q⟩ => ?_
    exact stE_seq hE hS q fun w1 v y st1 H1 l1 hE1 hS1 rv h1 => h1 w1 H1 (Le.refl _) hS1 _ rv
  · cases h
theorem ss_retN : SndS P Φ fa k N .retN := fun sc W X O s h => by
  unfold ckS at h
  split at h
  · exact ps_retN.imp fun D σ H ⟨w, env, st, hE, hS, q⟩ => q w H (Le.refl _) hS _ rfl
  · cases h
theorem ss_ite {c : ME} {a b : List MS} (ha : SndSs P Φ fa k N a) (hb : SndSs P Φ fa k N b) : SndS P Φ fa k N (.ite c a b) := fun sc W X O s h => by
  unfold ckS at h
  split at h
  · simp only [Bool.and_eq_true] at h
    refine (ps_if ((snd c sc W X O _ _ h.1.1).2 rfl) (ha sc W X O _ h.1.2) (hb sc W X O _ h.2)).imp fun D σ H ⟨w, env, st, hE, hS, q⟩ => ?_
    refine stT_seq hE hS q fun w1 b st1 H1 l1 hE1 hS1 h1 => ?_
    cases b with
    | true => exact ⟨w1, env, st1, hE1, hS1, h1⟩
    | false => exact ⟨w1, env, st1, hE1, hS1, h1⟩
  · cases h
theorem ss_pass : SndS P Φ fa k N .pass := fun sc W X O s h => by
  unfold ckS at h
  split at h
  · exact ps_pass.imp fun D σ H ⟨w, env, st, hE, hS, q⟩ => q w H (Le.refl _) hS σ hE
  · exact ps_doc.imp fun D σ H ⟨w, env, st, hE, hS, q⟩ => q w H (Le.refl _) hS σ hE
  · cases h
theorem ss_brk : SndS P Φ fa k N .brk := fun sc W X O s h => by
  unfold ckS at h
  split at h
  · exact ps_break.imp fun D σ H ⟨w, env, st, hE, hS, q⟩ => q w H (Le.refl _) hS σ hE
  · cases h
theorem ss_cont : SndS P Φ fa k N .cont := fun sc W X O s h => by
  unfold ckS at h
  split at h
  · exact ps_continue.imp fun D σ H ⟨w, env, st, hE, hS, q⟩ => q w H (Le.refl _) hS σ hE
  · cases h
theorem ss_never : SndS P Φ fa k N .never := fun sc W X O s h => ps_never.imp fun D σ H ⟨w, env, st, hE, hS, q⟩ => q
/-- a loop's turns -/
theorem ss_for {t : MT} {kd : SrcK} {es : List ME} {body : List MS} (hb : SndSs P Φ fa k N body) : SndS P Φ fa k N (.for_ t kd es body) := fun sc W X O s h => by
  unfold ckS at h
  split at h
  · simp only [Bool.and_eq_true] at h
    obtain ⟨⟨⟨h1, h2⟩, h3⟩, h4⟩ :=
                                   h
    refine (ps_for O.po O.calm (ckSrc_ok (snds es) O h2) (pg_ok O t _ h3) (hb sc W X O _ h4) (noSet_ok h1 _)).imp fun D σ H ⟨w, env, st, hE, hS, q⟩ => ?_
    let step : Val → Env → Store → R Fl := fun x env st => match bindT t x env with
        | none => .stuck
        | some env' => evalSs P Φ body env' st
    replace q : Post X.K w ((srcE P Φ kd es env st).then_ fun p st => loopF step p.2 p.1 env st) (FA X.K D) (XA W) := q
    refine stS_seq hE hS q fun w1 p st1 H1 l1 hE1 hS1 h1 J itw => ?_
    obtain ⟨items, live⟩ := p
    simp only at itw h1
    refine ⟨fun i m σ H => ∃ w' env' st', LeR w1 w' ∧ RE X.K w' env' σ ∧ RS X.K w' st' H ∧ i ≤ items.length ∧ m = items.length - i ∧ Post X.K w' (loopF step live (items.drop i) env' st') (FA X.K D) (XA W),
      ⟨items.length, w1, env, st1, LeR.refl _, hE1, hS1, Nat.zero_le _, by omega, h1⟩, ?_⟩
    rintro i m σ2 H2 ⟨w', env', st', l', hE', hS', hi, rfl, hp⟩
    by_cases hlt : i < items.length
    · have hdrop : items.drop i = items[i] :: items.drop (i + 1) := List.drop_eq_getElem_cons hlt
      rw [hdrop] at hp
      unfold loopF at hp
      split at hp
      · rename_i hstill0
        have hstill := still_of hstill0
        refine .inr ⟨itw.go _ st' H2 i l' hS' hstill hlt, fun σ' H' => ∃ m', m' < items.length - i ∧ ∃ w' env' st', LeR w1 w' ∧ RE X.K w' env' σ' ∧ RS X.K w' st' H' ∧ i + 1 ≤ items.length ∧ m' = items.length - (i + 1) ∧ Post X.K w' (loopF step live (items.drop (i + 1)) env' st') (FA X.K D) (XA W), fun σ' H' ⟨m', a, b⟩ => ⟨m', a, b⟩, fun x H3 hy => ?_⟩
        obtain ⟨w2, l2, s2, rx⟩ := itw.yld _ st' H2 i items[i] x H3 l' hS' hstill (by simp [hlt]) hy
        have hp2 := (Post.mono l2 hp).seq
        cases hbd : bindT t items[i] env' with
        | none =>
          have : step items[i] env' st' = .stuck := by show (match bindT t items[i] env' with | none => R.stuck | some env' => evalSs P Φ body env' st') = _; rw [hbd]
          rw [this] at hp2; exact hp2.elim
        | some env2 =>
          have : step items[i] env' st' = evalSs P Φ body env2 st' := by show (match bindT t items[i] env' with | none => R.stuck | some env' => evalSs P Φ body env' st') = _; rw [hbd]
          rw [this] at hp2
          refine ⟨w2, env', st', items[i], env2, hE'.mono l2, s2, rx, hbd, fun σ' hE2 _ => ⟨w2, env2, st', hE2, s2, hp2.imp fun w3 f st3 H4 l3 s3 h3 => ?_⟩⟩
          cases f with
          | next env3 => exact fun σ3 hE3 => ⟨_, by omega, w3, env3, st3, (l'.trans l2.r).trans l3.r, hE3, s3, hlt, rfl, h3⟩
          | cont env3 => exact fun σ3 hE3 => ⟨_, by omega, w3, env3, st3, (l'.trans l2.r).trans l3.r, hE3, s3, hlt, rfl, h3⟩
          | brk env3 => exact fun σ3 hE3 => h3 w3 H4 (Le.refl _) s3 σ3 hE3
          | ret v => exact h3 w3 H4 (Le.refl _) s3
      · exact hp.elim
    · have hi' : i = items.length := by omega
      subst hi'
      rw [List.drop_length] at hp
      unfold loopF at hp
      split at hp
      · rename_i hstill0
        have hstill := still_of hstill0
        exact .inl ⟨itw.stop _ st' H2 _ l' hS' hstill (Nat.le_refl _), hp w' H2 (Le.refl _) hS' σ2 hE'⟩
      · exact hp.elim
  · cases h
theorem ss_while {c : ME} {body : List MS} (hb : SndSs P Φ fa k N body) : SndS P Φ fa k N (.while_ c body) := fun sc W X O s h => by
  unfold ckS at h
  split at h
  · rw [Bool.and_eq_true] at h
    refine (ps_while O.po ((snd c sc W X O _ _ h.1).2 rfl) (hb sc W X O _ h.2)).imp fun D σ H ⟨w, env, st, hE, hS, q⟩ => ?_
    let cc : Env → Store → R Bool := fun env st => evalT P Φ c env st
    let step : Env → Store → R Fl := fun env st => evalSs P Φ body env st
    refine ⟨fun m σ H => ∃ w env st, RE X.K w env σ ∧ RS X.K w st H ∧ Post X.K w (loopW cc step m env st) (FA X.K D) (XA W), ⟨P.fuel, w, env, st, hE, hS, q⟩, ?_⟩
    rintro m σ2 H2 ⟨w', env', st', hE', hS', hp⟩
    cases m with
    | zero => exact hp.elim
    | succ m =>
      replace hp : Post X.K w' ((evalT P Φ c env' st').then_ fun b st1 => match b with
        | false => .ok (.next env') st1
        | true => (step env' st1).then_ fun f st' => match f with
          | .next env' => loopW cc step m env' st'
          | .cont env' => loopW cc step m env' st'
          | .brk env' => .ok (.next env') st'
          | .ret v => .ok (.ret v) st') (FA X.K D) (XA W) := hp
      refine stT_seq hE' hS' hp fun w1 b st1 H1 l1 hE1 hS1 h1 => ?_
      cases b with
      | false => exact h1 w1 H1 (Le.refl _) hS1 σ2 hE1
      | true =>
        simp only [if_true]
        refine ⟨fun σ' H' => ∃ w env st, RE X.K w env σ' ∧ RS X.K w st H' ∧ Post X.K w (loopW cc step m env st) (FA X.K D) (XA W), fun σ' H' q => ⟨m, Nat.lt_succ_self _, q⟩, w1, env', st1, hE1, hS1, (Post.seq h1).imp fun w3 f st3 H4 l3 s3 h3 => ?_⟩
        cases f with
        | next env3 => exact fun σ3 hE3 => ⟨w3, env3, st3, hE3, s3, h3⟩
        | cont env3 => exact fun σ3 hE3 => ⟨w3, env3, st3, hE3, s3, h3⟩
        | brk env3 => exact fun σ3 hE3 => h3 w3 H4 (Le.refl _) s3 σ3 hE3
        | ret v => exact h3 w3 H4 (Le.refl _) s3
  · cases h
mutual
theorem sndS : ∀ m : MS, SndS P Φ fa k N m
  | .expr e => ss_expr
  | .set t e => ss_set
  | .setc i e => ss_setc
  | .sett t e => ss_sett
  | .par i j a b => ss_par
  | .par3 i j l es => ss_par3
  | .fld o f e => ss_fld
  | .fldaug o f op e => ss_fldaug
  | .sub o i e => ss_sub
  | .aug i op e => ss_aug
  | .ret e => ss_ret
  | .retN => ss_retN
  | .ite c a b => ss_ite (sndSs a) (sndSs b)
  | .for_ t k es body => ss_for (sndSs body)
  | .while_ c body => ss_while (sndSs body)
  | .pass => ss_pass
  | .brk => ss_brk
  | .cont => ss_cont
  | .never => ss_never
theorem sndSs : ∀ ms : List MS, SndSs P Φ fa k N ms
  | [] => ss_nil
  | m :: ms => ss_cons (sndS m) (sndSs ms)
end
end
end Mp
end

section
set_option Elab.async false
set_option linter.all false
set_option maxRecDepth 100000
set_option maxHeartbeats
                         1000000
namespace Mp
open PySem L2 PySem.Spec PyProof.Rows

/-! ### how a call's arguments reach the parameters -/
/-- a default as data -/
def absD : V → Option Val
  | .non => some .non
  | .bl b => some (.bl b)
  | .int i => some (.int i)
  | .str x => if x.length ≤ 65536 ∧ PyData.strOk x = true then some (.str x) else none
  | _ => none
theorem absD_ok {K : PySem.W.Frag} {x : V} {v : Val} (h : absD x = some v) (w : Wd) : RV K w v x := by
  cases x with
  | non => cases h; rfl
  | bl b => cases h; rfl
  | int i => cases h; rfl
  | str y =>
    simp only [absD] at h
    split at h
    · rename_i hy
      cases h
      exact ⟨rfl, Nat.le_trans hy.1 (by rw [sizeLine_eq]; omega), hy.2⟩
    · cases h
  | _ => cases h
/-- one parameter's value: what is written, or the j-th of the defaults at hand; the surplus as t -/
def pick {α : Type} (us ws dd : List α) (t : α) : Src → Option α
  | .pos i => us[i]?
  | .kw i => ws[i]?
  | .dfl j _ => dd[j]?
  | .rest _ => some t
def picks {α : Type} (us ws dd : List α) (t : α) : List Src → Option (List α)
  | [] => some []
  | s :: r => match pick us ws dd t s with
    | none => none
    | some v => (picks us ws dd t r).map (v :: ·)
/-- the defaults that a shape names stand in the list -/
def dflOk (dd : List V) : List Src → Bool
  | [] => true
  | .dfl j v :: r => (match (dd[j]?).bind absD with
    | some u => sameV u v
    | none => false) && dflOk dd r
  | _ :: r => dflOk dd r
where sameV : Val → Val → Bool
  | .non, .non => true
  | .bl a, .bl b => a == b
  | .int i, .int j => decide (i = j)
  | .str x, .str y => decide (x = y)
  | _, _ => false
theorem sameV_eq {u v : Val} (h : dflOk.sameV u v = true) : u = v := by
  cases u <;> cases v <;> first | (cases h; done) | rfl | skip
  · exact congrArg Val.bl (eq_of_beq h)
  · exact congrArg Val.int (of_decide_eq_true h)
  · exact congrArg Val.str (of_decide_eq_true h)
def noRest : List Src → Bool
  | [] => true
  | .rest _ :: _ => false
  | _ :: r => noRest r
/-- at most one surplus, at i -/
def restAt (i : Nat) : List Src → Bool
  | [] => true
  | .rest j :: r => decide (j = i) && restAt i r
  | _ :: r => restAt i r
theorem picks_vals {us ws dd : List Value} {xs zs dv : List V} {t : Value} {y : V} (r1 : Vals xs us) (r2 : Vals zs ws) (r3 : Vals dv dd) (r4 : RelV y t) : ∀ {tp : List Src} {args : List Value}, picks us ws dd t tp = some args → ∃ vs, picks xs zs dv y tp = some vs ∧ Vals vs args
  | [], args, h => by
    cases h
    exact ⟨[], rfl, .nil⟩
  | s :: r, args, h => by
    unfold picks at h
    cases e : pick us ws dd t s with
    | none => rw [e] at h; cases
                                 h
    | some u =>
      rw [e] at h
      obtain ⟨rest, h1, rfl⟩ := Option.map_eq_some_iff.mp h
      obtain ⟨vs, e2, rv⟩ := picks_vals r1 r2 r3 r4 h1
      have back : ∀ {as : List Value} {bs : List V} {i : Nat}, Vals bs as → as[i]? = some u → ∃ b, bs[i]? = some b ∧ RelV b u := by
        intro as bs i rr hi
        have hl : i < as.length := (List.getElem?_eq_some_iff.mp hi).1
        have hl2 : i < bs.length := by rw [rr.length]; exact hl
        obtain ⟨u', hu, ru⟩ := rr.get (List.getElem?_eq_getElem hl2)
        rw [hi] at hu
        cases hu
        exact ⟨_, List.getElem?_eq_getElem hl2, ru⟩
      obtain ⟨b, hb, rb⟩ : ∃ b, pick xs zs dv y s = some b ∧ RelV b u := by
        cases s with
        | pos i => exact back r1 e
        | kw i => exact back r2 e
        | dfl j v => exact back r3 e
        | rest i => cases e; exact ⟨y, rfl, r4⟩
      refine ⟨b :: vs, ?_, .cons rb rv⟩
      unfold picks
      rw [hb, e2]; rfl
/-- the same values in the small language -/
theorem picks_rel {K : PySem.W.Frag} {w : Wd} {va ka : List Val} {xs zs dv : List V} {y : V} (r1 : RVs K w va xs) (r2 : RVs K w ka zs) : ∀ {tp : List Src} {args : List Val} {vs : List V}, dflOk dv tp = true → (∀ i, Src.rest i ∈ tp → RV K w (.tup (va.drop i)) y) → srcs va ka tp = some args → picks xs zs dv y tp = some vs → RVs K w args vs
  | [], args, vs, hd, hr, h1, h2 => by
    cases h1; cases h2; exact RVs.nil
  | s :: r, args, vs, hd, hr, h1, h2 => by
    unfold picks at h2
    cases e : pick xs zs dv y s with
    | none => rw [e] at h2; cases
                                  h2
    | some x =>
      rw [e] at h2
      obtain ⟨vr, e2, rfl⟩ := Option.map_eq_some_iff.mp h2
      have hr' : ∀ i, Src.rest i ∈ r → RV K w (.tup (va.drop i)) y := fun i hi => hr i (List.mem_cons_of_mem _ hi)
      cases s with
      | pos i =>
        unfold srcs at h1
        split at h1
        · rename_i v ev
          obtain ⟨ar, e3, rfl⟩ := Option.map_eq_some_iff.mp h1
          obtain ⟨x', hx, rx⟩ := r1.get ev
          have e' : xs[i]? = some x := e
          rw [hx] at e'
          cases e'
          exact .cons rx (picks_rel (tp := r) r1 r2 (show dflOk dv r = true from hd) hr' e3 e2)
        · cases h1
      | kw i =>
        unfold srcs at h1
        split at h1
        · rename_i v ev
          obtain ⟨ar, e3, rfl⟩ := Option.map_eq_some_iff.mp h1
          obtain ⟨x', hx, rx⟩ := r2.get ev
          have e' : zs[i]? = some x := e
          rw [hx] at e'
          cases e'
          exact .cons rx (picks_rel (tp := r) r1 r2 (show dflOk dv r = true from hd) hr' e3 e2)
        · cases h1
      | dfl j v =>
        unfold srcs at h1
        obtain ⟨ar, e3, rfl⟩ := Option.map_eq_some_iff.mp h1
        unfold dflOk at hd
        rw [Bool.and_eq_true] at hd
        obtain ⟨hd1, hd2⟩ := hd
        have e' : dv[j]? = some x := e
        rw [e'] at hd1
        replace hd1 : (match absD x with | some u => dflOk.sameV u v | none => false) = true := hd1
        cases e4 : absD x with
        | none => rw [e4] at hd1; cases hd1
        | some u =>
          rw [e4] at hd1
          have := sameV_eq hd1
          subst this
          exact .cons (absD_ok e4 w) (picks_rel (tp := r) r1 r2 hd2 hr' e3 e2)
      | rest i =>
        unfold srcs at h1
        split at h1
        · obtain ⟨ar, e3, rfl⟩ := Option.map_eq_some_iff.mp h1
          cases e
          exact .cons (hr i (by simp)) (picks_rel (tp := r) r1 r2 (show dflOk dv r = true from hd) hr' e3 e2)
        · cases h1
/-- t asks the dict at D for the names, one behind another, and goes on as r -/
def Asks {α : Type} (D : Addr) (r : Sem α) : List (Str × Value) → Sem α → Prop
  | [], t => t = r
  | p :: l, t => ∃ (β γ : Type) (f : Option Value → Sem β) (g : β → Sem γ) (h : γ → Sem α) (b : β), t = nsGet D p.1 >>= f >>= g >>= h ∧ f (some p.2) = pure b ∧ Asks D r l (g b >>= h)
theorem Asks.run {α : Type} {K : PySem.W.Frag} {M : Model} {A : Around} {D : Addr} {r : Sem α} {Q : α → Shared → Prop} {E : Value → Shared → Prop} {s : Shared} (X : K.In s.heap) (hr : wpAny M A r Q E s) : ∀ {l : List (Str × Value)} {t : Sem α}, (∀ q ∈ l, PySem.W.nsIn K D q.1 = some (some q.2)) → Asks D r l t → wpAny M A t Q E s
  | [], t, _, h => by cases (show t = r from h); exact hr
  | p :: l, t, hl, h => by
    obtain ⟨β, γ, f, g, hh, b, rfl, e1, e3⟩ := h
    have ih := Asks.run X hr (fun q hq => hl q (List.mem_cons_of_mem _ hq)) e3
    rw [bind_assoc]
    refine wpAny_bind (wpAny_bind ((PySem.W.looks_nsIn X (hl p (List.mem_cons_self ..))).here ?_))
    rw [e1]
    exact wpAny_pure ih
/-- a shape of a call: positional arguments, keywords, the sources of the parameters -/
structure Shp where
  n : Nat
  kn : List Str
  tp : List Src
/-- a def's parameters: the names in order; the defaults and the keyword-only ones; the surplus' place (n positional parameters ahead) -/
structure Sig where
  name : Str
  qual : Str
  params : Arguments
  scope : Scope
  ps : List Str
  dvs : List V
  kws : List (Str × V)
  star : Option Nat
/-- the text's def as a function object -/
def Sig.fd (g : Sig) (body : List Stmt) (dV kV doc pm : Value) (an : Option Addr) (cdv ct : Value) : FuncData := PySem.W.fnOf g.name g.qual g.params body g.scope dV kV doc pm an cdv ct
/-- the keyword-only defaults that are asked for -/
def lacks (g : Sig) (kn : List Str) : List (Str × V) := g.kws.filter fun q => !kn.contains q.1
def pars (g : Sig) (h : Shp) (us ws dd : List Value) (t : Value) : List (Str × Value) := g.ps.zip ((picks us ws dd t h.tp).getD [])
def ends (g : Sig) (h : Shp) (us ws dd : List Value) : Sem (List (Str × Value)) := match g.star with
  | none => pure (pars g h us ws dd .none)
  | some i => newTuple (us.drop i) >>= fun t => pure (pars g h us ws dd t)
def kwdV (g : Sig) (D : Addr) (kV : Value) : Value := if g.kws.isEmpty then kV else .ref D
/-- what the model's binder does at a shape -/
def ShpOk (g : Sig) (h : Shp) : Prop :=
  ∀ (body : List Stmt) (T D : Addr) (kV doc pm : Value) (an : Option Addr) (cdv ct : Value) (us its mv ws : List Value), us.length = h.n → its.length = g.dvs.length → mv.length = (lacks g h.kn).length → ws.length = h.kn.length →
    (g.dvs = [] → Asks D (ends g h us ws (its ++ mv)) (((lacks g h.kn).map (·.1)).zip mv) (bindArgs (g.fd body .none (kwdV g D kV) doc pm an cdv ct) ⟨us, h.kn.zip ws⟩)) ∧
    (g.dvs ≠ [] → ∃ kk : Option (Array Value) → Sem (List (Str × Value)), bindArgs (g.fd body (.ref T) (kwdV g D kV) doc pm an cdv ct) ⟨us, h.kn.zip ws⟩ = (seqItems? (.ref T) >>= kk) ∧
      Asks D (ends g h us ws (its ++ mv)) (((lacks g h.kn).map (·.1)).zip mv) (kk (some its.toArray)))
def inB (n k d : Nat) : List Src → Bool
  | [] => true
  | .pos i :: r => decide (i < n) && inB n k d r
  | .kw i :: r => decide (i < k) && inB n k d r
  | .dfl j _ :: r => decide (j < d) && inB n k d r
  | .rest _ :: r => inB n k d r
theorem inB_some {α : Type} {us ws dd : List α} {t : α} : ∀ {tp : List Src}, inB us.length ws.length dd.length tp = true → ∃ args, picks us ws dd t tp = some args ∧ args.length = tp.length
  | [], _ => ⟨[], rfl, rfl⟩
  | s :: r, h => by
    have go : ∀ {v : α}, pick us ws dd t s = some v → inB us.length ws.length dd.length r = true → ∃ args, picks us ws dd t (s :: r) = some args ∧ args.length = (s :: r).length := by
      intro v hv hr
      obtain ⟨args, e, l⟩ := inB_some (t := t) hr
      refine ⟨v :: args, ?_, by simp [l]⟩
      unfold picks
      rw [hv, e]; rfl
    cases s with
    | pos i =>
      unfold inB at h
      rw [Bool.and_eq_true, decide_eq_true_eq] at
                                                  h
      exact go (List.getElem?_eq_getElem h.1) h.2
    | kw i =>
      unfold inB at h
      rw [Bool.and_eq_true, decide_eq_true_eq] at
                                                  h
      exact go (List.getElem?_eq_getElem h.1) h.2
    | dfl j v =>
      unfold inB at h
      rw [Bool.and_eq_true, decide_eq_true_eq] at
                                                  h
      exact go (List.getElem?_eq_getElem h.1) h.2
    | rest i => exact go rfl h
/-- a shape's plain checks -/
def shpB (g : Sig) (h : Shp) : Bool := inB h.n h.kn.length (g.dvs.length + (lacks g h.kn).length) h.tp && decide (h.tp.length = g.ps.length) && dflOk (g.dvs ++ (lacks g h.kn).map (·.2)) h.tp && decide (h.n ≤ 1000) && (match g.star with
  | none => noRest h.tp
  | some i => restAt i h.tp)
theorem noRest_no : ∀ {tp : List Src}, noRest tp = true → ∀ i, Src.rest i ∉ tp
  | [], _, _, h => by cases h
  | s :: r, h, i, hm => by
    rcases List.mem_cons.mp hm with e | hm2
    · subst e; cases h
    · cases s with
      | rest j => cases h
      | _ => exact noRest_no (tp := r) h i hm2
theorem restAt_of {k : Nat} : ∀ {tp : List Src}, restAt k tp = true → ∀ i, Src.rest i ∈ tp → i = k
  | [], _, _, h => by cases h
  | s :: r, h, i, hm => by
    rcases List.mem_cons.mp hm with e | hm2
    · subst e
      unfold restAt at h
      rw [Bool.and_eq_true, decide_eq_true_eq] at
                                                  h
      exact h.1
    · cases s with
      | rest j =>
        unfold restAt at h
        rw [Bool.and_eq_true] at h
        exact restAt_of h.2 i hm2
      | _ => exact restAt_of (tp := r) h i hm2
section
variable {P : Program} {w : World} {K : PySem.W.Frag} {mg : Str → Option Value} {base :
                                                                                        Heap}
def Gd (K : PySem.W.Frag) (h : Shp) (xs zs : List V) (H : Hp) : List V → Hp → Prop := fun vs H2 => ∀ wd st va ka args, RS K wd st H → RVs K wd va xs → RVs K wd ka zs → srcs va ka h.tp = some args → ∃ wd', Le wd wd' ∧ RS K wd' st H2 ∧ RVs K wd' args vs
theorem shp_bnd {g : Sig} {h : Shp} (so : ShpOk g h) (sb : shpB g h = true) {body : List Stmt} {dV kV doc pm : Value} {an : Option Addr} {cdv ct : Value} (hD : DflV K dV g.dvs) (hK : KwdV K kV g.kws)
    {A : Around} {outer : List PySem.Env} {s : Shared} {H : Hp} {us ws : List Value} {xs zs : List V} {E : XK} (e0 : Env0 P w K mg base A outer s H) (rx : Vals xs us) (rz : Vals zs ws) (ln : us.length = h.n) (lk : ws.length = h.kn.length) :
    StX.Bnd (L2.CX P w) P w K mg base (g.fd body dV kV doc pm an cdv ct) ⟨us, h.kn.zip ws⟩ g.ps A outer s H E (Gd K h xs zs H) := by
  intro A' Ex Q hq
  have KX : K.In s.heap := e0.mod.kin.keeps fun b o e => (e0.bs b o
                                                                    e).1
  unfold shpB at sb
  simp only [Bool.and_eq_true, decide_eq_true_eq] at sb
  obtain ⟨⟨⟨⟨b1, b2⟩, b3⟩, b4⟩, b5⟩ := sb
  -- the keyword-only defaults
  obtain ⟨D, mv, hDk, hml, rmv, hks⟩ : ∃ (D : Addr) (mv : List Value), kV = kwdV g D kV ∧ mv.length = (lacks g h.kn).length ∧ Vals ((lacks g h.kn).map (·.2)) mv ∧ ∀ q ∈ ((lacks g h.kn).map (·.1)).zip mv, PySem.W.nsIn K D q.1 = some (some q.2) := by
    rcases hK with e | ⟨D, rfl, hq⟩
    · have e2 : lacks g h.kn = [] := by unfold lacks; rw [e]; rfl
      refine ⟨0, [], ?_, by rw [e2]; rfl, by rw [e2]; exact .nil, by rw [e2]; intro q hq; cases hq⟩
      unfold kwdV
      rw [e]; rfl
    · obtain ⟨mv, h1, h2, h3⟩ := kwd_vals (ms := lacks g h.kn) fun q hm => hq q (List.mem_filter.mp hm).1
      refine ⟨D, mv, ?_, h1, h2, h3⟩
      unfold kwdV
      split <;> rfl
  -- the defaults
  obtain ⟨its, hil, rit, hrun⟩ : ∃ (its : List Value), its.length = g.dvs.length ∧ Vals g.dvs its ∧ (wpAny (model P w) A' (ends g h us ws (its ++ mv)) Q Ex s → wpAny (model P w) A' (bindArgs (g.fd body dV kV doc pm an cdv ct) ⟨us, h.kn.zip ws⟩) Q Ex s) := by
    rcases hD with ⟨e, rfl⟩ | ⟨e, T, o, its, m, rfl, lT, oT, rT⟩
    · refine ⟨[], by rw [e]; rfl, by rw [e]; exact .nil, fun hh => ?_⟩
      have e2 := (so body 0 D kV doc pm an cdv ct us [] mv ws ln (by rw [e]; rfl) hml lk).1 e
      rw [← hDk] at e2
      exact Asks.run KX hh hks e2
    · refine ⟨its, rT.length.symm, rT, fun hh => ?_⟩
      obtain ⟨kk, e1, e2⟩ := (so body T D kV doc pm an cdv ct us its mv ws ln rT.length.symm hml lk).2 e
      rw [← hDk] at e1
      rw [e1]
      exact wpAny_bind (wpAny_seqItems (KX _ _ lT) oT (Asks.run KX hh hks e2))
  refine hrun ?_
  have rdd : Vals (g.dvs ++ (lacks g h.kn).map (·.2)) (its ++ mv) := rit.append rmv
  have hin : inB us.length ws.length (its ++ mv).length h.tp = true := by
    rw [ln, lk, List.length_append, hil, hml]; exact b1
  unfold ends
  cases hst : g.star with
  | none =>
    rw [hst] at b5
    obtain ⟨args, ea, la⟩ := inB_some (t := Value.none) hin
    obtain ⟨vs, ev, rv⟩ := picks_vals rx rz rdd (show RelV V.non Value.none from rfl) ea
    refine wpAny_pure ?_
    unfold pars
    rw [ea]
    refine hq s H vs args e0 (Un.kept fun _ _ e => e) rfl (fun _ _ z => z) rv (by rw [rv.length, la, b2]) ?_
    intro wd st va ka ar hS r1 r2 hs
    exact ⟨wd, Le.refl _, hS, picks_rel r1 r2 b3 (fun i hi => absurd hi (noRest_no b5 i)) hs ev⟩
  | some i =>
    rw [hst] at b5
    have hn : H s.heap.objs.size = none := e0.hok.fresh (Nat.le_refl
                                                                     _)
    have hz : (us.drop i).length ≤ sizeLine := by rw [List.length_drop, ln, sizeLine_eq]; omega
    refine wpAny_bind (wpAny_newTuple (wpAny_pure ?_) hz)
    obtain ⟨args, ea, la⟩ := inB_some (t := Value.ref s.heap.objs.size) hin
    obtain ⟨vs, ev, rv⟩ := picks_vals rx rz rdd (show RelV (V.ref s.heap.objs.size) (Value.ref s.heap.objs.size) from rfl) ea
    unfold pars
    rw [ea]
    have new : ObjOk P w (upd H s.heap.objs.size (.tup (xs.drop i))) (s.heap.push ({ cls := .type "tuple", data := .seq (us.drop i).toArray } : Obj)) s.heap.objs.size (.tup (xs.drop i)) := ⟨by rw [(rx.drop i).length]; exact hz, us.drop i, rx.drop i, ⟨_, Heap.get?_push_size _ rfl, rfl, _, rfl⟩⟩
    have un := StX.un_laid (fs := frs outer) (s := s) (o := ({ cls := .type "tuple", data := .seq (us.drop i).toArray } : Obj)) (u := .tup (xs.drop i)) hn
    refine hq _ _ vs args (StX.env0_laid e0 new) un rfl (fun e s' => StX.cxUp outer s H _ _ E e s' un (fun b o q => Heap.get?_push_of_some _ q) rfl) rv (by rw [rv.length, la, b2]) ?_
    intro wd st va ka ar hS r1 r2 hs
    have le := RS.freeze_le (o := HO.tup (xs.drop i)) hS hn
    refine ⟨_, le, RS.freeze hS hn, picks_rel (RVs.mono le _ r1) (RVs.mono le _ r2) b3 (fun j hj => ?_) hs ev⟩
    have ej := restAt_of b5 j hj
    subst ej
    exact ⟨_, xs.drop j, rfl, .inl (.inl upd_same), by rw [List.length_drop, r1.length, rx.length, ln, sizeLine_eq]; omega, (RVs.mono le _ r1).drop j⟩
end
end Mp
end

section
set_option Elab.async false
set_option linter.all false
set_option maxRecDepth 100000
set_option maxHeartbeats
                         1000000
namespace Mp
open PySem L2 PySem.Spec PyProof.Rows

section
variable {P : Prog} {fa : Str → Addr} {prog : Program} {w : World} {K : PySem.W.Frag} {mg : Str → Option Value} {base : Heap} {d k : Nat}
theorem cx_ok {Φ : Cal} (L : Link P Φ fa prog w K mg base k) {N ps : List Str} {qual : Str} {scope : Scope} {f : Addr} {cdv : Value} {A : Around} {outer : List PySem.Env} {s : Shared} {H : Hp} {E : XK} (S : FnScope N ps scope) (hr : Room (k + 2) (A.deeper (envOfC qual scope s.heap.objs.size f cdv))) :
    OkX P Φ fa k N ⟨scope, true⟩ (fun c d _ H => E c d H) (cxOf (L2.CX prog w) prog w K mg base N qual scope f cdv A outer s H E) := by
  refine ⟨rfl, rfl, S.nd, fun _ _ => rfl, rfl, ?_, ?_, hr, L⟩
  · exact takes_of (X := cxOf (L2.CX prog w) prog w K mg base N qual scope f cdv A outer s H E) rfl rfl rfl rfl
  · exact passes_of (X := cxOf (L2.CX prog w) prog w K mg base N qual scope f cdv A outer s H E) rfl
theorem re_start {K : PySem.W.Frag} {wd : Wd} {args : List Val} {vs : List V} {N : List Str} {n : Nat} (r : RVs K wd args vs) (hn : n = N.length) : RE K wd (args.map some ++ List.replicate (n - args.length) none) (L2.start N vs) := by
  subst hn
  have hl := r.length
  refine ⟨by unfold L2.start; simp [hl], fun i v e => ?_⟩
  by_cases hi : i < args.length
  · rw [List.getElem?_append_left (by simpa using hi), List.getElem?_map] at e
    cases e1 : args[i]? with
    | none => rw [e1] at e; cases e
    | some u =>
      rw [e1] at e
      have e' : u = v := by simpa using e
      subst e'
      obtain ⟨x, hx, rx⟩ := r.get e1
      refine ⟨x, ?_, rx⟩
      unfold L2.start
      rw [List.getElem?_append_left (by rw [List.length_map, ← hl]; exact hi), List.getElem?_map, hx]; rfl
  · rw [List.getElem?_append_right (by simpa using hi), List.getElem?_replicate] at e
    split at e <;> cases e
theorem call_body (L : Link P (call P d) fa prog w K mg base k) {g : Sig} {N : List Str} {nm : Str} {F : MFun} {body : List Stmt} {fd : FuncData} (hF : P.fn nm = some F) (FD : FunD K g.name g.qual g.params body g.scope g.dvs g.kws (fa nm) fd)
    (S : FnScope N g.ps g.scope) (hns : F.ns = N.length) (hck : ckSs P N F.body ⟨g.scope, true⟩ body = true) {h : Shp} (so : ShpOk g h) (sb : shpB g h = true) : CallOk prog w K mg base (k + 3) (fa nm) h.n h.kn (spS K (call P (d + 1)) nm h.n h.kn h.tp) := by
  obtain ⟨oc, od, dV, kV, doc, pm, an, cdv, ct, osl, rfl, lk, hcd, hD, hK⟩ := FD.ex
  intro A outer s H us ws xs zs Q E hr e0 rx rz hsp
  obtain ⟨wd, st, va, ka, args, hS, rv, rk, ln, lkn, hsrc, hpost⟩ := hsp
  have ln' : us.length = h.n := by rw [← rx.length, ← rv.length]; exact ln
  have lk' : ws.length = h.kn.length := by rw [← rz.length, ← rk.length]; exact lkn
  refine StX.run_bnd lk hcd S hr e0 (shp_bnd so sb hD hK e0 rx rz ln' lk') fun s2 H2 vs hg hr' => ?_
  obtain ⟨wd', le, hS', ra⟩ := hg wd st va ka args hS rv rk hsrc
  refine ⟨_, sndSs F.body _ _ _ (cx_ok L S hr') body hck, wd', args.map some ++ List.replicate (F.ns - args.length) none, st, re_start ra hns, hS', ?_⟩
  have hp := Post.mono le hpost
  have e1 : call P (d + 1) nm args st = runF P (call P d) F args st := by
    show (match P.fn nm with | some F => runF P (call P d) F args st | none => .stuck) = _
    rw [hF]
  rw [e1] at hp
  unfold runF at hp
  split at hp
  · refine (hp.seq.imp fun w3 f st3 H3 l3 s3 h3 => ?_).impB fun c d H q σ => q
    cases f with
    | next env => exact fun σ' _ => h3 w3 H3 (Le.refl _) s3 _ rfl
    | ret v => exact fun x r => h3 w3 H3 (Le.refl _) s3 x r
    | brk env => exact h3.elim
    | cont env => exact h3.elim
  · exact hp.elim
/-- what does not hang on calls -/
structure LinkS (P : Prog) (fa : Str → Addr) (K : PySem.W.Frag) (mg : Str → Option Value) : Prop where
  kp : ∀ f n kn tp, P.bind f n kn = some tp → PySem.W.keepIn K (.ref (fa f)) = true
  pb : ∀ c f g, P.prop c f = some g → P.bind g 1 [] = some [.pos 0]
  gf : ∀ f, P.isg f = true → mg f = some (.ref (fa f))
  gc : ∀ c, P.isc c = true → mg c = some (.ref (cA K c)) ∧ PySem.W.keepIn K (.ref (cA K c)) = true ∧ bty c = none
  cl : ∀ c, P.isc c = true → Cls K (cA K c)
  mkC : ∀ c g, P.meth c "__init__" = some g → P.isc c = true → PySem.W.makesIn K (cA K c) = true ∧ PySem.W.findIn K (.ref (cA K c)) "__init__" = some (some (.ref (fa g))) ∧ PySem.W.isFn K (.ref (fa g)) = true
  me : ∀ c m g, P.meth c m = some g → P.isc c = true → Meth K (cA K c) m (fa g)
  pr : ∀ c f g, P.prop c f = some g → ∃ p, PropOf K (cA K c) f p (fa g)
  co : ∀ c f v, P.con c f = some v → ∃ x u, Con K (cA K c) f x u ∧ ∀ w, RV K w v x
  na : ∀ c f, P.fl c f = true → NoAttr K (cA K c) f
  ty : ∀ c, P.isc c = true → InsTy K (cA K c)
  isa : ∀ n t b, P.sub n t = some b → PySem.W.kitOne K (tyVal K n) (tyVal K t) = some b
  gl : ∀ x v, P.glob x = some v → ∃ y u, mg x = some u ∧ RelV y u ∧ ∀ w, RV K w v y
  bi : ∀ f ∈ biNames, mg (Str.ofString f) = none
  ne : ∀ c g, P.meth c "__eq__" = some g → P.isc c = true → PySem.W.findIn K (.ref (cA K c)) "__ne__" = some (some (.builtin "object.__ne__"))
  cb : ∀ n t b, P.sub n t = some b → bty n ≠ none ∨ P.isc n = true
theorem LinkS.link {Φ : Cal} (S : LinkS P fa K mg) (h : ∀ f n kn tp, P.bind f n kn = some tp → CallOk prog w K mg base k (fa f) n kn (spS K Φ f n kn tp)) : Link P Φ fa prog w K mg base k where
  fn f n kn tp e := ⟨h f n kn tp e, S.kp f n kn tp e⟩
  pf c f g e := h g 1 [] [.pos 0] (S.pb c f g e)
  gf := S.gf
  gc := S.gc
  cl := S.cl
  mkC := S.mkC
  me := S.me
  pr := S.pr
  co := S.co
  na := S.na
  ty := S.ty
  isa := S.isa
  gl := S.gl
  bi := S.bi
  ne := S.ne
  cb := S.cb
/-- THE RULE: calls d deep -/
theorem links (S : LinkS P fa K mg) (B : ∀ d k, Link P (call P d) fa prog w K mg base k → ∀ f n kn tp, P.bind f n kn = some tp → CallOk prog w K mg base (k + 3) (fa f) n kn (spS K (call P (d + 1)) f n kn tp)) : ∀ d, Link P (call P d) fa prog w K mg base (3 * d)
  | 0 => S.link fun f n kn tp e A outer s H us ws xs zs Q E hr e0 rx rz hsp => by
    obtain ⟨wd, st, va, ka, args, hS, rv, rk, ln, lkn, hsrc, hpost⟩ := hsp
    exact hpost.elim
  | d + 1 => S.link fun f n kn tp e => B d (3 * d) (links S B d) f n kn tp e
end
end Mp
end

section
set_option Elab.async false
set_option linter.all false
set_option maxRecDepth 100000
set_option maxHeartbeats
                         1000000
namespace Mp
open PySem L2 PySem.Spec PyProof.Rows

/-! ### a program of the small language as tables -/
/-- where a def stands: a name of the module; a class's method; a class's property -/
inductive At where
  | glo (x : Str)
  | meth (c m : Str)
  | prop (c f : Str)
/-- a property's object, its getter -/
def propAt (K : PySem.W.Frag) (c f : Str) : Addr := match PySem.W.findIn K (.ref (He.ga K c)) f with
  | some (some (.ref p)) => p
  | _ => 0
def getAt (K : PySem.W.Frag) (c f : Str) : Addr := match PySem.W.recIn K (propAt K c f) "property" with
  | some (.ref g :: _) => g
  | _ => 0
def At.addr (K : PySem.W.Frag) : At → Addr
  | .glo x => He.ga K x
  | .meth c m => He.ma K (He.ga K c) m
  | .prop c f => getAt K c f
/-- a def's dict of keyword-only defaults -/
def kwAt (K : PySem.W.Frag) (a : At) : Addr := match K.lookup (a.addr K) with
  | some o => (match o.data
                            with
    | .func z => (match z.kwdefaults with
      | .ref D => D
      | _ => 0)
    | _ => 0)
  | none => 0
structure Row where
  nm : Str
  at_ : At
  name : Str
  qual : Str
  params : Arguments
  body : List Stmt
  scope : Scope
  dfl : List He.Dv
  kwd : List (Str × He.Dv)
  ps : List Str
  star : Option Nat
  N : List Str
  ms : List MS
def Row.sg (K : PySem.W.Frag) (r : Row) : Sig := ⟨r.name, r.qual, r.params, r.scope, r.ps, r.dfl.map (He.Dv.v K), r.kwd.map fun q => (q.1, q.2.v K), r.star⟩
structure Tab where
  rows : List Row
  gfn : List Str
  cls : List Str
  meths : List ((Str × Str) × Str)
  props : List ((Str × Str) × Str)
  cons : List ((Str × Str) × Val)
  fls : List (Str × Str)
  globs : List (Str × Val)
  subs : List ((Str × Str) × Bool)
  shapes : List (Str × Shp)
  fuel : Nat
def Tab.row (T : Tab) (nm : Str) : Option Row := T.rows.find? fun r => r.nm == nm
def Tab.fa (T : Tab) (K : PySem.W.Frag) (nm : Str) : Addr := match T.row nm with
  | some r => r.at_.addr K
  | none => 0
def Tab.shp (T : Tab) (f : Str) (n : Nat) (kn : List Str) : Option (Str × Shp) := T.shapes.find? fun s => s.1 == f && (s.2.n == n && s.2.kn == kn)
def Tab.prog (T : Tab) : Prog where
  fn nm := (T.row nm).map fun r => ⟨r.ps.length, r.N.length, r.ms⟩
  glob x := T.globs.lookup x
  meth c m := T.meths.lookup (c, m)
  prop c f := T.props.lookup (c, f)
  con c f := T.cons.lookup (c, f)
  bind f n kn := (T.shp f n kn).map (·.2.tp)
  sub a b := T.subs.lookup (a, b)
  fl c f := T.fls.contains (c, f)
  isg f := T.gfn.contains f
  isc c := T.cls.contains c
  fuel := T.fuel
/-! ### what the heap behind the top is asked -/
def fnAt (K : PySem.W.Frag) (a : Addr) : He.FnW := match K.lookup a with
  | some o => (match o.data
                            with
    | .func z => some (z.name, z.qualname, z.params, z.body, z.scope, z.globals, z.closure, z.builtins)
    | _ => none)
  | none => none
def Row.val (r : Row) : He.FnW := some (r.name, r.qual, r.params, .stmts r.body, r.scope, mainGlobals, [], builtinsNs)
def Row.ok (K : PySem.W.Frag) (r : Row) : Bool := PySem.W.keepIn K (.ref (r.at_.addr K)) && match K.lookup (r.at_.addr K) with
  | some o => (match o.data
                            with
    | .func z => He.dflB K z.defaults (r.sg K).dvs && (He.kwdB K z.kwdefaults (r.sg K).kws && PySem.W.codeIn K z.code r.qual)
    | _ => false)
  | none => false
theorem Row.funD {K : PySem.W.Frag} {r : Row} (e : fnAt K (r.at_.addr K) = r.val) (c : r.ok K = true) : ∃ fd, FunD K (r.sg K).name (r.sg K).qual (r.sg K).params r.body (r.sg K).scope (r.sg K).dvs (r.sg K).kws (r.at_.addr K) fd := by
  unfold Row.ok at c
  rw [Bool.and_eq_true] at c
  obtain ⟨kp, c2⟩ := c
  unfold fnAt at e
  cases q : K.lookup (r.at_.addr K) with
  | none => rw [q] at c2; cases c2
  | some o =>
    obtain ⟨oc, od, dt, osl⟩ := o
    rw [q] at c2 e
    cases dt with
    | func z =>
      obtain ⟨z1, z2, z3, z4, z5, z6, z7, z8, z9, z10, z11, z12, z13, z14, z15⟩ := z
      have e2 : (some (z1, z2, z3, z4, z5, z6, z7, z15) : He.FnW) = some (r.name, r.qual, r.params, .stmts r.body, r.scope, mainGlobals, [], builtinsNs) := e
      injection e2 with e3
      simp only [Prod.mk.injEq] at e3
      obtain ⟨rfl, rfl, rfl, rfl, rfl, rfl, rfl, rfl⟩ := e3
      simp only [Bool.and_eq_true] at c2
      exact ⟨_, ⟨oc, od, z8, z9, z10, z11, z12, z13, z14, osl, rfl, q, c2.2.2, He.dflB_ok c2.1, He.kwdB_ok c2.2.1⟩, kp⟩
    | _ => cases c2
/-- a flat value -/
def flatV : Val → Option V
  | .non => some .non
  | .bl b => some (.bl b)
  | .int i => some (.int i)
  | .str x => if x.length ≤ 65536 ∧ PyData.strOk x = true then some (.str x) else none
  | _ => none
theorem flatV_ok {K : PySem.W.Frag} {v : Val} {x : V} (h : flatV v = some x) (w : Wd) : RV K w v x := by
  cases v with
  | non => cases h; rfl
  | bl b => cases h; rfl
  | int i => cases h; rfl
  | str y =>
    simp only [flatV] at h
    split at h
    · rename_i hy
      cases h
      exact ⟨rfl, Nat.le_trans hy.1 (by rw [sizeLine_eq]; omega), hy.2⟩
    · cases h
  | _ => cases h
def flatVs : List Val → Option (List V)
  | [] => some []
  | v :: vs => match flatV v, flatVs vs with
    | some x, some xs => some (x :: xs)
    | _, _ => none
theorem flatVs_ok {K : PySem.W.Frag} (w : Wd) : ∀ {vs : List Val} {xs : List V}, flatVs vs = some xs → RVs K w vs xs
  | [], xs, h => by cases h; exact RVs.nil
  | v :: vs, xs, h => by
    unfold flatVs at h
    split at h
    · rename_i e1 e2
      cases h
      exact .cons (flatV_ok e1 w) (flatVs_ok w e2)
    · cases h
/-- a constant of the module -/
def globB (K : PySem.W.Frag) (x : Str) (v : Val) : Bool := match PySem.W.nsIn K mainGlobals x with
  | some (some u) => (match v with
    | .tup vs => (match u, flatVs vs with
      | .ref a, some xs => (match K.lookup a with
        | some o => decide (o.cls = .type "tuple") && (match o.data with
          | .seq its _ => decide (its.size ≤ sizeLine) && (decide (vs.length ≤ 1000) && He.relAll xs its.toList)
          | _ => false)
        | none => false)
      | _, _ => false)
    | v => (match flatV v with
      | some y => He.relB y u
      | none => false))
  | _ => false
theorem globB_ok {K : PySem.W.Frag} {h : Heap} {mg : Str → Option Value} (X : K.In h) (G : h.Ns mainGlobals mg) {x : Str} {v : Val} (c : globB K x v = true) : ∃ y u, mg x = some u ∧ RelV y u ∧ ∀ w, RV K w v y := by
  unfold globB at c
  split at c
  · rename_i u e
    have hm := PySem.W.mg_of X G e
    split at c
    · rename_i vs
      split at c
      · rename_i a xs e2
        split at c
        · rename_i o eo
          rw [Bool.and_eq_true, decide_eq_true_eq] at c
          obtain ⟨c1, c2⟩ := c
          split at c2
          · rename_i its n ed
            simp only [Bool.and_eq_true, decide_eq_true_eq] at c2
            exact ⟨.ref a, .ref a, hm, rfl, fun w => ⟨a, xs, rfl, .inr ⟨o, its, n, eo, c1, ed, c2.1, He.relAll_ok c2.2.2⟩, Nat.le_trans c2.2.1 (by rw [sizeLine_eq]; omega), flatVs_ok w e2⟩⟩
          · cases c2
        · cases c
      · cases c
    · rename_i hv
      split at c
      · rename_i y ey
        exact ⟨y, u, hm, He.relB_ok c, fun w => flatV_ok ey w⟩
      · cases c
  · cases c
/-- a constant of a class -/
def conB (K : PySem.W.Frag) (c f : Str) (v : Val) : Bool := match PySem.W.findIn K (.ref (He.ga K c)) f with
  | some (some u) => (match flatV v with
    | some y => He.relB y u && (He.eqO (some (PySem.W.specialIn K u "__get__" |>.getD (some u))) (some none) && ((PySem.W.specialIn K u "__get__").isSome && !PySem.W.copiedNames.contains f))
    | none => false)
  | _ => false
theorem conB_ok {K : PySem.W.Frag} {c f : Str} {v : Val} (h : conB K c f v = true) : ∃ x u, Con K (He.ga K c) f x u ∧ ∀ w, RV K w v x := by
  unfold conB at h
  split at h
  · rename_i u e
    split at h
    · rename_i y ey
      simp only [Bool.and_eq_true, Bool.not_eq_true'] at
                                                         h
      obtain ⟨h1, h2, h3, h4⟩ := h
      have h5 := He.eqO_ok h2
      obtain ⟨z, hz⟩ := Option.isSome_iff_exists.mp h3
      rw [hz] at h5
      have h6 : z = none := Option.some.inj h5
      subst h6
      exact ⟨y, u, ⟨e, He.relB_ok h1, hz, h4⟩, fun w => flatV_ok ey w⟩
    · cases h
  · cases h
def clsB (K : PySem.W.Frag) (c : Str) : Bool := (He.Fa.cls c).ok K && ((He.Fa.glo c).ok K && ((He.Fa.keep c).ok K &&
  (He.eqO (PySem.W.findIn K (.ref (He.ga K c)) "__class__") (some (some (.builtin "object.__class__"))) && (He.eqO (PySem.W.specialIn K (.builtin "object.__class__") "__get__") (some (some (.builtin "getset_descriptor.__get__"))) &&
    (decide (PySem.W.takesIn K (.builtin "object.__class__") = some true) && decide (PySem.W.mroIn K (He.ga K c) (.type "object") = some true))))))
theorem clsB_ok {K : PySem.W.Frag} {h : Heap} {mg : Str → Option Value} (X : K.In h) (G : h.Ns mainGlobals mg) {c : Str} (hb : clsB K c = true) : Cls K (cA K c) ∧ mg c = some (.ref (cA K c)) ∧ PySem.W.keepIn K (.ref (cA K c)) = true ∧ InsTy K (cA K c) := by
  unfold clsB at hb
  simp only [Bool.and_eq_true] at hb
  obtain ⟨h1, h2, h3, h4, h5, h6, h7⟩ := hb
  exact ⟨He.cls_ok h1, He.glo_ok X G h2, He.keep_ok h3, He.eqO_ok h4, He.eqO_ok h5, of_decide_eq_true h6, of_decide_eq_true h7⟩
def methB (T : Tab) (K : PySem.W.Frag) (c m g : Str) : Bool := He.eqO (PySem.W.findIn K (.ref (He.ga K c)) m) (some (some (.ref (T.fa K g)))) && (PySem.W.isFn K (.ref (T.fa K g)) && (PySem.W.keepIn K (.ref (T.fa K g)) && ((!(m == ("__init__" : Str)) || PySem.W.makesIn K (He.ga K c)) && (!(m == ("__eq__" : Str)) || He.eqO (PySem.W.findIn K (.ref (He.ga K c)) "__ne__") (some (some (.builtin "object.__ne__")))))))
def propB (T : Tab) (K : PySem.W.Frag) (c f g : Str) : Bool := He.eqO (PySem.W.findIn K (.ref (He.ga K c)) f) (some (some (.ref (propAt K c f)))) && (He.eqO (PySem.W.specialIn K (.ref (propAt K c f)) "__get__") (some (some (.builtin "property.__get__"))) &&
  (decide (PySem.W.takesIn K (.ref (propAt K c f)) = some true) && (match PySem.W.recIn K (propAt K c f) "property" with
    | some (v :: _) => decide (v = .ref (T.fa K g))
    | _ => false)))
/-- all facts -/
def Tab.okK (T : Tab) (K : PySem.W.Frag) : Bool := T.rows.all (·.ok K) && (T.gfn.all (fun f => He.eqO (PySem.W.nsIn K mainGlobals f) (some (some (.ref (T.fa K f))))) && (T.cls.all (clsB K) && (T.meths.all (fun q => methB T K q.1.1 q.1.2 q.2) && (T.props.all (fun q => propB T K q.1.1 q.1.2 q.2) &&
  (T.cons.all (fun q => conB K q.1.1 q.1.2 q.2) && (T.fls.all (fun q => He.eqO (PySem.W.findIn K (.ref (He.ga K q.1)) q.2) (some none)) && (T.globs.all (fun q => globB K q.1 q.2) && (T.subs.all (fun q => decide (PySem.W.kitOne K (tyVal K q.1.1) (tyVal K q.1.2) = some q.2)) &&
    biNames.all fun x => He.eqO (PySem.W.nsIn K mainGlobals (Str.ofString x)) (some none)))))))))
/-- what the tables alone must keep -/
def Tab.okT (T : Tab) : Bool := T.cls.all (fun c => (bty c).isNone) && (T.props.all (fun q => match T.prog.bind q.2 1 [] with
  | some [.pos 0] => true
  | _ => false) && (T.subs.all (fun q => (bty q.1.1).isSome || T.cls.contains q.1.1) && (T.gfn.all (fun f => (T.row f).isSome) && T.shapes.all fun q => (T.row q.1).isSome)))
def obsK (T : Tab) (K : PySem.W.Frag) : Bool × List He.FnW := (T.okK K, T.rows.map fun r => fnAt K (r.at_.addr K))
def valT (T : Tab) : Bool × List He.FnW := (true, T.rows.map Row.val)
def Says (T : Tab) (K : PySem.W.Frag) : Prop := obsK T K = valT T
def obsG (n : Nat) (T : Tab) (g : Addr → Option Obj) : Bool × List He.FnW := obsK T (He.frG g (He.asD g n))
def hookT (n : Nat) (T : Tab) : PySem.W.Hook where
  α := Bool × List He.FnW
  obs := fun s => obsG n T s.heap.get?
  val := fun _ => valT T
  says := fun _ h => ∃ K : PySem.W.Frag, K.In h ∧ Says T K
  of := fun _ _ e => ⟨_, He.frG_in, e⟩
  keeps := fun _ _ _ ⟨K, hK, c⟩ k => ⟨K, PySem.W.Frag.In.keeps hK k,
                                                                     c⟩
theorem obsG_eq {n : Nat} {T : Tab} {g : Addr → Option Obj} {s : Shared} (h : ∀ a, g a = s.heap.get? a) : obsG n T g = (hookT n T).obs s := by
  rw [show g = s.heap.get? from funext h]
  rfl
end Mp
end

section
set_option Elab.async false
set_option linter.all false
set_option maxRecDepth 100000
set_option maxHeartbeats
                         1000000
namespace Mp
open PySem L2 PySem.Spec PyProof.Rows

section
variable {T : Tab} {K : PySem.W.Frag} {h : Heap} {mg : Str → Option Value}
theorem all_at {α : Type} {l : List α} {p : α → Bool} (h : l.all p = true) {a : α} (m : a ∈ l) : p a = true := List.all_eq_true.mp h a m
theorem mem_look {α β : Type} [BEq α] [LawfulBEq α] : ∀ {l : List (α × β)} {a : α} {b : β}, l.lookup a = some b → (a, b) ∈ l
  | (c, d) :: r, a, b, e => by
    rw [List.lookup_cons] at e
    cases q : a == c with
    | true =>
      rw [q] at e
      have : d = b := Option.some.inj e
      rw [eq_of_beq q, this]
      exact List.mem_cons_self ..
    | false =>
      rw [q] at e
      exact List.mem_cons_of_mem _ (mem_look e)
theorem tab_link (X : K.In h) (G : h.Ns mainGlobals mg) (ok : T.okK K = true) (okT : T.okT = true) : LinkS T.prog (T.fa K) K mg := by
  unfold Tab.okK at ok
  simp only [Bool.and_eq_true] at
                                  ok
  obtain ⟨k1, k2, k3, k4, k5, k6, k7, k8, k9, k10⟩ := ok
  unfold Tab.okT at okT
  simp only [Bool.and_eq_true] at okT
  obtain ⟨t1, t2, t3, t4, t5⟩ := okT
  have isc : ∀ {c : Str}, T.prog.isc c = true → c ∈ T.cls := fun {c} e => by
    have e' : T.cls.contains c = true := e
    simpa using e'
  refine ⟨fun f n kn tp e => ?_, fun c f g e => ?_, fun f e => ?_, fun c e => ?_, fun c e => ?_, fun c g e hc => ?_, fun c m g e hc => ?_, fun c f g e => ?_, fun c f v e => ?_, fun c f e => ?_, fun c e => ?_, fun n t b e => ?_, fun x v e => ?_, fun f hf => ?_, fun c g e hc => ?_, fun n t b e => ?_⟩
  · obtain ⟨q, hq, rfl⟩ := Option.map_eq_some_iff.mp e
    have hm := List.mem_of_find?_eq_some hq
    have hp := List.find?_some hq
    simp only [Bool.and_eq_true] at
                                    hp
    have hr := all_at t5 hm
    obtain ⟨r, er⟩ := Option.isSome_iff_exists.mp hr
    have ef : q.1 = f := eq_of_beq hp.1
    rw [ef] at er
    have hk := all_at k1 (List.mem_of_find?_eq_some er)
    unfold Tab.fa
    rw [er]
    unfold Row.ok at hk
    rw [Bool.and_eq_true] at hk
    exact hk.1
  · have := all_at t2 (mem_look e)
    simp only at this
    split at this
    · rename_i e2; exact e2
    · cases this
  · have e' : T.gfn.contains f = true := e
    have hm : f ∈ T.gfn := by simpa using e'
    exact PySem.W.mg_of X G (He.eqO_ok (all_at k2 hm))
  · obtain ⟨_, h2, h3, _⟩ := clsB_ok X G (all_at k3 (isc e))
    have h4 := all_at t1 (isc e)
    refine ⟨h2, h3, ?_⟩
    cases hb : bty c with
    | none => rfl
    | some _ => rw [hb] at h4; cases h4
  · exact (clsB_ok X G (all_at k3 (isc e))).1
  · have := all_at k4 (mem_look e)
    unfold methB at this
    simp only [Bool.and_eq_true, Bool.or_eq_true, Bool.not_eq_true'] at this
    obtain ⟨a1, a2, a3, a4, _⟩ := this
    refine ⟨?_, He.eqO_ok a1, a2⟩
    rcases a4 with a4 | a4
    · exact absurd a4 (by decide)
    · exact a4
  · have := all_at k4 (mem_look e)
    unfold methB at this
    simp only [Bool.and_eq_true] at this
    exact ⟨He.eqO_ok this.1, this.2.1, this.2.2.1⟩
  · have := all_at k5 (mem_look e)
    unfold propB at this
    simp only [Bool.and_eq_true, decide_eq_true_eq] at this
    obtain ⟨a1, a2, a3, a4⟩ := this
    refine ⟨propAt K c f, He.eqO_ok a1, He.eqO_ok a2, a3, ?_⟩
    split at a4
    · rename_i v rest er
      have := of_decide_eq_true a4
      subst this
      exact ⟨rest, er⟩
    · cases a4
  · exact conB_ok (all_at k6 (mem_look e))
  · have e' : T.fls.contains (c, f) = true := e
    have hm : (c, f) ∈ T.fls := by simpa using e'
    exact He.eqO_ok (all_at k7 hm)
  · exact (clsB_ok X G (all_at k3 (isc e))).2.2.2
  · exact of_decide_eq_true (all_at k9 (mem_look e))
  · exact globB_ok X G (all_at k8 (mem_look e))
  · exact PySem.W.mg_none_of X G (He.eqO_ok (all_at k10 hf))
  · have := all_at k4 (mem_look e)
    unfold methB at this
    simp only [Bool.and_eq_true, Bool.or_eq_true, Bool.not_eq_true'] at this
    obtain ⟨_, _, _, _, a5⟩ := this
    rcases a5 with a5 | a5
    · exact absurd a5 (by decide)
    · exact He.eqO_ok a5
  · have := all_at t3 (mem_look e)
    simp only [Bool.or_eq_true] at this
    rcases this with a | a
    · left
      intro z
      rw [z] at a; cases a
    · exact .inr a
/-- a row keeps its word -/
structure RowOk (T : Tab) (r : Row) : Prop where
  sc : FnScope r.N r.ps r.scope
  ck : ckSs T.prog r.N r.ms ⟨r.scope, true⟩ r.body = true
structure ShapeOk (T : Tab) (q : Str × Shp) : Prop where
  ok : ∀ K r, T.row q.1 = some r → ShpOk (r.sg K) q.2 ∧ shpB (r.sg K) q.2 = true
theorem says_fact (c : Says T K) : T.okK K = true := congrArg (fun z : Bool × List He.FnW => z.1) c
theorem says_row (c : Says T K) {r : Row} (hr : r ∈ T.rows) : ∃ fd, FunD K (r.sg K).name (r.sg K).qual (r.sg K).params r.body (r.sg K).scope (r.sg K).dvs (r.sg K).kws (r.at_.addr K) fd := by
  obtain ⟨i, hi⟩ := List.getElem?_of_mem hr
  have e : T.rows.map (fun r => fnAt K (r.at_.addr K)) = T.rows.map Row.val := congrArg (fun z : Bool × List He.FnW => z.2) c
  have e2 : (T.rows.map fun r => fnAt K (r.at_.addr K))[i]? = (T.rows.map Row.val)[i]? := by rw [e]
  rw [List.getElem?_map, List.getElem?_map, hi] at e2
  have ok := says_fact c
  unfold Tab.okK at ok
  rw [Bool.and_eq_true] at ok
  exact Row.funD (Option.some.inj e2) (all_at ok.1 hr)
theorem tab_calls {P : Program} {w : World} {base : Heap} (X : K.In h) (G : h.Ns mainGlobals mg) (c : Says T K) (okT : T.okT = true) (hr : ∀ r ∈ T.rows, RowOk T r) (hs : ∀ q ∈ T.shapes, ShapeOk T q) : ∀ d, Link T.prog (call T.prog d) (T.fa K) P w K mg base (3 * d) := by
  refine links (tab_link X G (says_fact c) okT) fun d k L f n kn tp e => ?_
  obtain ⟨q, hq, rfl⟩ := Option.map_eq_some_iff.mp e
  have hm := List.mem_of_find?_eq_some hq
  have hp := List.find?_some hq
  simp only [Bool.and_eq_true, beq_iff_eq] at hp
  obtain ⟨rfl, rfl, rfl⟩ := hp
  unfold Tab.okT at okT
  simp only [Bool.and_eq_true] at okT
  obtain ⟨r, er⟩ := Option.isSome_iff_exists.mp (all_at okT.2.2.2.2 hm)
  obtain ⟨so, sb⟩ := (hs q hm).ok K r er
  have hrm := List.mem_of_find?_eq_some er
  obtain ⟨fd, FD⟩ := says_row c hrm
  obtain ⟨sc, ck⟩ := hr r hrm
  have ea : T.fa K q.1 = r.at_.addr K := by unfold Tab.fa; rw [er]
  rw [← ea] at FD
  have hF : T.prog.fn q.1 = some ⟨r.ps.length, r.N.length, r.ms⟩ := by
    show (T.row q.1).map _ = _
    rw [er]; rfl
  exact call_body (g := r.sg K) L hF FD sc rfl ck so sb
/-! ### the law's def -/
def spLaw (T : Tab) (K : PySem.W.Frag) (d : Nat) (nm : Str) : Sp := fun vs H Q E => ∃ wd st va, RS K wd st H ∧ RVs K wd va vs ∧ va.length = 1 ∧ Post K wd (call T.prog (d + 1) nm va st) (AV K Q) E
theorem law_fn {P : Program} {w : World} {base : Heap} {d : Nat} {nm x : Str} {r : Row} {fd : FuncData} (L : Link T.prog (call T.prog d) (T.fa K) P w K mg base (3 * d)) (er : T.row nm = some r) (ro : RowOk T r) (hps : r.ps = [x])
    (FD : FunD K (r.sg K).name (r.sg K).qual (r.sg K).params r.body (r.sg K).scope (r.sg K).dvs (r.sg K).kws (r.at_.addr K) fd) : FnOk P w K mg base (L2.CX P w) (3 * d + 3) (r.at_.addr K) fd [x] (spLaw T K d nm) := by
  have S : FnScope r.N [x] r.scope := by rw [← hps]; exact ro.sc
  refine FD.ok S (fun vs H Q E ⟨wd, st, va, hS, rv, l1, q⟩ => by rw [← rv.length, l1]; rfl) fun cdv A outer s H vs Q E hr hsp => ?_
  obtain ⟨wd, st, va, hS, rv, l1, hp⟩ := hsp
  refine ⟨_, sndSs r.ms _ _ _ (cx_ok L S hr) r.body ro.ck, wd, va.map some ++ List.replicate (r.N.length - va.length) none, st, re_start rv rfl, hS, ?_⟩
  have e1 : call T.prog (d + 1) nm va st = runF T.prog (call T.prog d) ⟨r.ps.length, r.N.length, r.ms⟩ va st := by
    show (match (T.row nm).map _ with | some F => runF T.prog (call T.prog d) F va st | none => .stuck) = _
    rw [er]; rfl
  rw [e1] at hp
  unfold runF at hp
  split at hp
  · refine (hp.seq.imp fun w3 f st3 H3 l3 s3 h3 => ?_).impB fun c d H q σ => q
    cases f with
    | next env => exact fun σ' _ => h3 w3 H3 (Le.refl _) s3 _ rfl
    | ret v => exact fun x r => h3 w3 H3 (Le.refl _) s3 x r
    | brk env => exact h3.elim
    | cont env => exact h3.elim
  · exact hp.elim
/-- the world at the law's call: what stands is frozen -/
theorem law_sp {d : Nat} {nm : Str} {H : Hp} {a : Addr} {ns : List Int} (hz : ns.length ≤ sizeLine) (hS : SqL K H a (ns.map V.int)) {st' : Store} (h : call T.prog (d + 1) nm [.scr ns] [] = .ok (.bl true) st') :
    spLaw T K d nm [.ref a] H (fun v _ => v = .bl true) fun _ _ _ => False := by
  refine ⟨⟨H, [], fun _ => none⟩, [], [.scr ns], ⟨fun _ _ e => e, rfl, fun i p s e => (by simp at e), List.nodup_nil, fun i p e => (by simp at e), fun p o e => (by cases e), fun i p e => (by simp at e), fun p n => absurd rfl n⟩, .cons ⟨a, rfl, hS, hz⟩ .nil, rfl, ?_⟩
  rw [h]
  exact fun w' H' l s x r => r
/-- the law's def lets nothing out -/
def spLaw0 (T : Tab) (K : PySem.W.Frag) (d : Nat) (nm : Str) : Sp := fun vs H Q _ => spLaw T K d nm vs H Q fun _ _ _ => False
theorem law_fn0 {P : Program} {w : World} {base : Heap} {d k : Nat} {nm x : Str} {f : Addr} {fd : FuncData} (F : FnOk P w K mg base (L2.CX P w) k f fd [x] (spLaw T K d nm)) : FnOk P w K mg base (fun _ _ _ _ _ _ => False) k f fd [x] (spLaw0 T K d nm) := by
  refine ⟨fun vs H Q E h => F.len vs H Q _ h, fun A outer s H args us vs Q E hr he hb hv hs => codeAny_mono (F.run A outer s H args us vs Q (fun _ _ _ => False) hr he hb hv hs) fun r s' hq => ?_⟩
  cases r with
  | error e =>
    obtain ⟨_, _, _, _, _, _, _, _, _, _, _, _, z⟩ := hq
    exact z.elim
  | ok fl =>
    cases fl with
    | ret u => exact hq
    | next => exact hq
    | brk => exact hq
    | cont => exact hq
/-- what walk_ofE asks -/
theorem law_facts {P : Program} {w : World} {d : Nat} {nm x : Str} {r : Mp.Row} {f : Addr} (X : K.In h) (G : h.Ns mainGlobals mg) (c : Says T K) (okT : T.okT = true) (hr : ∀ r ∈ T.rows, RowOk T r) (hs : ∀ q ∈ T.shapes, ShapeOk T q)
    (er : T.row nm = some r) (hat : r.at_ = .glo nm) (hg : T.gfn.contains nm = true) (hps : r.ps = [x]) (hd : r.dfl = []) (hmg : mg nm = some (.ref f)) (hb : ∀ (dV kV doc pm : Value) (an : Option Addr) (cdv ct : Value) (u : Value), bindArgs (PySem.W.fnOf r.name r.qual r.params r.body r.scope .none kV doc pm an cdv ct) ⟨[u], []⟩ = pure [(x, u)])
    (law : ∀ ns : List Int, ns.length ≤ 63 → ∃ st', call T.prog (d + 1) nm [.scr ns] [] = .ok (.bl true) st') :
    ∃ (fd : FuncData) (sp : Sp), (∀ (s : Shared) (u : Value), BindsTo s fd ⟨[u], []⟩ [(x, u)]) ∧ (∀ (H : Hp) (a : Addr) (ns : List Int), ns.length ≤ 63 → Only H → SqL K H a (ns.map V.int) → sp [.ref a] H (fun v _ => v = .bl true) fun _ _ _ => False) ∧
      ∀ base : Heap, K.In base → base.Ns mainGlobals mg → FnOk P w K mg base (fun _ _ _ _ _ _ => False) (3 * d + 3) f fd [x] sp := by
  have hrm := List.mem_of_find?_eq_some er
  obtain ⟨fd, FD⟩ := says_row c hrm
  have L := fun base => tab_calls (P := P) (w := w) (base := base) X G c okT hr hs d
  have ef : f = r.at_.addr K := by
    have e1 := (tab_link X G (says_fact c) okT).gf nm hg
    rw [hmg] at e1
    have e2 : f = T.fa K nm := by
      injection e1 with e1
      injection e1
    rw [e2]
    unfold Tab.fa
    rw [er]
  subst ef
  refine ⟨fd, spLaw0 T K d nm, ?_, fun H a ns hl _ hS => ?_, fun base _ _ => law_fn0 (law_fn (L base) er (hr r hrm) hps FD)⟩
  · obtain ⟨oc, od, dV, kV, doc, pm, an, cdv, ct, osl, rfl, lk, hcd, hD, hK⟩ := FD.ex
    rcases hD with ⟨_, rfl⟩ | ⟨e,
                                  _⟩
    · exact fun s u => .of_eq (hb .none kV doc pm an cdv ct u)
    · exact absurd (by show r.dfl.map _ = []; rw [hd]; rfl) e
  · obtain ⟨st', e⟩ := law ns hl
    exact law_sp (Nat.le_trans hl (by rw [sizeLine_eq]; omega)) hS e
end
end Mp
end

section
set_option Elab.async false
set_option linter.all false
set_option maxRecDepth 100000
set_option maxHeartbeats
                         1000000
namespace Mp
open PySem

/-! ### the evaluator, step by step -/
section
variable (P : Prog) (Φ : Cal) (env : Env) (st : Store)
theorem E_var (i : Nat) : evalE P Φ (.var i) env st = match env[i]? with
    | some (some v) => .ok v st
    | _ => .stuck := rfl
theorem E_non : evalE P Φ .non env st = .ok .non st := rfl
theorem E_bl (b : Bool) : evalE P Φ (.bl b) env st = .ok (.bl b) st := rfl
theorem E_int (i : Int) : evalE P Φ (.int i) env st = .ok (.int i) st := rfl
theorem E_str (x : Str) : evalE P Φ (.str x) env st = .ok (.str x) st := rfl
theorem E_glob (x : Str) : evalE P Φ (.glob x) env st = R.of (P.glob x) st := rfl
theorem E_bin (op : Bop) (a b : ME) : evalE P Φ (.bin op a b) env st = (evalE P Φ a env st).then_ fun x st => (evalE P Φ b env st).then_ fun y st => R.of (binV st op x y) st := rfl
theorem E_neg (a : ME) : evalE P Φ (.neg a) env st = (evalE P Φ a env st).then_ fun x st => match x with
    | .int i => .ok (.int (-i)) st
    | _ => .stuck := rfl
theorem E_cmp (op : Cop) (a b : ME) : evalE P Φ (.cmp op a b) env st = (evalE P Φ a env st).then_ fun x st => (evalE P Φ b env st).then_ fun y st => R.of ((cmpV st op x y).map .bl) st := rfl
theorem E_chain (o1 o2 : Cop) (a b c : ME) : evalE P Φ (.chain o1 o2 a b c) env st = (evalE P Φ a env st).then_ fun x st => (evalE P Φ b env st).then_ fun y st => match cmpV st o1 x y with
    | none => .stuck
    | some false => .ok (.bl false) st
    | some true => (evalE P Φ c env st).then_ fun z st => R.of ((cmpV st o2 y z).map .bl) st := rfl
theorem E_and (es : List ME) : evalE P Φ (.and es) env st = andE P Φ es env st := rfl
theorem E_or (es : List ME) : evalE P Φ (.or es) env st = orE P Φ es env st := rfl
theorem E_not (a : ME) : evalE P Φ (.not a) env st = (evalE P Φ a env st).then_ fun x st => match x with
    | .bl b => .ok (.bl !b) st
    | _ => .stuck := rfl
theorem E_ite (c a b : ME) : evalE P Φ (.ite c a b) env st = (evalT P Φ c env st).then_ fun k st => match k with
    | true => evalE P Φ a env st
    | false => evalE P Φ b env st := rfl
theorem E_tup (es : List ME) : evalE P Φ (.tup es) env st = (evalEs P Φ es env st).then_ fun vs st => .ok (.tup vs) st := rfl
theorem E_lstF (es : List ME) : evalE P Φ (.lst false es) env st = (evalEs P Φ es env st).then_ fun vs st => .ok (.lst vs) st := rfl
theorem E_lstT (es : List ME) : evalE P Φ (.lst true es) env st = (evalEs P Φ es env st).then_ fun vs st => .ok (.ref st.length) (st ++ [.lst vs]) := rfl
theorem E_ix (a b : ME) : evalE P Φ (.ix a b) env st = (evalE P Φ a env st).then_ fun x st => (evalE P Φ b env st).then_ fun y st => R.of (ixV st x y) st := rfl
theorem E_slc (a : ME) (lo hi : List ME) : evalE P Φ (.slc a lo hi) env st = (evalE P Φ a env st).then_ fun x st => (evalEs P Φ lo env st).then_ fun l st => match partOf l with
    | none => .stuck
    | some l => (evalEs P Φ hi env st).then_ fun h st => match partOf h with
      | none => .stuck
      | some h => R.of (slcV st x l h) st := rfl
theorem E_attr (a : ME) (f : Str) : evalE P Φ (.attr a f) env st = (evalE P Φ a env st).then_ fun x st => attrM P Φ x f st := rfl
theorem E_call (m : Mode) (f : Str) (es : List ME) (kn : List Str) (ks : List ME) : evalE P Φ (.call m f es kn ks) env st = (evalEs P Φ es env st).then_ fun vs st => (evalEs P Φ ks env st).then_ fun zs st => callM P Φ m f kn vs zs st := rfl
theorem E_make (m : Mode) (f : Str) (es : List ME) (kn : List Str) (ks : List ME) : evalE P Φ (.make m f es kn ks) env st = (evalEs P Φ es env st).then_ fun vs st => (evalEs P Φ ks env st).then_ fun zs st => makeM P Φ m f kn vs zs st := rfl
theorem E_meth (m : Mode) (a : ME) (f : Str) (es : List ME) : evalE P Φ (.meth m a f es) env st = (evalE P Φ a env st).then_ fun x st => match methG P x f (es.length + 1) st with
    | none => .stuck
    | some g => (evalEs P Φ es env st).then_ fun vs st => callM P Φ m g [] (x :: vs) [] st := rfl
theorem E_bcall (f : String) (es : List ME) : evalE P Φ (.bcall f es) env st = (evalEs P Φ es env st).then_ fun vs st => R.of (bV st f vs) st := rfl
theorem E_bmeth (f : String) (a : ME) (es : List ME) : evalE P Φ (.bmeth f a es) env st = (evalE P Φ a env st).then_ fun x st => match bmTy st f x with
    | false => .stuck
    | true => (evalEs P Φ es env st).then_ fun vs st => match bmV st f x vs with
      | some (v, st') => .ok v st'
      | none => .stuck := rfl
theorem E_isin (a : ME) (ts : List Str) : evalE P Φ (.isin a ts) env st = (evalE P Φ a env st).then_ fun x st => R.of ((isTs P st x ts).map .bl) st := rfl
theorem E_comp (mu : Bool) (elt : ME) (tg : MT) (k : SrcK) (es ifs : List ME) : evalE P Φ (.comp mu elt tg k es ifs) env st = (srcE P Φ k es env st).then_ (compE P Φ mu tg elt ifs env) := rfl
theorem E_fstr (es : List ME) : evalE P Φ (.fstr es) env st = fmtL P Φ es Str.empty env st := rfl
theorem E_lcopy (a : ME) : evalE P Φ (.lcopy a) env st = (evalE P Φ a env st).then_ fun x st => match seqOf st x with
    | some xs => .ok (.ref st.length) (st ++ [.lst xs])
    | none => .stuck := rfl
theorem E_own1 (len : Bool) (a : ME) : evalE P Φ (.own1 len a) env st = (evalE P Φ a env st).then_ fun x st => own1M P Φ len x st := rfl
theorem E_own2 (ne : Bool) (a b : ME) : evalE P Φ (.own2 ne a b) env st = (evalE P Φ a env st).then_ fun x st => (evalE P Φ b env st).then_ fun y st => own2M P Φ ne x y st := rfl
theorem T_own2 (ne : Bool) (a b : ME) : evalT P Φ (.own2 ne a b) env st = asB ((evalE P Φ a env st).then_ fun x st => (evalE P Φ b env st).then_ fun y st => own2M P Φ ne x y st) := rfl
theorem Es_nil : evalEs P Φ [] env st = .ok [] st := rfl
theorem Es_cons (e : ME) (es : List ME) : evalEs P Φ (e :: es) env st = (evalE P Φ e env st).then_ fun v st => (evalEs P Φ es env st).then_ fun vs st => .ok (v :: vs) st := rfl
theorem and_one (e : ME) : andE P Φ [e] env st = evalE P Φ e env st := rfl
theorem and_two (e e' : ME) (es : List ME) : andE P Φ (e :: e' :: es) env st = (evalE P Φ e env st).then_ fun v st => match v with
    | .bl true => andE P Φ (e' :: es) env st
    | .bl false => .ok (.bl false) st
    | _ => .stuck := rfl
theorem or_one (e : ME) : orE P Φ [e] env st = evalE P Φ e env st := rfl
theorem or_two (e e' : ME) (es : List ME) : orE P Φ (e :: e' :: es) env st = (evalE P Φ e env st).then_ fun v st => match v with
    | .bl false => orE P Φ (e' :: es) env st
    | .bl true => .ok (.bl true) st
    | _ => .stuck := rfl
theorem fmt_nil (acc : Str) : fmtL P Φ [] acc env st = .ok (.str acc) st := rfl
theorem T_and (es : List ME) : evalT P Φ (.and es) env st = andT P Φ es env st := rfl
theorem T_or (es : List ME) : evalT P Φ (.or es) env st = orT P Φ es env st := rfl
theorem T_not (a : ME) : evalT P Φ (.not a) env st = (evalT P Φ a env st).then_ fun b st => .ok (!b) st := rfl
theorem T_cmp (op : Cop) (a b : ME) : evalT P Φ (.cmp op a b) env st = asB ((evalE P Φ a env st).then_ fun x st => (evalE P Φ b env st).then_ fun y st => R.of ((cmpV st op x y).map .bl) st) := rfl
theorem T_chain (o1 o2 : Cop) (a b c : ME) : evalT P Φ (.chain o1 o2 a b c) env st = asB ((evalE P Φ a env st).then_ fun x st => (evalE P Φ b env st).then_ fun y st => match cmpV st o1 x y with
    | none => .stuck
    | some false => .ok (.bl false) st
    | some true => (evalE P Φ c env st).then_ fun z st => R.of ((cmpV st o2 y z).map .bl) st) := rfl
theorem T_var (i : Nat) : evalT P Φ (.var i) env st = match env[i]? with
    | some (some v) => R.of (truV st v) st
    | _ => .stuck := rfl
theorem T_bl (b : Bool) : evalT P Φ (.bl b) env st = .ok b st := rfl
theorem T_attr (a : ME) (f : Str) : evalT P Φ (.attr a f) env st = ((evalE P Φ a env st).then_ fun x st => attrM P Φ x f st).then_ fun v st => R.of (truV st v) st := rfl
theorem T_call (m : Mode) (f : Str) (es : List ME) (kn : List Str) (ks : List ME) : evalT P Φ (.call m f es kn ks) env st = ((evalEs P Φ es env st).then_ fun vs st => (evalEs P Φ ks env st).then_ fun zs st => callM P Φ m f kn vs zs st).then_ fun v st => R.of (truV st v) st := rfl
theorem T_bcall (f : String) (es : List ME) : evalT P Φ (.bcall f es) env st = ((evalEs P Φ es env st).then_ fun vs st => R.of (bV st f vs) st).then_ fun v st => R.of (truV st v) st := rfl
theorem T_ix (a b : ME) : evalT P Φ (.ix a b) env st = ((evalE P Φ a env st).then_ fun x st => (evalE P Φ b env st).then_ fun y st => R.of (ixV st x y) st).then_ fun v st => R.of (truV st v) st := rfl
theorem T_isin (a : ME) (ts : List Str) : evalT P Φ (.isin a ts) env st = ((evalE P Φ a env st).then_ fun x st => R.of ((isTs P st x ts).map .bl) st).then_ fun v st => R.of (truV st v) st := rfl
theorem andT_one (e : ME) : andT P Φ [e] env st = evalT P Φ e env st := rfl
theorem andT_two (e e' : ME) (es : List ME) : andT P Φ (e :: e' :: es) env st = (evalT P Φ e env st).then_ fun b st => match b with
    | true => andT P Φ (e' :: es) env st
    | false => .ok false st := rfl
theorem orT_one (e : ME) : orT P Φ [e] env st = evalT P Φ e env st := rfl
theorem orT_two (e e' : ME) (es : List ME) : orT P Φ (e :: e' :: es) env st = (evalT P Φ e env st).then_ fun b st => match b with
    | false => orT P Φ (e' :: es) env st
    | true => .ok true st := rfl
theorem test_nil : testL P Φ [] env st = .ok true st := rfl
theorem test_one (e : ME) : testL P Φ [e] env st = evalT P Φ e env st := rfl
theorem S_expr (e : ME) : evalS P Φ (.expr e) env st = (evalE P Φ e env st).then_ fun _ st => .ok (.next env) st := rfl
theorem S_set (t : MT) (e : ME) : evalS P Φ (.set t e) env st = (evalE P Φ e env st).then_ fun v st => match bindT t v env with
    | some env' => .ok (.next env') st
    | none => .stuck := rfl
theorem S_sett (t : MT) (e : ME) : evalS P Φ (.sett t e) env st = (evalE P Φ e env st).then_ fun v st => match bindT t v env with
    | some env' => .ok (.next env') st
    | none => .stuck := rfl
theorem S_setc (i : Nat) (e : ME) : evalS P Φ (.setc i e) env st = (evalE P Φ e env st).then_ fun v st => if i < env.length then .ok (.next (env.set i (some v))) st else .stuck := rfl
theorem S_par (i j : Nat) (a b : ME) : evalS P Φ (.par i j a b) env st = (evalE P Φ a env st).then_ fun v st => (evalE P Φ b env st).then_ fun u st =>
    if i < env.length ∧ j < env.length then .ok (.next ((env.set i (some v)).set j (some u))) st else .stuck := rfl
theorem S_par3 (i j l : Nat) (es : List ME) : evalS P Φ (.par3 i j l es) env st = (evalEs P Φ es env st).then_ fun vs st => match vs with
    | [u, v, w] => if i < env.length ∧ j < env.length ∧ l < env.length then .ok (.next (((env.set i (some u)).set j (some v)).set l (some w))) st else .stuck
    | _ => .stuck := rfl
theorem S_fld (o e : ME) (f : Str) : evalS P Φ (.fld o f e) env st = (evalE P Φ e env st).then_ fun v st => (evalE P Φ o env st).then_ fun x st => match fldSet P st x f v with
    | some st' => .ok (.next env) st'
    | none => .stuck := rfl
theorem S_sub (o i e : ME) : evalS P Φ (.sub o i e) env st = (evalE P Φ e env st).then_ fun v st => (evalE P Φ o env st).then_ fun x st => (evalE P Φ i env st).then_ fun y st => match setV st x y v with
    | some st' => .ok (.next env) st'
    | none => .stuck := rfl
theorem S_ret (e : ME) : evalS P Φ (.ret e) env st = (evalE P Φ e env st).then_ fun v st => .ok (.ret v) st := rfl
theorem S_retN : evalS P Φ .retN env st = .ok (.ret .non) st := rfl
theorem S_ite (c : ME) (a b : List MS) : evalS P Φ (.ite c a b) env st = (evalT P Φ c env st).then_ fun k st => match k with
    | true => evalSs P Φ a env st
    | false => evalSs P Φ b env st := rfl
/-- a loop's turn -/
def forF (P : Prog) (Φ : Cal) (t : MT) (body : List MS) : Val → Env → Store → R Fl := fun x env st => match bindT t x env with
        | none => .stuck
        | some env' => evalSs P Φ body env' st
theorem S_for (t : MT) (k : SrcK) (es : List ME) (body : List MS) : evalS P Φ (.for_ t k es body) env st = (srcE P Φ k es env st).then_ fun p st => loopF (forF P Φ t body) p.2 p.1 env st := rfl
theorem S_pass : evalS P Φ .pass env st = .ok (.next env) st := rfl
theorem Ss_nil : evalSs P Φ [] env st = .ok (.next env) st := rfl
theorem Ss_cons (s : MS) (ss : List MS) : evalSs P Φ (s :: ss) env st = (evalS P Φ s env st).then_ fun f st => match f with
    | .next env' => evalSs P Φ ss env' st
    | f => .ok f st := rfl
end
/-! ### values without references -/
mutual
def closed : Val → Bool
  | .ref _ => false
  | .tup xs => closeds xs
  | .lst xs => closeds xs
  | .ins _ _ vs => closeds vs
  | _ => true
def closeds : List Val → Bool
  | [] => true
  | x :: xs => closed x && closeds xs
end
mutual
theorem frz_closed (rd : Nat → Option Val) : ∀ v : Val, closed v = true → frzV rd v = some v
  | .non, _ => rfl
  | .bl _, _ => rfl
  | .int _, _ => rfl
  | .str _, _ => rfl
  | .tup xs, h => by
    show (frzVs rd xs).map Val.tup = _
    rw [frzs_closed rd xs h]; rfl
  | .lst xs, h => by
    show (frzVs rd xs).map Val.lst = _
    rw [frzs_closed rd xs h]; rfl
  | .ins c ns vs, h => by
    show (frzVs rd vs).map (Val.ins c ns) = _
    rw [frzs_closed rd vs h]; rfl
  | .scr _, _ => rfl
  | .ref _, h => by cases h
theorem frzs_closed (rd : Nat → Option Val) : ∀ vs : List Val, closeds vs = true → frzVs rd vs = some vs
  | [], _ => rfl
  | x :: xs, h => by
    replace h : (closed x && closeds xs) = true := h
    rw [Bool.and_eq_true] at h
    unfold frzVs
    rw [frz_closed rd x h.1, frzs_closed rd xs h.2]
end
theorem closeds_all {vs : List Val} : closeds vs = true ↔ ∀ v ∈ vs, closed v = true := by
  induction vs with
  | nil => exact ⟨fun _ v h => (by cases h), fun _ => rfl⟩
  | cons x xs ih =>
    show (closed x && closeds xs) = true ↔ _
    rw [Bool.and_eq_true, ih]
    constructor
    · intro ⟨h1, h2⟩ v hv
      rcases List.mem_cons.mp hv with e |
                                          hv
      · rw [e]; exact h1
      · exact h2 v hv
    · intro h
      exact ⟨h x (by simp), fun v hv => h v (List.mem_cons_of_mem _ hv)⟩
/-! ### a new instance at the store's end -/
theorem at_last (st : Store) (o : SO) : (st ++ [o])[st.length]? = some o := by simp
theorem insOf_last (st : Store) (c : Str) (ns : List Str) (vs : List Val) : insOf (st ++ [.ins c ns vs]) (.ref st.length) = some (c, ns, vs) := by
  simp only [insOf, at_last]
theorem fldSet_last {P : Prog} (st : Store) (c : Str) (ns : List Str) (vs : List Val) (f : Str) (y : Val) (h : ns.length < 1000) (h1 : P.fl c f = true) (h2 : P.isc c = true) : fldSet P (st ++ [.ins c ns vs]) (.ref st.length) f y = some (st ++ [.ins c (putV ns vs f y).1 (putV ns vs f y).2]) := by
  simp only [fldSet, at_last, h, h1, h2, and_self, if_true]
  rw [List.set_append_right _ _ (Nat.le_refl _), Nat.sub_self]; rfl
theorem finish_new {st : Store} {c : Str} {ns : List Str} {vs : List Val} (h : closeds vs = true) : finish .pure st (.ok (.ref st.length) (st ++ [.ins c ns vs])) = .ok (.ins c ns vs) st := by
  show (if begins st (st ++ [.ins c ns vs]) = true then (match rdV (st ++ [.ins c ns vs]) st.length (.ref st.length) with | some y => R.ok y st | none => .stuck) else .stuck) = _
  rw [if_pos (begins_app _ _)]
  have e : rdV (st ++ [.ins c ns vs]) st.length (.ref st.length) = some (.ins c ns vs) := by
    show rdK (st ++ [.ins c ns vs]) st.length none 8 st.length = _
    unfold rdK
    rw [if_neg (Nat.lt_irrefl _), if_neg (by simp), at_last]
    show (frzVs _ vs).map (Val.ins c ns) = _
    rw [frzs_closed _ vs h]; rfl
  rw [e]
/-- C(..), frozen -/
theorem make_new {P : Prog} {Φ : Cal} {c f : Str} {kn : List Str} {vs ks args us : List Val} {ns : List Str} {tp : List Src} {st : Store} (h1 : P.meth c "__init__" = some f) (h2 : P.isc c = true) (h3 : P.bind f (vs.length + 1) kn = some tp) (h4 : srcs (.ref st.length :: vs) ks tp = some args)
    (h5 : Φ f args (st ++ [.ins c [] []]) = .ok .non (st ++ [.ins c ns us])) (h6 : closeds us = true) : makeM P Φ .pure c kn vs ks st = .ok (.ins c ns us) st := by
  unfold makeM
  rw [h1]
  simp only [h2, if_true, h3, h4, h5, R.then_ok]
  exact finish_new h6
/-- a call's result as it is -/
theorem call_raw {P : Prog} {Φ : Cal} {f : Str} {kn : List Str} {vs ks args : List Val} {tp : List Src} {st : Store} {r : R Val} (h1 : P.bind f vs.length kn = some tp) (h2 : srcs vs ks tp = some args) (h3 : Φ f args st = r) : callM P Φ .raw f kn vs ks st = r := by
  unfold callM
  rw [h1]
  simp only [h2, h3]
  rfl
/-- a property -/
theorem prop_get {P : Prog} {Φ : Cal} {f g : Str} {a : Val} {c : Str} {ns : List Str} {vs : List Val} {st : Store} {v : Val} (h1 : insOf st a = some (c, ns, vs)) (h2 : P.isc c = true) (h3 : P.prop c f = some g) (h4 : Φ g [a] st = .ok v st) (h5 : closed v = true) : attrM P Φ a f st = .ok v st := by
  unfold attrM
  rw [h1]
  simp only [h2, if_true, h3, h4]
  show noErr (if begins st st = true then (match rdV st st.length v with | some y => R.ok y st | none => .stuck) else .stuck) = _
  rw [if_pos (begins_refl st)]
  have e : rdV st st.length v = some v := frz_closed _ v h5
  rw [e]; rfl
/-! ### loops -/
inductive All2 {α β : Type} (r : α → β → Prop) : List α → List β → Prop
  | nil : All2 r [] []
  | cons {a : α} {b : β} {as : List α} {bs : List β} (h : r a b) (t : All2 r as bs) : All2 r (a :: as) (b :: bs)
theorem All2.len {α β : Type} {r : α → β → Prop} {as : List α} {bs : List β} (h : All2 r as bs) : as.length = bs.length := by
  induction h with
  | nil => rfl
  | cons _ _ ih => simp [ih]
theorem All2.right {α β : Type} {r : α → β → Prop} {as : List α} {bs : List β} (h : All2 r as bs) : ∀ b ∈ bs, ∃ a ∈ as, r a b := by
  induction h with
  | nil => intro b hb; cases hb
  | @cons a b as bs h t ih =>
    intro c hc
    rcases List.mem_cons.mp hc with e |
                                        hc
    · rw [e]; exact ⟨a, by simp, h⟩
    · obtain ⟨a', ha, hr⟩ := ih c hc
      exact ⟨a', List.mem_cons_of_mem _ ha, hr⟩
theorem loop_inv {step : Val → Env → Store → R Fl} {I : Env → Store → Prop} : ∀ {items : List Val}, (∀ x ∈ items, ∀ env st, I env st → ∃ env' st', step x env st = .ok (.next env') st' ∧ I env' st') → ∀ env st, I env st → ∃ env' st', loopF step [] items env st = .ok (.next env') st' ∧ I env' st'
  | [], _, env, st, h => ⟨env, st, rfl, h⟩
  | x :: r, hs, env, st, h => by
    obtain ⟨env1, st1, e, h1⟩ := hs x (by simp) env st h
    obtain ⟨env2, st2, e2, h2⟩ := loop_inv (fun y hy => hs y (List.mem_cons_of_mem _ hy)) env1 st1 h1
    refine ⟨env2, st2, ?_, h2⟩
    show (step x env st).then_ _ = _
    rw [e]
    exact e2
/-- items drawn: each turn gives a value with R and keeps I -/
theorem comp_all {f : Val → Store → R (Option Val)} {I : Store → Prop} {R' : Val → Val → Prop} : ∀ {items : List Val}, (∀ x ∈ items, ∀ st, I st → ∃ y st', f x st = .ok (some y) st' ∧ R' x y ∧ I st') → ∀ acc st, I st →
    ∃ ys st', compL f [] items acc st = .ok (acc ++ ys) st' ∧ All2 R' items ys ∧ I st'
  | [], _, acc, st, h => ⟨[], st, by rw [List.append_nil]; rfl, .nil, h⟩
  | x :: r, hs, acc, st, h => by
    obtain ⟨y, st1, e, hr, h1⟩ := hs x (by simp) st h
    obtain ⟨ys, st2, e2, hr2, h2⟩ := comp_all (fun z hz => hs z (List.mem_cons_of_mem _ hz)) (acc ++ [y]) st1 h1
    refine ⟨y :: ys, st2, ?_, .cons hr hr2, h2⟩
    show (noErr (f x st)).then_ _ = _
    rw [e]
    show compL f [] r (acc ++ [y]) st1 = _
    rw [e2, List.append_assoc]; rfl
/-- some of the items -/
theorem comp_some {f : Val → Store → R (Option Val)} {I : Store → Prop} : ∀ {items : List Val}, (∀ x ∈ items, ∀ st, I st → ∃ o st', f x st = .ok o st' ∧ (o = none ∨ o = some x) ∧ I st') → ∀ acc st, I st →
    ∃ ys st', compL f [] items acc st = .ok (acc ++ ys) st' ∧ ys.Sublist items ∧ I st'
  | [], _, acc, st, h => ⟨[], st, by rw [List.append_nil]; rfl, .slnil, h⟩
  | x :: r, hs, acc, st, h => by
    obtain ⟨o, st1, e, ho, h1⟩ := hs x (by simp) st h
    rcases ho with rfl | rfl
    · obtain ⟨ys, st2, e2, hr2, h2⟩ := comp_some (fun z hz => hs z (List.mem_cons_of_mem _ hz)) acc st1 h1
      refine ⟨ys, st2, ?_, hr2.cons x, h2⟩
      show (noErr (f x st)).then_ _ = _
      rw [e]
      exact e2
    · obtain ⟨ys, st2, e2, hr2, h2⟩ := comp_some (fun z hz => hs z (List.mem_cons_of_mem _ hz)) (acc ++ [x]) st1 h1
      refine ⟨x :: ys, st2, ?_, hr2.cons₂ x, h2⟩
      show (noErr (f x st)).then_ _ = _
      rw [e]
      show compL f [] r (acc ++ [x]) st1 = _
      rw [e2, List.append_assoc]; rfl
/-- a plain map and filter: nothing of the store changes -/
theorem comp_pure {f : Val → Store → R (Option Val)} {g : Val → Option Val} {st : Store} : ∀ {items : List Val}, (∀ x ∈ items, f x st = .ok (g x) st) → ∀ acc, compL f [] items acc st = .ok (acc ++ items.filterMap g) st
  | [], _, acc => by simp; rfl
  | x :: r, hs, acc => by
    have e := hs x (by simp)
    have ih := fun acc => comp_pure (fun z hz => hs z (List.mem_cons_of_mem _ hz)) acc
    show (noErr (f x st)).then_ _ = _
    rw [e]
    cases hg : g x with
    | none =>
      show compL f [] r acc st = _
      rw [ih, List.filterMap_cons_none hg]
    | some y =>
      show compL f [] r (acc ++ [y]) st = _
      rw [ih, List.filterMap_cons_some hg, List.append_assoc]; rfl
/-- a comprehension's frozen list -/
theorem comp_ok {P : Prog} {Φ : Cal} {mt : MT} {melt : ME} {mifs : List ME} {env : Env} {items ys : List Val} {st st' : Store} (hl : items.length ≤ sizeLine) (h : compL (turnF P Φ mt melt mifs env) [] items [] st = .ok ys st') : compE P Φ false mt melt mifs env (items, []) st = .ok (.lst ys) st' := by
  unfold compE
  rw [if_pos hl]
  simp only [h, R.then_ok]
  rfl
end Mp
end

section
set_option Elab.async false
set_option linter.all false
set_option maxRecDepth 100000
set_option maxHeartbeats
                         1000000
namespace Mp
open PySem
/-! ### special methods, read -/
theorem spec_ok {P : Prog} {Φ : Cal} {g : Str} {vs args : List Val} {tp : List Src} {st : Store} {v : Val} (h1 : P.bind g vs.length [] = some tp) (h2 : srcs vs [] tp = some args) (h3 : Φ g args st = .ok v st) (h4 : closed v = true) : specM P Φ g vs st = .ok v st := by
  unfold specM callM
  rw [h1]
  simp only [h2, h3]
  show noErr (if begins st st = true then (match rdV st st.length v with | some y => R.ok y st | none => .stuck) else .stuck) = _
  rw [if_pos (begins_refl st)]
  have e : rdV st st.length v = some v := frz_closed _ v h4
  rw [e]; rfl
theorem len_ok {P : Prog} {Φ : Cal} {g : Str} {a : Val} {c : Str} {ns : List Str} {us : List Val} {st : Store} {n : Int} (h1 : insOf st a = some (c, ns, us)) (h2 : P.isc c = true) (h3 : P.meth c "__len__" = some g) (h4 : P.bind g 1 [] = some [.pos 0]) (h5 : Φ g [a] st = .ok (.int n) st) (h6 : 0 ≤ n ∧ n < 9223372036854775808) : own1M P Φ true a st = .ok (.int n) st := by
  unfold own1M
  rw [h1]
  simp only [h2, if_true, show P.meth c (name1 true) = some g from h3]
  rw [spec_ok (vs := [a]) h4 rfl h5 rfl]
  show (if 0 ≤ n ∧ n < 9223372036854775808 then R.ok (Val.int n) st else .stuck) = _
  rw [if_pos h6]
theorem repr_ok {P : Prog} {Φ : Cal} {g : Str} {a : Val} {c : Str} {ns : List Str} {us : List Val} {st : Store} {z : Str} (h1 : insOf st a = some (c, ns, us)) (h2 : P.isc c = true) (h3 : P.meth c "__repr__" = some g) (h4 : P.bind g 1 [] = some [.pos 0]) (h5 : Φ g [a] st = .ok (.str z) st) : own1M P Φ false a st = .ok (.str z) st := by
  unfold own1M
  rw [h1]
  simp only [h2, if_true, show P.meth c (name1 false) = some g from h3]
  rw [spec_ok (vs := [a]) h4 rfl h5 rfl]
  rfl
theorem own_eq {P : Prog} {Φ : Cal} {g : Str} {a b : Val} {c : Str} {ns : List Str} {us : List Val} {st : Store} {z : Bool} (ne : Bool) (h1 : insOf st a = some (c, ns, us)) (h2 : P.isc c = true) (h0 : besideB P c st b = true) (h3 : P.meth c "__eq__" = some g) (h4 : P.bind g 2 [] = some [.pos 0, .pos 1]) (h5 : Φ g [a, b] st = .ok (.bl z) st) : own2M P Φ ne a b st = .ok (.bl (xor ne z)) st := by
  unfold own2M
  rw [h1]
  simp only [h2, h0, and_self, if_true, h3]
  rw [spec_ok (vs := [a, b]) h4 rfl h5 rfl]
  rfl
end Mp
end

section
set_option Elab.async false
set_option linter.all false
set_option maxRecDepth 100000
set_option maxHeartbeats 0
namespace L_k11
open PySem PySem.Spec PyProof.Rows L2 Mp
def top (i : Nat) : Stmt := PySem.Challenge.pw_sheetsums_k11_rows_that_are_held.main.body.getD i (.Pass ⟨0, 0, 0, 0⟩)
def inC (i j : Nat) : Stmt := match top i with
  | .ClassDef _ _ _ b _ _ _ _ _ _ _ => b.getD j (.Pass ⟨0, 0, 0, 0⟩)
  | _ => .Pass ⟨0, 0, 0, 0⟩
abbrev s_law : Stmt := top 46
def b_law_2_5_0 : MS := .set (.v 11) (.ite (.and [(.cmp .eq (.var 10) (.int 0)), (.cmp .gt (.var 7) (.int 0))]) (.var 7) (.var 5))
def b_law_2_5_1 : MS := .expr (.bmeth "append" (.var 8) [(.call .raw "_law_take" [(.var 1), (.bcall "len" [(.ix (.var 3) (.int 4))])] [] [])])
def b_law_2_5_2 : MS := .expr (.bmeth "append" (.var 9) [(.tup [(.var 11), (.ix (.var 8) (.var 10)), (.var 10)])])
def b_law_2_5_3 : MS := .set (.t [(.v 12), (.v 13)]) (.ite (.cmp .lt (.var 10) (.var 6)) (.tup [(.var 7), (.var 8)]) (.tup [(.var 5), (.slc (.var 8) [(.bin .sub (.bin .add (.var 10) (.int 1)) (.ix (.var 3) (.int 6)))] [])]))
def b_law_2_5_4 : MS := .set (.v 14) (.call .raw "shape_of" [(.var 4), (.var 9)] [] [])
def b_law_2_5_5 : MS := .ite (.or [(.not (.isin (.var 14) ["tuple"])), (.cmp .ne (.bcall "len" [(.var 14)]) (.int 5)), (.not (.call .raw "_law_same" [(.slc (.var 14) [(.int 3)] []), (.tup [(.var 12), (.bcall "tuple" [(.var 13)])])] [] []))]) [.ret (.bl false)] []
def b_law_2_5b : List MS := [b_law_2_5_0, b_law_2_5_1, b_law_2_5_2, b_law_2_5_3, b_law_2_5_4, b_law_2_5_5]
def b_law_2_0 : MS := .set (.v 3) (.call .raw "_law_spec" [(.var 1), (.int 4), (.int 0), (.int 6)] [] [])
def b_law_2_1 : MS := .set (.v 4) (.call .raw "_law_book" [(.var 3)] [] [])
def b_law_2_2 : MS := .par 5 6 (.bcall "len" [(.ix (.var 3) (.int 1))]) (.bin .add (.ix (.var 3) (.int 5)) (.ix (.var 3) (.int 6)))
def b_law_2_3 : MS := .par 7 8 (.call .raw "_law_take" [(.var 1), (.var 5)] [] []) (.lst true [])
def b_law_2_4 : MS := .set (.v 9) (.ite (.cmp .gt (.var 7) (.int 0)) (.lst true [(.tup [(.int 1), (.int 0), (.int 0)])]) (.lst true []))
def b_law_2_5 : MS := .for_ (.v 10) .range1 [(.bin .add (.int 1) (.call .raw "_law_take" [(.var 1), (.int 9)] [] []))] b_law_2_5b
def b_law_2b : List MS := [b_law_2_0, b_law_2_1, b_law_2_2, b_law_2_3, b_law_2_4, b_law_2_5]
def b_law_0 : MS := .set (.v 1) (.call .raw "_law_bag" [(.var 0)] [] [])
def b_law_1 : MS := .ite (.not (.call .raw "_law_same" [(.call .raw "first_shape" [] [] []), (.tup [(.neg (.int 1)), (.bl false), (.bl false), (.int 0), (.tup [])])] [] [])) [.ret (.bl false)] []
def b_law_2 : MS := .for_ (.v 2) .range1 [(.int 4)] b_law_2b
def b_law_3 : MS := .ret (.bl true)
def b_law : List MS := [b_law_0, b_law_1, b_law_2, b_law_3]
def r_law : Mp.Row := { nm := "law", at_ := .glo "law", name := "law", qual := "law", params := defArgs s_law, body := defBody s_law, scope := defScope s_law, dfl := [], kwd := [], ps := ["_law_script"], star := none, N := ["_law_script", "_law_bag_here", "_law_turn", "_law_spec_here", "_law_made", "_law_levels", "_law_kept", "_law_begin", "_law_kinds_z", "_law_rows", "_law_k", "_law_turn_of", "_law_heads", "_law_due", "_law_found"], ms := b_law }
abbrev s__law_bag : Stmt := top 34
def b__law_bag_0 : MS := .set (.v 1) (.int 5790)
def b__law_bag_1 : MS := .for_ (.v 2) .seq [(.slc (.var 0) [] [(.int 63)])] [.set (.v 1) (.bin .mod (.bcall "int" [(.bin .add (.bin .add (.bin .mul (.var 1) (.int 40503)) (.bin .mod (.bcall "int" [(.var 2)]) (.int 2147483629))) (.int 7))]) (.int 2147483579))]
def b__law_bag_2 : MS := .ret (.lst true [(.bcall "list" [(.slc (.var 0) [] [(.int 63)])]), (.int 0), (.int 0), (.var 1), (.int 0)])
def b__law_bag : List MS := [b__law_bag_0, b__law_bag_1, b__law_bag_2]
def r__law_bag : Mp.Row := { nm := "_law_bag", at_ := .glo "_law_bag", name := "_law_bag", qual := "_law_bag", params := defArgs s__law_bag, body := defBody s__law_bag, scope := defScope s__law_bag, dfl := [], kwd := [], ps := ["_law_script"], star := none, N := ["_law_script", "_law_seed", "_law_cell"], ms := b__law_bag }
abbrev s__law_same : Stmt := top 37
def b__law_same_0 : MS := .ite (.isin (.var 1) ["list", "tuple"]) [.ite (.or [(.cmp .ne (.isin (.var 0) ["list"]) (.isin (.var 1) ["list"])), (.cmp .ne (.isin (.var 0) ["tuple"]) (.isin (.var 1) ["tuple"]))]) [.ret (.bl false)] [], .ret (.and [(.cmp .eq (.bcall "len" [(.var 0)]) (.bcall "len" [(.var 1)])), (.bcall "all" [(.comp false (.call .raw "_law_same" [(.ix (.var 0) (.var 2)), (.ix (.var 1) (.var 2))] [] []) (.v 2) .range1 [(.bcall "len" [(.var 1)])] [])])])] []
def b__law_same_1 : MS := .ite (.or [(.cmp .ne (.isin (.var 1) ["bool"]) (.isin (.var 0) ["bool"])), (.cmp .ne (.isin (.var 1) ["int"]) (.isin (.var 0) ["int"]))]) [.ret (.bl false)] []
def b__law_same_2 : MS := .ite (.cmp .ne (.isin (.var 1) ["str"]) (.isin (.var 0) ["str"])) [.ret (.bl false)] []
def b__law_same_3 : MS := .ret (.ite (.cmp .isn (.var 1) (.non)) (.cmp .isn (.var 0) (.non)) (.and [(.cmp .notn (.var 0) (.non)), (.cmp .eq (.var 0) (.var 1))]))
def b__law_same : List MS := [b__law_same_0, b__law_same_1, b__law_same_2, b__law_same_3]
def r__law_same : Mp.Row := { nm := "_law_same", at_ := .glo "_law_same", name := "_law_same", qual := "_law_same", params := defArgs s__law_same, body := defBody s__law_same, scope := defScope s__law_same, dfl := [], kwd := [], ps := ["_law_found", "_law_due"], star := none, N := ["_law_found", "_law_due", "_law_k"], ms := b__law_same }
abbrev s_first_shape : Stmt := top 22
def b_first_shape_0 : MS := .ret (.tup [(.neg (.int 1)), (.bl false), (.bl false), (.int 0), (.tup [])])
def b_first_shape : List MS := [b_first_shape_0]
def r_first_shape : Mp.Row := { nm := "first_shape", at_ := .glo "first_shape", name := "first_shape", qual := "first_shape", params := defArgs s_first_shape, body := defBody s_first_shape, scope := defScope s_first_shape, dfl := [], kwd := [], ps := [], star := none, N := [], ms := b_first_shape }
abbrev s__law_spec : Stmt := top 42
def b__law_spec_0 : MS := .set (.v 4) (.comp false (.call .raw "_law_level" [(.var 0)] [] []) (.v 5) .range1 [(.bin .add (.int 1) (.call .raw "_law_take" [(.var 0), (.var 1)] [] []))] [])
def b__law_spec_1 : MS := .par 6 7 (.call .raw "_law_pick" [(.var 0), (.lst false [(.int 0), (.int 1), (.int 1), (.int 2)])] [] []) (.call .raw "_law_pick" [(.var 0), (.lst false [(.int 1), (.int 0), (.int 1), (.int 2)])] [] [])
def b__law_spec_2 : MS := .set (.v 8) (.call .raw "_law_pick" [(.var 0), (.lst false [(.lst false [(.int 1)]), (.lst false [(.int 1)]), (.lst false [(.int 1), (.int 2)]), (.lst false [(.int 2)])])] [] [])
def b__law_spec_3 : MS := .setc 9 (.comp false (.call .raw "_law_box" [(.var 0), (.var 10), (.bcall "len" [(.var 4)])] [] []) (.v 10) .range1 [(.call .raw "_law_take" [(.var 0), (.bin .add (.var 2) (.int 1))] [] [])] [])
def b__law_spec_4 : MS := .set (.v 11) (.tup [(.int 0), (.var 4), (.var 6), (.var 7), (.var 8), (.call .raw "_law_take" [(.var 0), (.int 3)] [] []), (.call .raw "_law_take" [(.var 0), (.int 3)] [] []), (.var 9)])
def b__law_spec_5 : MS := .ret (.bin .add (.tup [(.bin .add (.call .raw "_law_lowest" [(.var 11)] [] []) (.call .raw "_law_take" [(.var 0), (.var 3)] [] []))]) (.slc (.var 11) [(.int 1)] []))
def b__law_spec : List MS := [b__law_spec_0, b__law_spec_1, b__law_spec_2, b__law_spec_3, b__law_spec_4, b__law_spec_5]
def r__law_spec : Mp.Row := { nm := "_law_spec", at_ := .glo "_law_spec", name := "_law_spec", qual := "_law_spec", params := defArgs s__law_spec, body := defBody s__law_spec, scope := defScope s__law_spec, dfl := [], kwd := [], ps := ["_law_bag_here", "_law_most", "_law_boxes_z", "_law_spare"], star := none, N := ["_law_bag_here", "_law_most", "_law_boxes_z", "_law_spare", "_law_levels", "_law_k", "_law_top_z", "_law_bottom_z", "_law_kinds_z", "_law_lots", "_law_at", "_law_found"], ms := b__law_spec }
abbrev s__law_book : Stmt := top 45
def b__law_book_0 : MS := .set (.t [(.v 1), (.v 2), (.v 3), (.v 4)]) (.slc (.var 0) [] [(.int 4)])
def b__law_book_1 : MS := .set (.t [(.v 5), (.v 6), (.v 7)]) (.slc (.var 0) [(.int 4)] [(.int 7)])
def b__law_book_2 : MS := .par 8 9 (.comp false (.call .raw "_law_made_level" [(.var 10)] [] []) (.v 10) .seq [(.var 2)] []) (.comp false (.call .raw "_law_made_box" [(.var 11)] [] []) (.v 11) .seq [(.ix (.var 0) (.int 7))] [])
def b__law_book_3 : MS := .ite (.cmp .eq (.bcall "len" [(.var 8)]) (.int 1)) [.ret (.make .pure "Book" [(.var 1), (.ix (.var 8) (.int 0))] ["top", "bottom", "kinds", "lead", "hold", "boxes"] [(.var 3), (.var 4), (.var 5), (.var 6), (.var 7), (.var 9)])] []
def b__law_book_4 : MS := .set (.t [(.v 12), (.v 13)]) (.slc (.var 8) [] [(.int 2)])
def b__law_book_5 : MS := .ite (.cmp .eq (.bcall "len" [(.var 8)]) (.int 2)) [.ret (.make .pure "Book" [(.var 1), (.var 12), (.var 13)] ["top", "bottom", "kinds", "lead", "hold", "boxes"] [(.var 3), (.var 4), (.var 5), (.var 6), (.var 7), (.var 9)])] []
def b__law_book_6 : MS := .par 14 15 (.ix (.var 8) (.int 2)) (.ix (.var 8) (.bin .sub (.bcall "len" [(.var 8)]) (.int 1)))
def b__law_book_7 : MS := .ite (.cmp .eq (.bcall "len" [(.var 8)]) (.int 3)) [.ret (.make .pure "Book" [(.var 1), (.var 12), (.var 13), (.var 14)] ["top", "bottom", "kinds", "lead", "hold", "boxes"] [(.var 3), (.var 4), (.var 5), (.var 6), (.var 7), (.var 9)])] []
def b__law_book_8 : MS := .ret (.make .pure "Book" [(.var 1), (.var 12), (.var 13), (.var 14), (.var 15)] ["top", "bottom", "kinds", "lead", "hold", "boxes"] [(.var 3), (.var 4), (.var 5), (.var 6), (.var 7), (.var 9)])
def b__law_book : List MS := [b__law_book_0, b__law_book_1, b__law_book_2, b__law_book_3, b__law_book_4, b__law_book_5, b__law_book_6, b__law_book_7, b__law_book_8]
def r__law_book : Mp.Row := { nm := "_law_book", at_ := .glo "_law_book", name := "_law_book", qual := "_law_book", params := defArgs s__law_book, body := defBody s__law_book, scope := defScope s__law_book, dfl := [], kwd := [], ps := ["_law_spec_here"], star := none, N := ["_law_spec_here", "_law_height", "_law_lot", "_law_top_z", "_law_bottom_z", "_law_kinds_z", "_law_lead_z", "_law_hold_z", "_law_made", "_law_boxes_z", "_law_level_here", "_law_box_here", "_law_one", "_law_two", "_law_three", "_law_four"], ms := b__law_book }
abbrev s__law_take : Stmt := top 35
def b__law_take_0 : MS := .ite (.and [(.cmp .eq (.ix (.var 0) (.int 2)) (.int 0)), (.cmp .lt (.ix (.var 0) (.int 1)) (.bcall "len" [(.ix (.var 0) (.int 0))]))]) [.set (.v 2) (.ix (.ix (.var 0) (.int 0)) (.ix (.var 0) (.int 1))), .sub (.var 0) (.int 1) (.bin .add (.ix (.var 0) (.int 1)) (.int 1)), .ite (.cmp .ge (.var 2) (.bin .pow (.int 10) (.int 18))) [.sub (.var 0) (.int 2) (.var 2)] [.sub (.var 0) (.int 3) (.bin .mod (.bcall "int" [(.bin .add (.bin .add (.bin .mul (.ix (.var 0) (.int 3)) (.int 28657)) (.bin .mod (.bcall "int" [(.var 2)]) (.int 2147483563))) (.int 13))]) (.int 2147483549))]] []
def b__law_take_1 : MS := .ite (.cmp .gt (.ix (.var 0) (.int 2)) (.int 0)) [.set (.v 3) (.bin .mod (.bcall "int" [(.ix (.var 0) (.int 2))]) (.var 1)), .sub (.var 0) (.int 2) (.bin .fdiv (.bcall "int" [(.ix (.var 0) (.int 2))]) (.var 1)), .ret (.var 3)] []
def b__law_take_2 : MS := .sub (.var 0) (.int 4) (.bin .add (.ix (.var 0) (.int 4)) (.int 1))
def b__law_take_3 : MS := .set (.v 4) (.bin .mod (.bcall "int" [(.bin .add (.ix (.var 0) (.int 3)) (.bin .mul (.ix (.var 0) (.int 4)) (.int 6007)))]) (.int 2147483549))
def b__law_take_4 : MS := .sub (.var 0) (.int 3) (.bin .mod (.bcall "int" [(.bin .add (.bin .add (.bin .pow (.var 4) (.int 3)) (.bin .mul (.int 50021) (.var 4))) (.int 977))]) (.int 2147483549))
def b__law_take_5 : MS := .ret (.bin .mod (.bcall "int" [(.bin .add (.bin .fdiv (.ix (.var 0) (.int 3)) (.int 59)) (.bin .mul (.bin .mod (.bcall "int" [(.ix (.var 0) (.int 3))]) (.int 7919)) (.int 37)))]) (.var 1))
def b__law_take : List MS := [b__law_take_0, b__law_take_1, b__law_take_2, b__law_take_3, b__law_take_4, b__law_take_5]
def r__law_take : Mp.Row := { nm := "_law_take", at_ := .glo "_law_take", name := "_law_take", qual := "_law_take", params := defArgs s__law_take, body := defBody s__law_take, scope := defScope s__law_take, dfl := [], kwd := [], ps := ["_law_bag_here", "_law_many"], star := none, N := ["_law_bag_here", "_law_many", "_law_cell", "_law_digit", "_law_step"], ms := b__law_take }
abbrev s_shape_of : Stmt := top 32
def b_shape_of_0 : MS := .expr (.call .raw "need_rows" [(.var 0), (.var 1)] [] [])
def b_shape_of_1 : MS := .set (.v 2) (.call .raw "first_shape" [] [] [])
def b_shape_of_2 : MS := .for_ (.t [(.v 3), (.v 4), (.v 5)]) .seq [(.var 1)] [.set (.v 2) (.call .pure "next_shape" [(.var 0), (.var 2), (.tup [(.var 3), (.var 4)])] [] [])]
def b_shape_of_3 : MS := .ret (.var 2)
def b_shape_of : List MS := [b_shape_of_0, b_shape_of_1, b_shape_of_2, b_shape_of_3]
def r_shape_of : Mp.Row := { nm := "shape_of", at_ := .glo "shape_of", name := "shape_of", qual := "shape_of", params := defArgs s_shape_of, body := defBody s_shape_of, scope := defScope s_shape_of, dfl := [], kwd := [], ps := ["book", "rows"], star := none, N := ["book", "rows", "shape", "turn", "kind", "amount"], ms := b_shape_of }
abbrev s__law_level : Stmt := top 38
def b__law_level_0 : MS := .par 1 2 (.call .raw "_law_pick" [(.var 0), (.lst false [(.int 1), (.int 1), (.int 0), (.int 2)])] [] []) (.call .raw "_law_pick" [(.var 0), (.lst false [(.int 1), (.int 0), (.int 1), (.int 2)])] [] [])
def b__law_level_1 : MS := .ret (.tup [(.var 1), (.var 2), (.cmp .eq (.call .raw "_law_take" [(.var 0), (.int 2)] [] []) (.int 0)), (.cmp .eq (.call .raw "_law_take" [(.var 0), (.int 4)] [] []) (.int 0))])
def b__law_level : List MS := [b__law_level_0, b__law_level_1]
def r__law_level : Mp.Row := { nm := "_law_level", at_ := .glo "_law_level", name := "_law_level", qual := "_law_level", params := defArgs s__law_level, body := defBody s__law_level, scope := defScope s__law_level, dfl := [], kwd := [], ps := ["_law_bag_here"], star := none, N := ["_law_bag_here", "_law_head", "_law_foot"], ms := b__law_level }
abbrev s__law_pick : Stmt := top 36
def b__law_pick_0 : MS := .ret (.ix (.var 1) (.call .raw "_law_take" [(.var 0), (.bcall "len" [(.var 1)])] [] []))
def b__law_pick : List MS := [b__law_pick_0]
def r__law_pick : Mp.Row := { nm := "_law_pick", at_ := .glo "_law_pick", name := "_law_pick", qual := "_law_pick", params := defArgs s__law_pick, body := defBody s__law_pick, scope := defScope s__law_pick, dfl := [], kwd := [], ps := ["_law_bag_here", "_law_some"], star := none, N := ["_law_bag_here", "_law_some"], ms := b__law_pick }
abbrev s__law_box : Stmt := top 40
def b__law_box_0 : MS := .set (.v 3) (.ite (.chain .lt .lt (.int 0) (.var 1) (.int 3)) (.call .raw "_law_pick" [(.var 0), (.lst false [(.non), (.bin .sub (.var 1) (.int 1)), (.int 0)])] [] []) (.non))
def b__law_box_1 : MS := .ret (.tup [(.var 3), (.call .raw "_law_spots" [(.var 0), (.var 2)] [] []), (.call .raw "_law_spots" [(.var 0), (.int 4)] [] []), (.cmp .eq (.call .raw "_law_take" [(.var 0), (.int 3)] [] []) (.int 0))])
def b__law_box : List MS := [b__law_box_0, b__law_box_1]
def r__law_box : Mp.Row := { nm := "_law_box", at_ := .glo "_law_box", name := "_law_box", qual := "_law_box", params := defArgs s__law_box, body := defBody s__law_box, scope := defScope s__law_box, dfl := [], kwd := [], ps := ["_law_bag_here", "_law_at", "_law_levels"], star := none, N := ["_law_bag_here", "_law_at", "_law_levels", "_law_source"], ms := b__law_box }
abbrev s__law_lowest : Stmt := top 41
def b__law_lowest_0 : MS := .ret (.bin .add (.bin .add (.bin .add (.ix (.var 0) (.int 2)) (.ix (.var 0) (.int 3))) (.int 2)) (.bcall "sum" [(.comp false (.ix (.var 1) (.int 0)) (.v 1) .seq [(.ix (.var 0) (.int 1))] [(.ix (.var 1) (.int 2))])]))
def b__law_lowest : List MS := [b__law_lowest_0]
def r__law_lowest : Mp.Row := { nm := "_law_lowest", at_ := .glo "_law_lowest", name := "_law_lowest", qual := "_law_lowest", params := defArgs s__law_lowest, body := defBody s__law_lowest, scope := defScope s__law_lowest, dfl := [], kwd := [], ps := ["_law_spec_here"], star := none, N := ["_law_spec_here", "_law_level_here"], ms := b__law_lowest }
abbrev s__law_made_level : Stmt := top 43
def b__law_made_level_0 : MS := .ret (.make .pure "Level" [(.ix (.var 0) (.int 0)), (.ix (.var 0) (.int 1))] ["again", "fresh"] [(.ix (.var 0) (.int 2)), (.ix (.var 0) (.int 3))])
def b__law_made_level : List MS := [b__law_made_level_0]
def r__law_made_level : Mp.Row := { nm := "_law_made_level", at_ := .glo "_law_made_level", name := "_law_made_level", qual := "_law_made_level", params := defArgs s__law_made_level, body := defBody s__law_made_level, scope := defScope s__law_made_level, dfl := [], kwd := [], ps := ["_law_level_here"], star := none, N := ["_law_level_here"], ms := b__law_made_level }
abbrev s__law_made_box : Stmt := top 44
def b__law_made_box_0 : MS := .ret (.make .pure "Box" [(.ix (.var 0) (.int 0))] ["prints", "clears", "early"] [(.ix (.var 0) (.int 1)), (.ix (.var 0) (.int 2)), (.ix (.var 0) (.int 3))])
def b__law_made_box : List MS := [b__law_made_box_0]
def r__law_made_box : Mp.Row := { nm := "_law_made_box", at_ := .glo "_law_made_box", name := "_law_made_box", qual := "_law_made_box", params := defArgs s__law_made_box, body := defBody s__law_made_box, scope := defScope s__law_made_box, dfl := [], kwd := [], ps := ["_law_box_here"], star := none, N := ["_law_box_here"], ms := b__law_made_box }
abbrev s_Book_init : Stmt := inC 19 3
def b_Book_init_0 : MS := .ite (.or [(.not (.chain .le .le (.int 1) (.bcall "len" [(.var 8)]) (.attr (.var 0) "LEVELS"))), (.not (.bcall "all" [(.comp false (.isin (.var 9) ["Level"]) (.v 9) .seq [(.var 8)] [])]))]) [.never] []
def b_Book_init_1 : MS := .ite (.not (.call .raw "is_within" [(.var 1), (.int 1), (.attr (.var 0) "HEIGHT")] [] [])) [.never] []
def b_Book_init_2 : MS := .ite (.not (.call .raw "is_within" [(.var 2), (.int 0), (.glob "MOST_LINES")] [] [])) [.never] []
def b_Book_init_3 : MS := .ite (.not (.call .raw "is_within" [(.var 3), (.int 0), (.glob "MOST_LINES")] [] [])) [.never] []
def b_Book_init_4 : MS := .ite (.not (.call .raw "are_kinds" [(.var 4)] [] [])) [.never] []
def b_Book_init_5 : MS := .ite (.not (.call .raw "is_within" [(.var 5), (.int 0), (.glob "MOST_KEPT")] [] [])) [.never] []
def b_Book_init_6 : MS := .ite (.not (.call .raw "is_within" [(.var 6), (.int 0), (.glob "MOST_KEPT")] [] [])) [.never] []
def b_Book_init_7 : MS := .ite (.not (.call .raw "are_boxes" [(.var 7), (.attr (.var 0) "BOXES")] [] [])) [.never] []
def b_Book_init_8 : MS := .fld (.var 0) "height" (.var 1)
def b_Book_init_9 : MS := .fld (.var 0) "top" (.var 2)
def b_Book_init_10 : MS := .fld (.var 0) "bottom" (.var 3)
def b_Book_init_11 : MS := .fld (.var 0) "lead" (.var 5)
def b_Book_init_12 : MS := .fld (.var 0) "hold" (.var 6)
def b_Book_init_13 : MS := .fld (.var 0) "own_levels" (.bcall "list" [(.var 8)])
def b_Book_init_14 : MS := .fld (.var 0) "own_kinds" (.bcall "list" [(.var 4)])
def b_Book_init_15 : MS := .fld (.var 0) "own_boxes" (.bcall "list" [(.var 7)])
def b_Book_init_16 : MS := .ite (.cmp .lt (.var 1) (.attr (.var 0) "lowest")) [.never] []
def b_Book_init : List MS := [b_Book_init_0, b_Book_init_1, b_Book_init_2, b_Book_init_3, b_Book_init_4, b_Book_init_5, b_Book_init_6, b_Book_init_7, b_Book_init_8, b_Book_init_9, b_Book_init_10, b_Book_init_11, b_Book_init_12, b_Book_init_13, b_Book_init_14, b_Book_init_15, b_Book_init_16]
def r_Book_init : Mp.Row := { nm := "Book.__init__", at_ := .meth "Book" "__init__", name := "__init__", qual := "Book.__init__", params := defArgs s_Book_init, body := defBody s_Book_init, scope := defScope s_Book_init, dfl := [], kwd := [("top", (.int 0)), ("bottom", (.int 0)), ("kinds", (.adr fun K => match PySem.W.nsIn K (kwAt K (.meth "Book" "__init__")) "kinds" with | some (some (.ref a)) => a | _ => 0)), ("lead", (.int 0)), ("hold", (.int 0)), ("boxes", (.adr fun K => match PySem.W.nsIn K (kwAt K (.meth "Book" "__init__")) "boxes" with | some (some (.ref a)) => a | _ => 0))], ps := ["self", "height", "top", "bottom", "kinds", "lead", "hold", "boxes", "levels"], star := some 2, N := ["self", "height", "top", "bottom", "kinds", "lead", "hold", "boxes", "levels", "level"], ms := b_Book_init }
abbrev s_need_rows : Stmt := top 31
def b_need_rows_0 : MS := .for_ (.t [(.v 2), (.v 3)]) .enum [(.var 1)] [.ite (.not (.call .raw "is_row" [(.var 0), (.var 3)] [] [])) [.never] []]
def b_need_rows : List MS := [b_need_rows_0]
def r_need_rows : Mp.Row := { nm := "need_rows", at_ := .glo "need_rows", name := "need_rows", qual := "need_rows", params := defArgs s_need_rows, body := defBody s_need_rows, scope := defScope s_need_rows, dfl := [], kwd := [], ps := ["book", "rows"], star := none, N := ["book", "rows", "index", "row"], ms := b_need_rows }
abbrev s_next_shape : Stmt := top 30
def b_next_shape_0 : MS := .ret (.ix (.call .raw "parted_events" [(.var 0), (.var 1), (.var 2)] [] []) (.int 2))
def b_next_shape : List MS := [b_next_shape_0]
def r_next_shape : Mp.Row := { nm := "next_shape", at_ := .glo "next_shape", name := "next_shape", qual := "next_shape", params := defArgs s_next_shape, body := defBody s_next_shape, scope := defScope s_next_shape, dfl := [], kwd := [], ps := ["book", "shape", "symbol"], star := none, N := ["book", "shape", "symbol"], ms := b_next_shape }
abbrev s__law_spots : Stmt := top 39
def b__law_spots_0 : MS := .ret (.bmeth "join" (.str "") [(.comp false (.var 2) (.v 2) .seq [(.bin .add (.slc (.str "0123") [] [(.var 1)]) (.str "bt"))] [(.cmp .eq (.call .raw "_law_take" [(.var 0), (.int 2)] [] []) (.int 0))])])
def b__law_spots : List MS := [b__law_spots_0]
def r__law_spots : Mp.Row := { nm := "_law_spots", at_ := .glo "_law_spots", name := "_law_spots", qual := "_law_spots", params := defArgs s__law_spots, body := defBody s__law_spots, scope := defScope s__law_spots, dfl := [], kwd := [], ps := ["_law_bag_here", "_law_levels"], star := none, N := ["_law_bag_here", "_law_levels", "_law_spot"], ms := b__law_spots }
abbrev s_Level_init : Stmt := inC 15 0
def b_Level_init_0 : MS := .ite (.or [(.not (.call .raw "is_within" [(.var 1), (.int 0), (.glob "MOST_LINES")] [] [])), (.not (.call .raw "is_within" [(.var 2), (.int 0), (.glob "MOST_LINES")] [] []))]) [.never] []
def b_Level_init_1 : MS := .ite (.or [(.not (.isin (.var 3) ["bool"])), (.not (.isin (.var 4) ["bool"]))]) [.never] []
def b_Level_init_2 : MS := .fld (.var 0) "head" (.var 1)
def b_Level_init_3 : MS := .fld (.var 0) "foot" (.var 2)
def b_Level_init_4 : MS := .fld (.var 0) "again" (.var 3)
def b_Level_init_5 : MS := .fld (.var 0) "fresh" (.var 4)
def b_Level_init : List MS := [b_Level_init_0, b_Level_init_1, b_Level_init_2, b_Level_init_3, b_Level_init_4, b_Level_init_5]
def r_Level_init : Mp.Row := { nm := "Level.__init__", at_ := .meth "Level" "__init__", name := "__init__", qual := "Level.__init__", params := defArgs s_Level_init, body := defBody s_Level_init, scope := defScope s_Level_init, dfl := [(.int 0), (.int 0)], kwd := [("again", (.bl false)), ("fresh", (.bl false))], ps := ["self", "head", "foot", "again", "fresh"], star := none, N := ["self", "head", "foot", "again", "fresh"], ms := b_Level_init }
abbrev s_Box_init : Stmt := inC 16 0
def b_Box_init_0 : MS := .ite (.and [(.cmp .notn (.var 1) (.non)), (.not (.call .raw "is_within" [(.var 1), (.int 0), (.int 1)] [] []))]) [.never] []
def b_Box_init_1 : MS := .ite (.or [(.not (.call .raw "is_spots" [(.var 2)] [] [])), (.not (.call .raw "is_spots" [(.var 3)] [] [])), (.not (.isin (.var 4) ["bool"]))]) [.never] []
def b_Box_init_2 : MS := .fld (.var 0) "source" (.var 1)
def b_Box_init_3 : MS := .fld (.var 0) "prints" (.var 2)
def b_Box_init_4 : MS := .fld (.var 0) "clears" (.var 3)
def b_Box_init_5 : MS := .fld (.var 0) "early" (.var 4)
def b_Box_init : List MS := [b_Box_init_0, b_Box_init_1, b_Box_init_2, b_Box_init_3, b_Box_init_4, b_Box_init_5]
def r_Box_init : Mp.Row := { nm := "Box.__init__", at_ := .meth "Box" "__init__", name := "__init__", qual := "Box.__init__", params := defArgs s_Box_init, body := defBody s_Box_init, scope := defScope s_Box_init, dfl := [(.non)], kwd := [("prints", (.str "")), ("clears", (.str "")), ("early", (.bl false))], ps := ["self", "source", "prints", "clears", "early"], star := none, N := ["self", "source", "prints", "clears", "early"], ms := b_Box_init }
abbrev s_is_within : Stmt := top 13
def b_is_within_0 : MS := .ret (.and [(.call .raw "is_number" [(.var 0)] [] []), (.chain .le .le (.var 1) (.var 0) (.var 2))])
def b_is_within : List MS := [b_is_within_0]
def r_is_within : Mp.Row := { nm := "is_within", at_ := .glo "is_within", name := "is_within", qual := "is_within", params := defArgs s_is_within, body := defBody s_is_within, scope := defScope s_is_within, dfl := [], kwd := [], ps := ["value", "low", "high"], star := none, N := ["value", "low", "high"], ms := b_is_within }
abbrev s_are_kinds : Stmt := top 17
def b_are_kinds_0 : MS := .ret (.and [(.isin (.var 0) ["list", "tuple"]), (.cmp .inn (.bcall "len" [(.var 0)]) (.tup [(.int 1), (.int 2)])), (.bcall "all" [(.comp false (.call .raw "is_within" [(.var 1), (.int 1), (.int 2)] [] []) (.v 1) .seq [(.var 0)] [])])])
def b_are_kinds : List MS := [b_are_kinds_0]
def r_are_kinds : Mp.Row := { nm := "are_kinds", at_ := .glo "are_kinds", name := "are_kinds", qual := "are_kinds", params := defArgs s_are_kinds, body := defBody s_are_kinds, scope := defScope s_are_kinds, dfl := [], kwd := [], ps := ["value"], star := none, N := ["value", "one"], ms := b_are_kinds }
abbrev s_are_boxes : Stmt := top 18
def b_are_boxes_0 : MS := .ite (.or [(.not (.isin (.var 0) ["list", "tuple"])), (.cmp .gt (.bcall "len" [(.var 0)]) (.var 1))]) [.ret (.bl false)] []
def b_are_boxes_1 : MS := .ite (.not (.bcall "all" [(.comp false (.isin (.var 2) ["Box"]) (.v 2) .seq [(.var 0)] [])])) [.ret (.bl false)] []
def b_are_boxes_2 : MS := .ret (.bcall "all" [(.comp false (.or [(.cmp .isn (.attr (.var 2) "source") (.non)), (.cmp .lt (.attr (.var 2) "source") (.var 3))]) (.t [(.v 3), (.v 2)]) .enum [(.var 0)] [])])
def b_are_boxes : List MS := [b_are_boxes_0, b_are_boxes_1, b_are_boxes_2]
def r_are_boxes : Mp.Row := { nm := "are_boxes", at_ := .glo "are_boxes", name := "are_boxes", qual := "are_boxes", params := defArgs s_are_boxes, body := defBody s_are_boxes, scope := defScope s_are_boxes, dfl := [], kwd := [], ps := ["value", "most"], star := none, N := ["value", "most", "box", "at"], ms := b_are_boxes }
abbrev s_Book_lowest : Stmt := inC 19 5
def b_Book_lowest_0 : MS := .ret (.bin .add (.bin .add (.bin .add (.attr (.var 0) "top") (.attr (.var 0) "bottom")) (.glob "MOST_LINES")) (.bcall "sum" [(.comp false (.attr (.var 1) "head") (.v 1) .seq [(.attr (.var 0) "own_levels")] [(.attr (.var 1) "again")])]))
def b_Book_lowest : List MS := [b_Book_lowest_0]
def r_Book_lowest : Mp.Row := { nm := "Book.lowest", at_ := .prop "Book" "lowest", name := "lowest", qual := "Book.lowest", params := defArgs s_Book_lowest, body := defBody s_Book_lowest, scope := defScope s_Book_lowest, dfl := [], kwd := [], ps := ["self"], star := none, N := ["self", "level"], ms := b_Book_lowest }
abbrev s_is_row : Stmt := top 20
def b_is_row_0 : MS := .ite (.or [(.not (.isin (.var 1) ["tuple"])), (.cmp .ne (.bcall "len" [(.var 1)]) (.int 3)), (.not (.bcall "all" [(.comp false (.call .raw "is_number" [(.var 2)] [] []) (.v 2) .seq [(.var 1)] [])]))]) [.ret (.bl false)] []
def b_is_row_1 : MS := .ret (.and [(.chain .le .le (.int 1) (.ix (.var 1) (.int 0)) (.own1 true (.var 0))), (.chain .le .lt (.int 0) (.ix (.var 1) (.int 1)) (.bcall "len" [(.attr (.var 0) "own_kinds")]))])
def b_is_row : List MS := [b_is_row_0, b_is_row_1]
def r_is_row : Mp.Row := { nm := "is_row", at_ := .glo "is_row", name := "is_row", qual := "is_row", params := defArgs s_is_row, body := defBody s_is_row, scope := defScope s_is_row, dfl := [], kwd := [], ps := ["book", "value"], star := none, N := ["book", "value", "item"], ms := b_is_row }
abbrev s_parted_events : Stmt := top 29
def b_parted_events_0 : MS := .par 3 4 (.make .raw "Pen" [(.var 0), (.var 1)] [] []) (.own1 true (.var 0))
def b_parted_events_1 : MS := .par3 5 6 7 [(.ix (.var 1) (.int 3)), (.lcopy (.ix (.var 1) (.int 4))), (.lst true [])]
def b_parted_events_2 : MS := .ite (.cmp .eq (.var 1) (.call .raw "first_shape" [] [] [])) [.set (.v 5) (.int 0)] [.ite (.or [(.cmp .isn (.var 2) (.non)), (.cmp .lt (.ix (.var 2) (.int 0)) (.var 4))]) [.set (.v 5) (.ite (.cmp .isn (.var 2) (.non)) (.int 0) (.ix (.var 2) (.int 0))), .expr (.call .raw "close_groups" [(.var 3), (.var 1), (.var 5)] [] []), .par 6 7 (.lst true []) (.attr (.var 3) "happened"), .fld (.var 3) "happened" (.lst true [])] []]
def b_parted_events_3 : MS := .ite (.cmp .isn (.var 2) (.non)) [.ite (.cmp .ne (.var 1) (.call .raw "first_shape" [] [] [])) [.expr (.meth .raw (.var 3) "end_page" [])] [], .ret (.tup [(.var 7), (.attr (.var 3) "happened"), (.var 1)])] []
def b_parted_events_4 : MS := .expr (.bmeth "append" (.var 6) [(.ix (.var 2) (.int 1))])
def b_parted_events_5 : MS := .ite (.and [(.cmp .lt (.var 5) (.var 4)), (.cmp .gt (.bcall "len" [(.var 6)]) (.bin .add (.attr (.var 0) "lead") (.attr (.var 0) "hold")))]) [.expr (.meth .raw (.var 3) "set_lot" [(.bin .add (.call .raw "head_bands" [(.var 0), (.var 5)] [] []) (.comp false (.tup [(.str "row"), (.var 8)]) (.v 8) .seq [(.slc (.var 6) [] [(.attr (.var 0) "lead")])] []))]), .par 5 6 (.var 4) (.slc (.var 6) [(.attr (.var 0) "lead")] [])] []
def b_parted_events_6 : MS := .while_ (.and [(.cmp .eq (.var 5) (.var 4)), (.cmp .gt (.bcall "len" [(.var 6)]) (.attr (.var 0) "hold"))]) [.expr (.meth .raw (.var 3) "set_lot" [(.lst false [(.tup [(.str "row"), (.ix (.var 6) (.int 0))])])]), .set (.v 6) (.slc (.var 6) [(.int 1)] [])]
def b_parted_events_7 : MS := .ret (.tup [(.var 7), (.attr (.var 3) "happened"), (.tup [(.attr (.var 3) "left"), (.attr (.var 3) "has_row"), (.attr (.var 3) "is_late"), (.var 5), (.bcall "tuple" [(.var 6)])])])
def b_parted_events : List MS := [b_parted_events_0, b_parted_events_1, b_parted_events_2, b_parted_events_3, b_parted_events_4, b_parted_events_5, b_parted_events_6, b_parted_events_7]
def r_parted_events : Mp.Row := { nm := "parted_events", at_ := .glo "parted_events", name := "parted_events", qual := "parted_events", params := defArgs s_parted_events, body := defBody s_parted_events, scope := defScope s_parted_events, dfl := [], kwd := [], ps := ["book", "shape", "symbol"], star := none, N := ["book", "shape", "symbol", "pen", "levels", "heads", "held", "closing", "kind"], ms := b_parted_events }
abbrev s_is_spots : Stmt := top 14
def b_is_spots_0 : MS := .ret (.and [(.isin (.var 0) ["str"]), (.cmp .eq (.var 0) (.bmeth "join" (.str "") [(.comp false (.var 1) (.v 1) .seq [(.glob "SPOTS")] [(.cmp .inn (.var 1) (.var 0))])]))])
def b_is_spots : List MS := [b_is_spots_0]
def r_is_spots : Mp.Row := { nm := "is_spots", at_ := .glo "is_spots", name := "is_spots", qual := "is_spots", params := defArgs s_is_spots, body := defBody s_is_spots, scope := defScope s_is_spots, dfl := [], kwd := [], ps := ["value"], star := none, N := ["value", "spot"], ms := b_is_spots }
abbrev s_is_number : Stmt := top 12
def b_is_number_0 : MS := .ret (.and [(.isin (.var 0) ["int"]), (.not (.isin (.var 0) ["bool"]))])
def b_is_number : List MS := [b_is_number_0]
def r_is_number : Mp.Row := { nm := "is_number", at_ := .glo "is_number", name := "is_number", qual := "is_number", params := defArgs s_is_number, body := defBody s_is_number, scope := defScope s_is_number, dfl := [], kwd := [], ps := ["value"], star := none, N := ["value"], ms := b_is_number }
abbrev s_Book_len : Stmt := inC 19 15
def b_Book_len_0 : MS := .ret (.bcall "len" [(.attr (.var 0) "own_levels")])
def b_Book_len : List MS := [b_Book_len_0]
def r_Book_len : Mp.Row := { nm := "Book.__len__", at_ := .meth "Book" "__len__", name := "__len__", qual := "Book.__len__", params := defArgs s_Book_len, body := defBody s_Book_len, scope := defScope s_Book_len, dfl := [], kwd := [], ps := ["self"], star := none, N := ["self"], ms := b_Book_len }
abbrev s_Pen_init : Stmt := inC 27 0
def b_Pen_init_0 : MS := .fld (.var 0) "own_book" (.var 1)
def b_Pen_init_1 : MS := .fld (.var 0) "left" (.ix (.var 2) (.int 0))
def b_Pen_init_2 : MS := .fld (.var 0) "has_row" (.ix (.var 2) (.int 1))
def b_Pen_init_3 : MS := .fld (.var 0) "is_late" (.ix (.var 2) (.int 2))
def b_Pen_init_4 : MS := .fld (.var 0) "happened" (.lst true [])
def b_Pen_init : List MS := [b_Pen_init_0, b_Pen_init_1, b_Pen_init_2, b_Pen_init_3, b_Pen_init_4]
def r_Pen_init : Mp.Row := { nm := "Pen.__init__", at_ := .meth "Pen" "__init__", name := "__init__", qual := "Pen.__init__", params := defArgs s_Pen_init, body := defBody s_Pen_init, scope := defScope s_Pen_init, dfl := [], kwd := [], ps := ["self", "book", "shape"], star := none, N := ["self", "book", "shape"], ms := b_Pen_init }
abbrev s_close_groups : Stmt := top 28
def b_close_groups_0 : MS := .set (.v 3) (.attr (.var 0) "own_book")
def b_close_groups_1 : MS := .set (.v 4) (.bin .add (.call .raw "head_bands" [(.var 3), (.ix (.var 1) (.int 3))] [] []) (.comp false (.tup [(.str "row"), (.var 5)]) (.v 5) .seq [(.ix (.var 1) (.int 4))] []))
def b_close_groups_2 : MS := .expr (.meth .raw (.var 0) "set_lot" [(.bin .add (.var 4) (.call .raw "foot_bands" [(.var 3), (.var 2)] [] []))])
def b_close_groups : List MS := [b_close_groups_0, b_close_groups_1, b_close_groups_2]
def r_close_groups : Mp.Row := { nm := "close_groups", at_ := .glo "close_groups", name := "close_groups", qual := "close_groups", params := defArgs s_close_groups, body := defBody s_close_groups, scope := defScope s_close_groups, dfl := [], kwd := [], ps := ["pen", "shape", "turn"], star := none, N := ["pen", "shape", "turn", "book", "bands", "kind"], ms := b_close_groups }
abbrev s_Pen_end_page : Stmt := inC 27 1
def b_Pen_end_page_0 : MS := .expr (.bmeth "append" (.attr (.var 0) "happened") [(.tup [(.str "end"), (.attr (.var 0) "left")])])
def b_Pen_end_page_1 : MS := .fld (.var 0) "left" (.neg (.int 1))
def b_Pen_end_page : List MS := [b_Pen_end_page_0, b_Pen_end_page_1]
def r_Pen_end_page : Mp.Row := { nm := "Pen.end_page", at_ := .meth "Pen" "end_page", name := "end_page", qual := "Pen.end_page", params := defArgs s_Pen_end_page, body := defBody s_Pen_end_page, scope := defScope s_Pen_end_page, dfl := [], kwd := [], ps := ["self"], star := none, N := ["self"], ms := b_Pen_end_page }
abbrev s_Pen_set_lot : Stmt := inC 27 5
def b_Pen_set_lot_0 : MS := .ite (.cmp .eq (.bcall "len" [(.var 1)]) (.int 0)) [.retN] []
def b_Pen_set_lot_1 : MS := .set (.v 2) (.bcall "sum" [(.comp false (.call .raw "band_lines" [(.attr (.var 0) "own_book"), (.var 3)] [] []) (.v 3) .seq [(.var 1)] [])])
def b_Pen_set_lot_2 : MS := .ite (.meth .raw (.var 0) "needs_page" [(.var 1), (.var 2)]) [.ite (.cmp .ge (.attr (.var 0) "left") (.int 0)) [.expr (.meth .raw (.var 0) "end_page" [])] [], .expr (.meth .raw (.var 0) "begin_page" [(.ix (.var 1) (.int 0))])] []
def b_Pen_set_lot_3 : MS := .ite (.cmp .lt (.attr (.var 0) "left") (.var 2)) [.expr (.bmeth "append" (.attr (.var 0) "happened") [(.tup [(.str "torn")])])] []
def b_Pen_set_lot_4 : MS := .for_ (.v 3) .seq [(.var 1)] [.ite (.cmp .lt (.attr (.var 0) "left") (.call .raw "band_lines" [(.attr (.var 0) "own_book"), (.var 3)] [] [])) [.expr (.meth .raw (.var 0) "end_page" []), .expr (.meth .raw (.var 0) "begin_page" [(.var 3)])] [], .expr (.meth .raw (.var 0) "set_band" [(.var 3)])]
def b_Pen_set_lot : List MS := [b_Pen_set_lot_0, b_Pen_set_lot_1, b_Pen_set_lot_2, b_Pen_set_lot_3, b_Pen_set_lot_4]
def r_Pen_set_lot : Mp.Row := { nm := "Pen.set_lot", at_ := .meth "Pen" "set_lot", name := "set_lot", qual := "Pen.set_lot", params := defArgs s_Pen_set_lot, body := defBody s_Pen_set_lot, scope := defScope s_Pen_set_lot, dfl := [], kwd := [], ps := ["self", "bands"], star := none, N := ["self", "bands", "lines", "band"], ms := b_Pen_set_lot }
abbrev s_head_bands : Stmt := top 24
def b_head_bands_0 : MS := .ret (.comp false (.tup [(.str "head"), (.var 2)]) (.v 2) .range2 [(.var 1), (.own1 true (.var 0))] [(.cmp .gt (.attr (.ix (.attr (.var 0) "own_levels") (.var 2)) "head") (.int 0))])
def b_head_bands : List MS := [b_head_bands_0]
def r_head_bands : Mp.Row := { nm := "head_bands", at_ := .glo "head_bands", name := "head_bands", qual := "head_bands", params := defArgs s_head_bands, body := defBody s_head_bands, scope := defScope s_head_bands, dfl := [], kwd := [], ps := ["book", "start"], star := none, N := ["book", "start", "at"], ms := b_head_bands }
abbrev s_foot_bands : Stmt := top 25
def b_foot_bands_0 : MS := .ret (.comp false (.tup [(.str "foot"), (.var 2)]) (.v 2) .range3 [(.bin .sub (.own1 true (.var 0)) (.int 1)), (.bin .sub (.var 1) (.int 1)), (.neg (.int 1))] [(.cmp .gt (.attr (.ix (.attr (.var 0) "own_levels") (.var 2)) "foot") (.int 0))])
def b_foot_bands : List MS := [b_foot_bands_0]
def r_foot_bands : Mp.Row := { nm := "foot_bands", at_ := .glo "foot_bands", name := "foot_bands", qual := "foot_bands", params := defArgs s_foot_bands, body := defBody s_foot_bands, scope := defScope s_foot_bands, dfl := [], kwd := [], ps := ["book", "turn"], star := none, N := ["book", "turn", "at"], ms := b_foot_bands }
abbrev s_band_lines : Stmt := top 23
def b_band_lines_0 : MS := .ite (.cmp .eq (.ix (.var 1) (.int 0)) (.str "row")) [.ret (.ix (.attr (.var 0) "own_kinds") (.ix (.var 1) (.int 1)))] []
def b_band_lines_1 : MS := .set (.v 2) (.ix (.attr (.var 0) "own_levels") (.ix (.var 1) (.int 1)))
def b_band_lines_2 : MS := .ret (.ite (.cmp .eq (.ix (.var 1) (.int 0)) (.str "head")) (.attr (.var 2) "head") (.attr (.var 2) "foot"))
def b_band_lines : List MS := [b_band_lines_0, b_band_lines_1, b_band_lines_2]
def r_band_lines : Mp.Row := { nm := "band_lines", at_ := .glo "band_lines", name := "band_lines", qual := "band_lines", params := defArgs s_band_lines, body := defBody s_band_lines, scope := defScope s_band_lines, dfl := [], kwd := [], ps := ["book", "band"], star := none, N := ["book", "band", "level"], ms := b_band_lines }
abbrev s_Pen_needs_page : Stmt := inC 27 4
def b_Pen_needs_page_0 : MS := .ite (.cmp .lt (.attr (.var 0) "left") (.var 2)) [.ret (.bl true)] []
def b_Pen_needs_page_1 : MS := .ret (.bcall "any" [(.comp false (.and [(.cmp .eq (.ix (.var 3) (.int 0)) (.str "head")), (.attr (.ix (.attr (.attr (.var 0) "own_book") "own_levels") (.ix (.var 3) (.int 1))) "fresh")]) (.v 3) .seq [(.var 1)] [])])
def b_Pen_needs_page : List MS := [b_Pen_needs_page_0, b_Pen_needs_page_1]
def r_Pen_needs_page : Mp.Row := { nm := "Pen.needs_page", at_ := .meth "Pen" "needs_page", name := "needs_page", qual := "Pen.needs_page", params := defArgs s_Pen_needs_page, body := defBody s_Pen_needs_page, scope := defScope s_Pen_needs_page, dfl := [], kwd := [], ps := ["self", "bands", "lines"], star := none, N := ["self", "bands", "lines", "band"], ms := b_Pen_needs_page }
abbrev s_Pen_begin_page : Stmt := inC 27 2
def b_Pen_begin_page_0 : MS := .sett (.t [(.v 2), (.v 3)]) (.tup [(.attr (.var 0) "own_book"), (.call .raw "repeated_levels" [(.attr (.var 0) "own_book"), (.var 1)] [] [])])
def b_Pen_begin_page_1 : MS := .set (.v 4) (.bcall "sum" [(.comp false (.attr (.ix (.attr (.var 2) "own_levels") (.var 5)) "head") (.v 5) .seq [(.var 3)] [])])
def b_Pen_begin_page_2 : MS := .fld (.var 0) "left" (.bin .sub (.bin .sub (.bin .sub (.attr (.var 2) "height") (.attr (.var 2) "top")) (.attr (.var 2) "bottom")) (.var 4))
def b_Pen_begin_page_3 : MS := .fld (.var 0) "has_row" (.bl false)
def b_Pen_begin_page_4 : MS := .fld (.var 0) "is_late" (.bl false)
def b_Pen_begin_page_5 : MS := .expr (.bmeth "append" (.attr (.var 0) "happened") [(.tup [(.str "begin"), (.var 3)])])
def b_Pen_begin_page : List MS := [b_Pen_begin_page_0, b_Pen_begin_page_1, b_Pen_begin_page_2, b_Pen_begin_page_3, b_Pen_begin_page_4, b_Pen_begin_page_5]
def r_Pen_begin_page : Mp.Row := { nm := "Pen.begin_page", at_ := .meth "Pen" "begin_page", name := "begin_page", qual := "Pen.begin_page", params := defArgs s_Pen_begin_page, body := defBody s_Pen_begin_page, scope := defScope s_Pen_begin_page, dfl := [], kwd := [], ps := ["self", "band"], star := none, N := ["self", "band", "book", "again", "heads", "at"], ms := b_Pen_begin_page }
abbrev s_Pen_set_band : Stmt := inC 27 3
def b_Pen_set_band_0 : MS := .fldaug (.var 0) "left" .sub (.call .raw "band_lines" [(.attr (.var 0) "own_book"), (.var 1)] [] [])
def b_Pen_set_band_1 : MS := .ite (.cmp .eq (.ix (.var 1) (.int 0)) (.str "row")) [.fld (.var 0) "has_row" (.bl true), .fld (.var 0) "is_late" (.bl false)] [.ite (.cmp .eq (.ix (.var 1) (.int 0)) (.str "head")) [.fld (.var 0) "is_late" (.bl true)] []]
def b_Pen_set_band_2 : MS := .expr (.bmeth "append" (.attr (.var 0) "happened") [(.var 1)])
def b_Pen_set_band : List MS := [b_Pen_set_band_0, b_Pen_set_band_1, b_Pen_set_band_2]
def r_Pen_set_band : Mp.Row := { nm := "Pen.set_band", at_ := .meth "Pen" "set_band", name := "set_band", qual := "Pen.set_band", params := defArgs s_Pen_set_band, body := defBody s_Pen_set_band, scope := defScope s_Pen_set_band, dfl := [], kwd := [], ps := ["self", "band"], star := none, N := ["self", "band"], ms := b_Pen_set_band }
abbrev s_repeated_levels : Stmt := top 26
def b_repeated_levels_0 : MS := .set (.v 2) (.own1 true (.var 0))
def b_repeated_levels_1 : MS := .ite (.cmp .eq (.ix (.var 1) (.int 0)) (.str "head")) [.set (.v 2) (.ix (.var 1) (.int 1))] [.ite (.cmp .eq (.ix (.var 1) (.int 0)) (.str "foot")) [.set (.v 2) (.bin .add (.ix (.var 1) (.int 1)) (.int 1))] []]
def b_repeated_levels_2 : MS := .ret (.bcall "tuple" [(.comp false (.var 3) (.v 3) .range1 [(.var 2)] [(.and [(.attr (.ix (.attr (.var 0) "own_levels") (.var 3)) "again"), (.cmp .gt (.attr (.ix (.attr (.var 0) "own_levels") (.var 3)) "head") (.int 0))])])])
def b_repeated_levels : List MS := [b_repeated_levels_0, b_repeated_levels_1, b_repeated_levels_2]
def r_repeated_levels : Mp.Row := { nm := "repeated_levels", at_ := .glo "repeated_levels", name := "repeated_levels", qual := "repeated_levels", params := defArgs s_repeated_levels, body := defBody s_repeated_levels, scope := defScope s_repeated_levels, dfl := [], kwd := [], ps := ["book", "band"], star := none, N := ["book", "band", "count", "at"], ms := b_repeated_levels }
def h_0 : Str × Shp := ("_law_bag", ⟨1, [], [.pos 0]⟩)
def h_1 : Str × Shp := ("_law_same", ⟨2, [], [.pos 0, .pos 1]⟩)
def h_2 : Str × Shp := ("first_shape", ⟨0, [], []⟩)
def h_3 : Str × Shp := ("_law_spec", ⟨4, [], [.pos 0, .pos 1, .pos 2, .pos 3]⟩)
def h_4 : Str × Shp := ("_law_book", ⟨1, [], [.pos 0]⟩)
def h_5 : Str × Shp := ("_law_take", ⟨2, [], [.pos 0, .pos 1]⟩)
def h_6 : Str × Shp := ("shape_of", ⟨2, [], [.pos 0, .pos 1]⟩)
def h_7 : Str × Shp := ("_law_level", ⟨1, [], [.pos 0]⟩)
def h_8 : Str × Shp := ("_law_pick", ⟨2, [], [.pos 0, .pos 1]⟩)
def h_9 : Str × Shp := ("_law_box", ⟨3, [], [.pos 0, .pos 1, .pos 2]⟩)
def h_10 : Str × Shp := ("_law_lowest", ⟨1, [], [.pos 0]⟩)
def h_11 : Str × Shp := ("_law_made_level", ⟨1, [], [.pos 0]⟩)
def h_12 : Str × Shp := ("_law_made_box", ⟨1, [], [.pos 0]⟩)
def h_13 : Str × Shp := ("Book.__init__", ⟨3, ["top", "bottom", "kinds", "lead", "hold", "boxes"], [.pos 0, .pos 1, .kw 0, .kw 1, .kw 2, .kw 3, .kw 4, .kw 5, .rest 2]⟩)
def h_14 : Str × Shp := ("Book.__init__", ⟨4, ["top", "bottom", "kinds", "lead", "hold", "boxes"], [.pos 0, .pos 1, .kw 0, .kw 1, .kw 2, .kw 3, .kw 4, .kw 5, .rest 2]⟩)
def h_15 : Str × Shp := ("Book.__init__", ⟨5, ["top", "bottom", "kinds", "lead", "hold", "boxes"], [.pos 0, .pos 1, .kw 0, .kw 1, .kw 2, .kw 3, .kw 4, .kw 5, .rest 2]⟩)
def h_16 : Str × Shp := ("Book.__init__", ⟨6, ["top", "bottom", "kinds", "lead", "hold", "boxes"], [.pos 0, .pos 1, .kw 0, .kw 1, .kw 2, .kw 3, .kw 4, .kw 5, .rest 2]⟩)
def h_17 : Str × Shp := ("need_rows", ⟨2, [], [.pos 0, .pos 1]⟩)
def h_18 : Str × Shp := ("next_shape", ⟨3, [], [.pos 0, .pos 1, .pos 2]⟩)
def h_19 : Str × Shp := ("_law_spots", ⟨2, [], [.pos 0, .pos 1]⟩)
def h_20 : Str × Shp := ("Level.__init__", ⟨3, ["again", "fresh"], [.pos 0, .pos 1, .pos 2, .kw 0, .kw 1]⟩)
def h_21 : Str × Shp := ("Box.__init__", ⟨2, ["prints", "clears", "early"], [.pos 0, .pos 1, .kw 0, .kw 1, .kw 2]⟩)
def h_22 : Str × Shp := ("is_within", ⟨3, [], [.pos 0, .pos 1, .pos 2]⟩)
def h_23 : Str × Shp := ("are_kinds", ⟨1, [], [.pos 0]⟩)
def h_24 : Str × Shp := ("are_boxes", ⟨2, [], [.pos 0, .pos 1]⟩)
def h_25 : Str × Shp := ("Book.lowest", ⟨1, [], [.pos 0]⟩)
def h_26 : Str × Shp := ("is_row", ⟨2, [], [.pos 0, .pos 1]⟩)
def h_27 : Str × Shp := ("parted_events", ⟨3, [], [.pos 0, .pos 1, .pos 2]⟩)
def h_28 : Str × Shp := ("is_spots", ⟨1, [], [.pos 0]⟩)
def h_29 : Str × Shp := ("is_number", ⟨1, [], [.pos 0]⟩)
def h_30 : Str × Shp := ("Book.__len__", ⟨1, [], [.pos 0]⟩)
def h_31 : Str × Shp := ("Pen.__init__", ⟨3, [], [.pos 0, .pos 1, .pos 2]⟩)
def h_32 : Str × Shp := ("close_groups", ⟨3, [], [.pos 0, .pos 1, .pos 2]⟩)
def h_33 : Str × Shp := ("Pen.end_page", ⟨1, [], [.pos 0]⟩)
def h_34 : Str × Shp := ("Pen.set_lot", ⟨2, [], [.pos 0, .pos 1]⟩)
def h_35 : Str × Shp := ("head_bands", ⟨2, [], [.pos 0, .pos 1]⟩)
def h_36 : Str × Shp := ("foot_bands", ⟨2, [], [.pos 0, .pos 1]⟩)
def h_37 : Str × Shp := ("band_lines", ⟨2, [], [.pos 0, .pos 1]⟩)
def h_38 : Str × Shp := ("Pen.needs_page", ⟨3, [], [.pos 0, .pos 1, .pos 2]⟩)
def h_39 : Str × Shp := ("Pen.begin_page", ⟨2, [], [.pos 0, .pos 1]⟩)
def h_40 : Str × Shp := ("Pen.set_band", ⟨2, [], [.pos 0, .pos 1]⟩)
def h_41 : Str × Shp := ("repeated_levels", ⟨2, [], [.pos 0, .pos 1]⟩)
def h_42 : Str × Shp := ("law", ⟨1, [], [.pos 0]⟩)
def T : Tab where
  rows := [r_law, r__law_bag, r__law_same, r_first_shape, r__law_spec, r__law_book, r__law_take, r_shape_of, r__law_level, r__law_pick, r__law_box, r__law_lowest, r__law_made_level, r__law_made_box, r_Book_init, r_need_rows, r_next_shape, r__law_spots, r_Level_init, r_Box_init, r_is_within, r_are_kinds, r_are_boxes, r_Book_lowest, r_is_row, r_parted_events, r_is_spots, r_is_number, r_Book_len, r_Pen_init, r_close_groups, r_Pen_end_page, r_Pen_set_lot, r_head_bands, r_foot_bands, r_band_lines, r_Pen_needs_page, r_Pen_begin_page, r_Pen_set_band, r_repeated_levels]
  gfn := [(Str.ofString "law"), (Str.ofString "_law_bag"), (Str.ofString "_law_same"), (Str.ofString "first_shape"), (Str.ofString "_law_spec"), (Str.ofString "_law_book"), (Str.ofString "_law_take"), (Str.ofString "shape_of"), (Str.ofString "_law_level"), (Str.ofString "_law_pick"), (Str.ofString "_law_box"), (Str.ofString "_law_lowest"), (Str.ofString "_law_made_level"), (Str.ofString "_law_made_box"), (Str.ofString "need_rows"), (Str.ofString "next_shape"), (Str.ofString "_law_spots"), (Str.ofString "is_within"), (Str.ofString "are_kinds"), (Str.ofString "are_boxes"), (Str.ofString "is_row"), (Str.ofString "parted_events"), (Str.ofString "is_spots"), (Str.ofString "is_number"), (Str.ofString "close_groups"), (Str.ofString "head_bands"), (Str.ofString "foot_bands"), (Str.ofString "band_lines"), (Str.ofString "repeated_levels")]
  cls := [(Str.ofString "Level"), (Str.ofString "Box"), (Str.ofString "Book"), (Str.ofString "Pen")]
  meths := [(((Str.ofString "Level"), (Str.ofString "__init__")), (Str.ofString "Level.__init__")), (((Str.ofString "Box"), (Str.ofString "__init__")), (Str.ofString "Box.__init__")), (((Str.ofString "Book"), (Str.ofString "__init__")), (Str.ofString "Book.__init__")), (((Str.ofString "Book"), (Str.ofString "__len__")), (Str.ofString "Book.__len__")), (((Str.ofString "Pen"), (Str.ofString "__init__")), (Str.ofString "Pen.__init__")), (((Str.ofString "Pen"), (Str.ofString "end_page")), (Str.ofString "Pen.end_page")), (((Str.ofString "Pen"), (Str.ofString "begin_page")), (Str.ofString "Pen.begin_page")), (((Str.ofString "Pen"), (Str.ofString "set_band")), (Str.ofString "Pen.set_band")), (((Str.ofString "Pen"), (Str.ofString "needs_page")), (Str.ofString "Pen.needs_page")), (((Str.ofString "Pen"), (Str.ofString "set_lot")), (Str.ofString "Pen.set_lot"))]
  props := [(((Str.ofString "Book"), (Str.ofString "lowest")), (Str.ofString "Book.lowest"))]
  cons := [(((Str.ofString "Book"), (Str.ofString "HEIGHT")), .int 40), (((Str.ofString "Book"), (Str.ofString "LEVELS")), .int 4), (((Str.ofString "Book"), (Str.ofString "BOXES")), .int 3)]
  fls := [((Str.ofString "Book"), (Str.ofString "bottom")), ((Str.ofString "Book"), (Str.ofString "height")), ((Str.ofString "Book"), (Str.ofString "hold")), ((Str.ofString "Book"), (Str.ofString "lead")), ((Str.ofString "Book"), (Str.ofString "own_boxes")), ((Str.ofString "Book"), (Str.ofString "own_kinds")), ((Str.ofString "Book"), (Str.ofString "own_levels")), ((Str.ofString "Book"), (Str.ofString "top")), ((Str.ofString "Box"), (Str.ofString "clears")), ((Str.ofString "Box"), (Str.ofString "early")), ((Str.ofString "Box"), (Str.ofString "prints")), ((Str.ofString "Box"), (Str.ofString "source")), ((Str.ofString "Level"), (Str.ofString "again")), ((Str.ofString "Level"), (Str.ofString "foot")), ((Str.ofString "Level"), (Str.ofString "fresh")), ((Str.ofString "Level"), (Str.ofString "head")), ((Str.ofString "Pen"), (Str.ofString "happened")), ((Str.ofString "Pen"), (Str.ofString "has_row")), ((Str.ofString "Pen"), (Str.ofString "is_late")), ((Str.ofString "Pen"), (Str.ofString "left")), ((Str.ofString "Pen"), (Str.ofString "own_book"))]
  globs := [((Str.ofString "SPOTS"), .str "0123bt"), ((Str.ofString "MOST_LINES"), .int 2), ((Str.ofString "MOST_KEPT"), .int 2)]
  subs := [(((Str.ofString "NoneType"), (Str.ofString "Box")), false), (((Str.ofString "NoneType"), (Str.ofString "Level")), false), (((Str.ofString "NoneType"), (Str.ofString "bool")), false), (((Str.ofString "NoneType"), (Str.ofString "int")), false), (((Str.ofString "NoneType"), (Str.ofString "list")), false), (((Str.ofString "NoneType"), (Str.ofString "str")), false), (((Str.ofString "NoneType"), (Str.ofString "tuple")), false), (((Str.ofString "bool"), (Str.ofString "Box")), false), (((Str.ofString "bool"), (Str.ofString "Level")), false), (((Str.ofString "bool"), (Str.ofString "bool")), true), (((Str.ofString "bool"), (Str.ofString "int")), true), (((Str.ofString "bool"), (Str.ofString "list")), false), (((Str.ofString "bool"), (Str.ofString "str")), false), (((Str.ofString "bool"), (Str.ofString "tuple")), false), (((Str.ofString "int"), (Str.ofString "Box")), false), (((Str.ofString "int"), (Str.ofString "Level")), false), (((Str.ofString "int"), (Str.ofString "bool")), false), (((Str.ofString "int"), (Str.ofString "int")), true), (((Str.ofString "int"), (Str.ofString "list")), false), (((Str.ofString "int"), (Str.ofString "str")), false), (((Str.ofString "int"), (Str.ofString "tuple")), false), (((Str.ofString "str"), (Str.ofString "Box")), false), (((Str.ofString "str"), (Str.ofString "Level")), false), (((Str.ofString "str"), (Str.ofString "bool")), false), (((Str.ofString "str"), (Str.ofString "int")), false), (((Str.ofString "str"), (Str.ofString "list")), false), (((Str.ofString "str"), (Str.ofString "str")), true), (((Str.ofString "str"), (Str.ofString "tuple")), false), (((Str.ofString "tuple"), (Str.ofString "Box")), false), (((Str.ofString "tuple"), (Str.ofString "Level")), false), (((Str.ofString "tuple"), (Str.ofString "bool")), false), (((Str.ofString "tuple"), (Str.ofString "int")), false), (((Str.ofString "tuple"), (Str.ofString "list")), false), (((Str.ofString "tuple"), (Str.ofString "str")), false), (((Str.ofString "tuple"), (Str.ofString "tuple")), true), (((Str.ofString "list"), (Str.ofString "Box")), false), (((Str.ofString "list"), (Str.ofString "Level")), false), (((Str.ofString "list"), (Str.ofString "bool")), false), (((Str.ofString "list"), (Str.ofString "int")), false), (((Str.ofString "list"), (Str.ofString "list")), true), (((Str.ofString "list"), (Str.ofString "str")), false), (((Str.ofString "list"), (Str.ofString "tuple")), false), (((Str.ofString "Level"), (Str.ofString "Box")), false), (((Str.ofString "Level"), (Str.ofString "Level")), true), (((Str.ofString "Level"), (Str.ofString "bool")), false), (((Str.ofString "Level"), (Str.ofString "int")), false), (((Str.ofString "Level"), (Str.ofString "list")), false), (((Str.ofString "Level"), (Str.ofString "str")), false), (((Str.ofString "Level"), (Str.ofString "tuple")), false), (((Str.ofString "Box"), (Str.ofString "Box")), true), (((Str.ofString "Box"), (Str.ofString "Level")), false), (((Str.ofString "Box"), (Str.ofString "bool")), false), (((Str.ofString "Box"), (Str.ofString "int")), false), (((Str.ofString "Box"), (Str.ofString "list")), false), (((Str.ofString "Box"), (Str.ofString "str")), false), (((Str.ofString "Box"), (Str.ofString "tuple")), false), (((Str.ofString "Book"), (Str.ofString "Box")), false), (((Str.ofString "Book"), (Str.ofString "Level")), false), (((Str.ofString "Book"), (Str.ofString "bool")), false), (((Str.ofString "Book"), (Str.ofString "int")), false), (((Str.ofString "Book"), (Str.ofString "list")), false), (((Str.ofString "Book"), (Str.ofString "str")), false), (((Str.ofString "Book"), (Str.ofString "tuple")), false), (((Str.ofString "Pen"), (Str.ofString "Box")), false), (((Str.ofString "Pen"), (Str.ofString "Level")), false), (((Str.ofString "Pen"), (Str.ofString "bool")), false), (((Str.ofString "Pen"), (Str.ofString "int")), false), (((Str.ofString "Pen"), (Str.ofString "list")), false), (((Str.ofString "Pen"), (Str.ofString "str")), false), (((Str.ofString "Pen"), (Str.ofString "tuple")), false)]
  shapes := [h_0, h_1, h_2, h_3, h_4, h_5, h_6, h_7, h_8, h_9, h_10, h_11, h_12, h_13, h_14, h_15, h_16, h_17, h_18, h_19, h_20, h_21, h_22, h_23, h_24, h_25, h_26, h_27, h_28, h_29, h_30, h_31, h_32, h_33, h_34, h_35, h_36, h_37, h_38, h_39, h_40, h_41, h_42]
  fuel := 1000
theorem okT : T.okT = true := by decide +kernel
theorem ok_law : RowOk T r_law := ⟨⟨by decide +kernel, by decide +kernel, by decide +kernel, by decide +kernel, by decide +kernel, by decide +kernel, by decide +kernel⟩, by decide +kernel⟩
theorem ok__law_bag : RowOk T r__law_bag := ⟨⟨by decide +kernel, by decide +kernel, by decide +kernel, by decide +kernel, by decide +kernel, by decide +kernel, by decide +kernel⟩, by decide +kernel⟩
theorem ok__law_same : RowOk T r__law_same := ⟨⟨by decide +kernel, by decide +kernel, by decide +kernel, by decide +kernel, by decide +kernel, by decide +kernel, by decide +kernel⟩, by decide +kernel⟩
theorem ok_first_shape : RowOk T r_first_shape := ⟨⟨by decide +kernel, by decide +kernel, by decide +kernel, by decide +kernel, by decide +kernel, by decide +kernel, by decide +kernel⟩, by decide +kernel⟩
theorem ok__law_spec : RowOk T r__law_spec := ⟨⟨by decide +kernel, by decide +kernel, by decide +kernel, by decide +kernel, by decide +kernel, by decide +kernel, by decide +kernel⟩, by decide +kernel⟩
theorem ok__law_book : RowOk T r__law_book := ⟨⟨by decide +kernel, by decide +kernel, by decide +kernel, by decide +kernel, by decide +kernel, by decide +kernel, by decide +kernel⟩, by decide +kernel⟩
theorem ok__law_take : RowOk T r__law_take := ⟨⟨by decide +kernel, by decide +kernel, by decide +kernel, by decide +kernel, by decide +kernel, by decide +kernel, by decide +kernel⟩, by decide +kernel⟩
theorem ok_shape_of : RowOk T r_shape_of := ⟨⟨by decide +kernel, by decide +kernel, by decide +kernel, by decide +kernel, by decide +kernel, by decide +kernel, by decide +kernel⟩, by decide +kernel⟩
theorem ok__law_level : RowOk T r__law_level := ⟨⟨by decide +kernel, by decide +kernel, by decide +kernel, by decide +kernel, by decide +kernel, by decide +kernel, by decide +kernel⟩, by decide +kernel⟩
theorem ok__law_pick : RowOk T r__law_pick := ⟨⟨by decide +kernel, by decide +kernel, by decide +kernel, by decide +kernel, by decide +kernel, by decide +kernel, by decide +kernel⟩, by decide +kernel⟩
theorem ok__law_box : RowOk T r__law_box := ⟨⟨by decide +kernel, by decide +kernel, by decide +kernel, by decide +kernel, by decide +kernel, by decide +kernel, by decide +kernel⟩, by decide +kernel⟩
theorem ok__law_lowest : RowOk T r__law_lowest := ⟨⟨by decide +kernel, by decide +kernel, by decide +kernel, by decide +kernel, by decide +kernel, by decide +kernel, by decide +kernel⟩, by decide +kernel⟩
theorem ok__law_made_level : RowOk T r__law_made_level := ⟨⟨by decide +kernel, by decide +kernel, by decide +kernel, by decide +kernel, by decide +kernel, by decide +kernel, by decide +kernel⟩, by decide +kernel⟩
theorem ok__law_made_box : RowOk T r__law_made_box := ⟨⟨by decide +kernel, by decide +kernel, by decide +kernel, by decide +kernel, by decide +kernel, by decide +kernel, by decide +kernel⟩, by decide +kernel⟩
theorem ok_Book_init : RowOk T r_Book_init := ⟨⟨by decide +kernel, by decide +kernel, by decide +kernel, by decide +kernel, by decide +kernel, by decide +kernel, by decide +kernel⟩, by decide +kernel⟩
theorem ok_need_rows : RowOk T r_need_rows := ⟨⟨by decide +kernel, by decide +kernel, by decide +kernel, by decide +kernel, by decide +kernel, by decide +kernel, by decide +kernel⟩, by decide +kernel⟩
theorem ok_next_shape : RowOk T r_next_shape := ⟨⟨by decide +kernel, by decide +kernel, by decide +kernel, by decide +kernel, by decide +kernel, by decide +kernel, by decide +kernel⟩, by decide +kernel⟩
theorem ok__law_spots : RowOk T r__law_spots := ⟨⟨by decide +kernel, by decide +kernel, by decide +kernel, by decide +kernel, by decide +kernel, by decide +kernel, by decide +kernel⟩, by decide +kernel⟩
theorem ok_Level_init : RowOk T r_Level_init := ⟨⟨by decide +kernel, by decide +kernel, by decide +kernel, by decide +kernel, by decide +kernel, by decide +kernel, by decide +kernel⟩, by decide +kernel⟩
theorem ok_Box_init : RowOk T r_Box_init := ⟨⟨by decide +kernel, by decide +kernel, by decide +kernel, by decide +kernel, by decide +kernel, by decide +kernel, by decide +kernel⟩, by decide +kernel⟩
theorem ok_is_within : RowOk T r_is_within := ⟨⟨by decide +kernel, by decide +kernel, by decide +kernel, by decide +kernel, by decide +kernel, by decide +kernel, by decide +kernel⟩, by decide +kernel⟩
theorem ok_are_kinds : RowOk T r_are_kinds := ⟨⟨by decide +kernel, by decide +kernel, by decide +kernel, by decide +kernel, by decide +kernel, by decide +kernel, by decide +kernel⟩, by decide +kernel⟩
theorem ok_are_boxes : RowOk T r_are_boxes := ⟨⟨by decide +kernel, by decide +kernel, by decide +kernel, by decide +kernel, by decide +kernel, by decide +kernel, by decide +kernel⟩, by decide +kernel⟩
theorem ok_Book_lowest : RowOk T r_Book_lowest := ⟨⟨by decide +kernel, by decide +kernel, by decide +kernel, by decide +kernel, by decide +kernel, by decide +kernel, by decide +kernel⟩, by decide +kernel⟩
theorem ok_is_row : RowOk T r_is_row := ⟨⟨by decide +kernel, by decide +kernel, by decide +kernel, by decide +kernel, by decide +kernel, by decide +kernel, by decide +kernel⟩, by decide +kernel⟩
theorem ok_parted_events : RowOk T r_parted_events := ⟨⟨by decide +kernel, by decide +kernel, by decide +kernel, by decide +kernel, by decide +kernel, by decide +kernel, by decide +kernel⟩, by decide +kernel⟩
theorem ok_is_spots : RowOk T r_is_spots := ⟨⟨by decide +kernel, by decide +kernel, by decide +kernel, by decide +kernel, by decide +kernel, by decide +kernel, by decide +kernel⟩, by decide +kernel⟩
theorem ok_is_number : RowOk T r_is_number := ⟨⟨by decide +kernel, by decide +kernel, by decide +kernel, by decide +kernel, by decide +kernel, by decide +kernel, by decide +kernel⟩, by decide +kernel⟩
theorem ok_Book_len : RowOk T r_Book_len := ⟨⟨by decide +kernel, by decide +kernel, by decide +kernel, by decide +kernel, by decide +kernel, by decide +kernel, by decide +kernel⟩, by decide +kernel⟩
theorem ok_Pen_init : RowOk T r_Pen_init := ⟨⟨by decide +kernel, by decide +kernel, by decide +kernel, by decide +kernel, by decide +kernel, by decide +kernel, by decide +kernel⟩, by decide +kernel⟩
theorem ok_close_groups : RowOk T r_close_groups := ⟨⟨by decide +kernel, by decide +kernel, by decide +kernel, by decide +kernel, by decide +kernel, by decide +kernel, by decide +kernel⟩, by decide +kernel⟩
theorem ok_Pen_end_page : RowOk T r_Pen_end_page := ⟨⟨by decide +kernel, by decide +kernel, by decide +kernel, by decide +kernel, by decide +kernel, by decide +kernel, by decide +kernel⟩, by decide +kernel⟩
theorem ok_Pen_set_lot : RowOk T r_Pen_set_lot := ⟨⟨by decide +kernel, by decide +kernel, by decide +kernel, by decide +kernel, by decide +kernel, by decide +kernel, by decide +kernel⟩, by decide +kernel⟩
theorem ok_head_bands : RowOk T r_head_bands := ⟨⟨by decide +kernel, by decide +kernel, by decide +kernel, by decide +kernel, by decide +kernel, by decide +kernel, by decide +kernel⟩, by decide +kernel⟩
theorem ok_foot_bands : RowOk T r_foot_bands := ⟨⟨by decide +kernel, by decide +kernel, by decide +kernel, by decide +kernel, by decide +kernel, by decide +kernel, by decide +kernel⟩, by decide +kernel⟩
theorem ok_band_lines : RowOk T r_band_lines := ⟨⟨by decide +kernel, by decide +kernel, by decide +kernel, by decide +kernel, by decide +kernel, by decide +kernel, by decide +kernel⟩, by decide +kernel⟩
theorem ok_Pen_needs_page : RowOk T r_Pen_needs_page := ⟨⟨by decide +kernel, by decide +kernel, by decide +kernel, by decide +kernel, by decide +kernel, by decide +kernel, by decide +kernel⟩, by decide +kernel⟩
theorem ok_Pen_begin_page : RowOk T r_Pen_begin_page := ⟨⟨by decide +kernel, by decide +kernel, by decide +kernel, by decide +kernel, by decide +kernel, by decide +kernel, by decide +kernel⟩, by decide +kernel⟩
theorem ok_Pen_set_band : RowOk T r_Pen_set_band := ⟨⟨by decide +kernel, by decide +kernel, by decide +kernel, by decide +kernel, by decide +kernel, by decide +kernel, by decide +kernel⟩, by decide +kernel⟩
theorem ok_repeated_levels : RowOk T r_repeated_levels := ⟨⟨by decide +kernel, by decide +kernel, by decide +kernel, by decide +kernel, by decide +kernel, by decide +kernel, by decide +kernel⟩, by decide +kernel⟩
theorem hk_0 : ShapeOk T h_0 := ⟨fun K r e => by
  cases (show some r__law_bag = some r from e)
  exact ⟨fun body Ta D kV doc pm an cdv ct us its mv ws l1 l2 l3 l4 => ⟨fun _ => match us, its, mv, ws, l1, l2, l3, l4 with
      | [u0], [], [], [], _, _, _, _ => rfl, fun z => absurd rfl z⟩, by first | rfl | kernel_rfl⟩⟩
theorem hk_1 : ShapeOk T h_1 := ⟨fun K r e => by
  cases (show some r__law_same = some r from e)
  exact ⟨fun body Ta D kV doc pm an cdv ct us its mv ws l1 l2 l3 l4 => ⟨fun _ => match us, its, mv, ws, l1, l2, l3, l4 with
      | [u0, u1], [], [], [], _, _, _, _ => rfl, fun z => absurd rfl z⟩, by first | rfl | kernel_rfl⟩⟩
theorem hk_2 : ShapeOk T h_2 := ⟨fun K r e => by
  cases (show some r_first_shape = some r from e)
  exact ⟨fun body Ta D kV doc pm an cdv ct us its mv ws l1 l2 l3 l4 => ⟨fun _ => match us, its, mv, ws, l1, l2, l3, l4 with
      | [], [], [], [], _, _, _, _ => rfl, fun z => absurd rfl z⟩, by first | rfl | kernel_rfl⟩⟩
theorem hk_3 : ShapeOk T h_3 := ⟨fun K r e => by
  cases (show some r__law_spec = some r from e)
  exact ⟨fun body Ta D kV doc pm an cdv ct us its mv ws l1 l2 l3 l4 => ⟨fun _ => match us, its, mv, ws, l1, l2, l3, l4 with
      | [u0, u1, u2, u3], [], [], [], _, _, _, _ => rfl, fun z => absurd rfl z⟩, by first | rfl | kernel_rfl⟩⟩
theorem hk_4 : ShapeOk T h_4 := ⟨fun K r e => by
  cases (show some r__law_book = some r from e)
  exact ⟨fun body Ta D kV doc pm an cdv ct us its mv ws l1 l2 l3 l4 => ⟨fun _ => match us, its, mv, ws, l1, l2, l3, l4 with
      | [u0], [], [], [], _, _, _, _ => rfl, fun z => absurd rfl z⟩, by first | rfl | kernel_rfl⟩⟩
theorem hk_5 : ShapeOk T h_5 := ⟨fun K r e => by
  cases (show some r__law_take = some r from e)
  exact ⟨fun body Ta D kV doc pm an cdv ct us its mv ws l1 l2 l3 l4 => ⟨fun _ => match us, its, mv, ws, l1, l2, l3, l4 with
      | [u0, u1], [], [], [], _, _, _, _ => rfl, fun z => absurd rfl z⟩, by first | rfl | kernel_rfl⟩⟩
theorem hk_6 : ShapeOk T h_6 := ⟨fun K r e => by
  cases (show some r_shape_of = some r from e)
  exact ⟨fun body Ta D kV doc pm an cdv ct us its mv ws l1 l2 l3 l4 => ⟨fun _ => match us, its, mv, ws, l1, l2, l3, l4 with
      | [u0, u1], [], [], [], _, _, _, _ => rfl, fun z => absurd rfl z⟩, by first | rfl | kernel_rfl⟩⟩
theorem hk_7 : ShapeOk T h_7 := ⟨fun K r e => by
  cases (show some r__law_level = some r from e)
  exact ⟨fun body Ta D kV doc pm an cdv ct us its mv ws l1 l2 l3 l4 => ⟨fun _ => match us, its, mv, ws, l1, l2, l3, l4 with
      | [u0], [], [], [], _, _, _, _ => rfl, fun z => absurd rfl z⟩, by first | rfl | kernel_rfl⟩⟩
theorem hk_8 : ShapeOk T h_8 := ⟨fun K r e => by
  cases (show some r__law_pick = some r from e)
  exact ⟨fun body Ta D kV doc pm an cdv ct us its mv ws l1 l2 l3 l4 => ⟨fun _ => match us, its, mv, ws, l1, l2, l3, l4 with
      | [u0, u1], [], [], [], _, _, _, _ => rfl, fun z => absurd rfl z⟩, by first | rfl | kernel_rfl⟩⟩
theorem hk_9 : ShapeOk T h_9 := ⟨fun K r e => by
  cases (show some r__law_box = some r from e)
  exact ⟨fun body Ta D kV doc pm an cdv ct us its mv ws l1 l2 l3 l4 => ⟨fun _ => match us, its, mv, ws, l1, l2, l3, l4 with
      | [u0, u1, u2], [], [], [], _, _, _, _ => rfl, fun z => absurd rfl z⟩, by first | rfl | kernel_rfl⟩⟩
theorem hk_10 : ShapeOk T h_10 := ⟨fun K r e => by
  cases (show some r__law_lowest = some r from e)
  exact ⟨fun body Ta D kV doc pm an cdv ct us its mv ws l1 l2 l3 l4 => ⟨fun _ => match us, its, mv, ws, l1, l2, l3, l4 with
      | [u0], [], [], [], _, _, _, _ => rfl, fun z => absurd rfl z⟩, by first | rfl | kernel_rfl⟩⟩
theorem hk_11 : ShapeOk T h_11 := ⟨fun K r e => by
  cases (show some r__law_made_level = some r from e)
  exact ⟨fun body Ta D kV doc pm an cdv ct us its mv ws l1 l2 l3 l4 => ⟨fun _ => match us, its, mv, ws, l1, l2, l3, l4 with
      | [u0], [], [], [], _, _, _, _ => rfl, fun z => absurd rfl z⟩, by first | rfl | kernel_rfl⟩⟩
theorem hk_12 : ShapeOk T h_12 := ⟨fun K r e => by
  cases (show some r__law_made_box = some r from e)
  exact ⟨fun body Ta D kV doc pm an cdv ct us its mv ws l1 l2 l3 l4 => ⟨fun _ => match us, its, mv, ws, l1, l2, l3, l4 with
      | [u0], [], [], [], _, _, _, _ => rfl, fun z => absurd rfl z⟩, by first | rfl | kernel_rfl⟩⟩
theorem hk_13 : ShapeOk T h_13 := ⟨fun K r e => by
  cases (show some r_Book_init = some r from e)
  exact ⟨fun body Ta D kV doc pm an cdv ct us its mv ws l1 l2 l3 l4 => ⟨fun _ => match us, its, mv, ws, l1, l2, l3, l4 with
      | [u0, u1, u2], [], [], [w0, w1, w2, w3, w4, w5], _, _, _, _ => rfl, fun z => absurd rfl z⟩, by first | rfl | kernel_rfl⟩⟩
theorem hk_14 : ShapeOk T h_14 := ⟨fun K r e => by
  cases (show some r_Book_init = some r from e)
  exact ⟨fun body Ta D kV doc pm an cdv ct us its mv ws l1 l2 l3 l4 => ⟨fun _ => match us, its, mv, ws, l1, l2, l3, l4 with
      | [u0, u1, u2, u3], [], [], [w0, w1, w2, w3, w4, w5], _, _, _, _ => rfl, fun z => absurd rfl z⟩, by first | rfl | kernel_rfl⟩⟩
theorem hk_15 : ShapeOk T h_15 := ⟨fun K r e => by
  cases (show some r_Book_init = some r from e)
  exact ⟨fun body Ta D kV doc pm an cdv ct us its mv ws l1 l2 l3 l4 => ⟨fun _ => match us, its, mv, ws, l1, l2, l3, l4 with
      | [u0, u1, u2, u3, u4], [], [], [w0, w1, w2, w3, w4, w5], _, _, _, _ => rfl, fun z => absurd rfl z⟩, by first | rfl | kernel_rfl⟩⟩
theorem hk_16 : ShapeOk T h_16 := ⟨fun K r e => by
  cases (show some r_Book_init = some r from e)
  exact ⟨fun body Ta D kV doc pm an cdv ct us its mv ws l1 l2 l3 l4 => ⟨fun _ => match us, its, mv, ws, l1, l2, l3, l4 with
      | [u0, u1, u2, u3, u4, u5], [], [], [w0, w1, w2, w3, w4, w5], _, _, _, _ => rfl, fun z => absurd rfl z⟩, by first | rfl | kernel_rfl⟩⟩
theorem hk_17 : ShapeOk T h_17 := ⟨fun K r e => by
  cases (show some r_need_rows = some r from e)
  exact ⟨fun body Ta D kV doc pm an cdv ct us its mv ws l1 l2 l3 l4 => ⟨fun _ => match us, its, mv, ws, l1, l2, l3, l4 with
      | [u0, u1], [], [], [], _, _, _, _ => rfl, fun z => absurd rfl z⟩, by first | rfl | kernel_rfl⟩⟩
theorem hk_18 : ShapeOk T h_18 := ⟨fun K r e => by
  cases (show some r_next_shape = some r from e)
  exact ⟨fun body Ta D kV doc pm an cdv ct us its mv ws l1 l2 l3 l4 => ⟨fun _ => match us, its, mv, ws, l1, l2, l3, l4 with
      | [u0, u1, u2], [], [], [], _, _, _, _ => rfl, fun z => absurd rfl z⟩, by first | rfl | kernel_rfl⟩⟩
theorem hk_19 : ShapeOk T h_19 := ⟨fun K r e => by
  cases (show some r__law_spots = some r from e)
  exact ⟨fun body Ta D kV doc pm an cdv ct us its mv ws l1 l2 l3 l4 => ⟨fun _ => match us, its, mv, ws, l1, l2, l3, l4 with
      | [u0, u1], [], [], [], _, _, _, _ => rfl, fun z => absurd rfl z⟩, by first | rfl | kernel_rfl⟩⟩
theorem hk_20 : ShapeOk T h_20 := ⟨fun K r e => by
  cases (show some r_Level_init = some r from e)
  exact ⟨fun body Ta D kV doc pm an cdv ct us its mv ws l1 l2 l3 l4 => ⟨fun z => (nomatch z), fun _ => match us, its, mv, ws, l1, l2, l3, l4 with
      | [u0, u1, u2], [d0, d1], [], [w0, w1], _, _, _, _ => ⟨_, rfl, rfl⟩⟩, by first | rfl | kernel_rfl⟩⟩
theorem hk_21 : ShapeOk T h_21 := ⟨fun K r e => by
  cases (show some r_Box_init = some r from e)
  exact ⟨fun body Ta D kV doc pm an cdv ct us its mv ws l1 l2 l3 l4 => ⟨fun z => (nomatch z), fun _ => match us, its, mv, ws, l1, l2, l3, l4 with
      | [u0, u1], [d0], [], [w0, w1, w2], _, _, _, _ => ⟨_, rfl, rfl⟩⟩, by first | rfl | kernel_rfl⟩⟩
theorem hk_22 : ShapeOk T h_22 := ⟨fun K r e => by
  cases (show some r_is_within = some r from e)
  exact ⟨fun body Ta D kV doc pm an cdv ct us its mv ws l1 l2 l3 l4 => ⟨fun _ => match us, its, mv, ws, l1, l2, l3, l4 with
      | [u0, u1, u2], [], [], [], _, _, _, _ => rfl, fun z => absurd rfl z⟩, by first | rfl | kernel_rfl⟩⟩
theorem hk_23 : ShapeOk T h_23 := ⟨fun K r e => by
  cases (show some r_are_kinds = some r from e)
  exact ⟨fun body Ta D kV doc pm an cdv ct us its mv ws l1 l2 l3 l4 => ⟨fun _ => match us, its, mv, ws, l1, l2, l3, l4 with
      | [u0], [], [], [], _, _, _, _ => rfl, fun z => absurd rfl z⟩, by first | rfl | kernel_rfl⟩⟩
theorem hk_24 : ShapeOk T h_24 := ⟨fun K r e => by
  cases (show some r_are_boxes = some r from e)
  exact ⟨fun body Ta D kV doc pm an cdv ct us its mv ws l1 l2 l3 l4 => ⟨fun _ => match us, its, mv, ws, l1, l2, l3, l4 with
      | [u0, u1], [], [], [], _, _, _, _ => rfl, fun z => absurd rfl z⟩, by first | rfl | kernel_rfl⟩⟩
theorem hk_25 : ShapeOk T h_25 := ⟨fun K r e => by
  cases (show some r_Book_lowest = some r from e)
  exact ⟨fun body Ta D kV doc pm an cdv ct us its mv ws l1 l2 l3 l4 => ⟨fun _ => match us, its, mv, ws, l1, l2, l3, l4 with
      | [u0], [], [], [], _, _, _, _ => rfl, fun z => absurd rfl z⟩, by first | rfl | kernel_rfl⟩⟩
theorem hk_26 : ShapeOk T h_26 := ⟨fun K r e => by
  cases (show some r_is_row = some r from e)
  exact ⟨fun body Ta D kV doc pm an cdv ct us its mv ws l1 l2 l3 l4 => ⟨fun _ => match us, its, mv, ws, l1, l2, l3, l4 with
      | [u0, u1], [], [], [], _, _, _, _ => rfl, fun z => absurd rfl z⟩, by first | rfl | kernel_rfl⟩⟩
theorem hk_27 : ShapeOk T h_27 := ⟨fun K r e => by
  cases (show some r_parted_events = some r from e)
  exact ⟨fun body Ta D kV doc pm an cdv ct us its mv ws l1 l2 l3 l4 => ⟨fun _ => match us, its, mv, ws, l1, l2, l3, l4 with
      | [u0, u1, u2], [], [], [], _, _, _, _ => rfl, fun z => absurd rfl z⟩, by first | rfl | kernel_rfl⟩⟩
theorem hk_28 : ShapeOk T h_28 := ⟨fun K r e => by
  cases (show some r_is_spots = some r from e)
  exact ⟨fun body Ta D kV doc pm an cdv ct us its mv ws l1 l2 l3 l4 => ⟨fun _ => match us, its, mv, ws, l1, l2, l3, l4 with
      | [u0], [], [], [], _, _, _, _ => rfl, fun z => absurd rfl z⟩, by first | rfl | kernel_rfl⟩⟩
theorem hk_29 : ShapeOk T h_29 := ⟨fun K r e => by
  cases (show some r_is_number = some r from e)
  exact ⟨fun body Ta D kV doc pm an cdv ct us its mv ws l1 l2 l3 l4 => ⟨fun _ => match us, its, mv, ws, l1, l2, l3, l4 with
      | [u0], [], [], [], _, _, _, _ => rfl, fun z => absurd rfl z⟩, by first | rfl | kernel_rfl⟩⟩
theorem hk_30 : ShapeOk T h_30 := ⟨fun K r e => by
  cases (show some r_Book_len = some r from e)
  exact ⟨fun body Ta D kV doc pm an cdv ct us its mv ws l1 l2 l3 l4 => ⟨fun _ => match us, its, mv, ws, l1, l2, l3, l4 with
      | [u0], [], [], [], _, _, _, _ => rfl, fun z => absurd rfl z⟩, by first | rfl | kernel_rfl⟩⟩
theorem hk_31 : ShapeOk T h_31 := ⟨fun K r e => by
  cases (show some r_Pen_init = some r from e)
  exact ⟨fun body Ta D kV doc pm an cdv ct us its mv ws l1 l2 l3 l4 => ⟨fun _ => match us, its, mv, ws, l1, l2, l3, l4 with
      | [u0, u1, u2], [], [], [], _, _, _, _ => rfl, fun z => absurd rfl z⟩, by first | rfl | kernel_rfl⟩⟩
theorem hk_32 : ShapeOk T h_32 := ⟨fun K r e => by
  cases (show some r_close_groups = some r from e)
  exact ⟨fun body Ta D kV doc pm an cdv ct us its mv ws l1 l2 l3 l4 => ⟨fun _ => match us, its, mv, ws, l1, l2, l3, l4 with
      | [u0, u1, u2], [], [], [], _, _, _, _ => rfl, fun z => absurd rfl z⟩, by first | rfl | kernel_rfl⟩⟩
theorem hk_33 : ShapeOk T h_33 := ⟨fun K r e => by
  cases (show some r_Pen_end_page = some r from e)
  exact ⟨fun body Ta D kV doc pm an cdv ct us its mv ws l1 l2 l3 l4 => ⟨fun _ => match us, its, mv, ws, l1, l2, l3, l4 with
      | [u0], [], [], [], _, _, _, _ => rfl, fun z => absurd rfl z⟩, by first | rfl | kernel_rfl⟩⟩
theorem hk_34 : ShapeOk T h_34 := ⟨fun K r e => by
  cases (show some r_Pen_set_lot = some r from e)
  exact ⟨fun body Ta D kV doc pm an cdv ct us its mv ws l1 l2 l3 l4 => ⟨fun _ => match us, its, mv, ws, l1, l2, l3, l4 with
      | [u0, u1], [], [], [], _, _, _, _ => rfl, fun z => absurd rfl z⟩, by first | rfl | kernel_rfl⟩⟩
theorem hk_35 : ShapeOk T h_35 := ⟨fun K r e => by
  cases (show some r_head_bands = some r from e)
  exact ⟨fun body Ta D kV doc pm an cdv ct us its mv ws l1 l2 l3 l4 => ⟨fun _ => match us, its, mv, ws, l1, l2, l3, l4 with
      | [u0, u1], [], [], [], _, _, _, _ => rfl, fun z => absurd rfl z⟩, by first | rfl | kernel_rfl⟩⟩
theorem hk_36 : ShapeOk T h_36 := ⟨fun K r e => by
  cases (show some r_foot_bands = some r from e)
  exact ⟨fun body Ta D kV doc pm an cdv ct us its mv ws l1 l2 l3 l4 => ⟨fun _ => match us, its, mv, ws, l1, l2, l3, l4 with
      | [u0, u1], [], [], [], _, _, _, _ => rfl, fun z => absurd rfl z⟩, by first | rfl | kernel_rfl⟩⟩
theorem hk_37 : ShapeOk T h_37 := ⟨fun K r e => by
  cases (show some r_band_lines = some r from e)
  exact ⟨fun body Ta D kV doc pm an cdv ct us its mv ws l1 l2 l3 l4 => ⟨fun _ => match us, its, mv, ws, l1, l2, l3, l4 with
      | [u0, u1], [], [], [], _, _, _, _ => rfl, fun z => absurd rfl z⟩, by first | rfl | kernel_rfl⟩⟩
theorem hk_38 : ShapeOk T h_38 := ⟨fun K r e => by
  cases (show some r_Pen_needs_page = some r from e)
  exact ⟨fun body Ta D kV doc pm an cdv ct us its mv ws l1 l2 l3 l4 => ⟨fun _ => match us, its, mv, ws, l1, l2, l3, l4 with
      | [u0, u1, u2], [], [], [], _, _, _, _ => rfl, fun z => absurd rfl z⟩, by first | rfl | kernel_rfl⟩⟩
theorem hk_39 : ShapeOk T h_39 := ⟨fun K r e => by
  cases (show some r_Pen_begin_page = some r from e)
  exact ⟨fun body Ta D kV doc pm an cdv ct us its mv ws l1 l2 l3 l4 => ⟨fun _ => match us, its, mv, ws, l1, l2, l3, l4 with
      | [u0, u1], [], [], [], _, _, _, _ => rfl, fun z => absurd rfl z⟩, by first | rfl | kernel_rfl⟩⟩
theorem hk_40 : ShapeOk T h_40 := ⟨fun K r e => by
  cases (show some r_Pen_set_band = some r from e)
  exact ⟨fun body Ta D kV doc pm an cdv ct us its mv ws l1 l2 l3 l4 => ⟨fun _ => match us, its, mv, ws, l1, l2, l3, l4 with
      | [u0, u1], [], [], [], _, _, _, _ => rfl, fun z => absurd rfl z⟩, by first | rfl | kernel_rfl⟩⟩
theorem hk_41 : ShapeOk T h_41 := ⟨fun K r e => by
  cases (show some r_repeated_levels = some r from e)
  exact ⟨fun body Ta D kV doc pm an cdv ct us its mv ws l1 l2 l3 l4 => ⟨fun _ => match us, its, mv, ws, l1, l2, l3, l4 with
      | [u0, u1], [], [], [], _, _, _, _ => rfl, fun z => absurd rfl z⟩, by first | rfl | kernel_rfl⟩⟩
theorem hk_42 : ShapeOk T h_42 := ⟨fun K r e => by
  cases (show some r_law = some r from e)
  exact ⟨fun body Ta D kV doc pm an cdv ct us its mv ws l1 l2 l3 l4 => ⟨fun _ => match us, its, mv, ws, l1, l2, l3, l4 with
      | [u0], [], [], [], _, _, _, _ => rfl, fun z => absurd rfl z⟩, by first | rfl | kernel_rfl⟩⟩
theorem rows_ok : ∀ r ∈ T.rows, RowOk T r := by
  intro r hr
  simp only [T, List.mem_cons, List.not_mem_nil, or_false] at hr
  rcases hr with rfl | rfl | rfl | rfl | rfl | rfl | rfl | rfl | rfl | rfl | rfl | rfl | rfl | rfl | rfl | rfl | rfl | rfl | rfl | rfl | rfl | rfl | rfl | rfl | rfl | rfl | rfl | rfl | rfl | rfl | rfl | rfl | rfl | rfl | rfl | rfl | rfl | rfl | rfl | rfl
  · exact ok_law
  · exact ok__law_bag
  · exact ok__law_same
  · exact ok_first_shape
  · exact ok__law_spec
  · exact ok__law_book
  · exact ok__law_take
  · exact ok_shape_of
  · exact ok__law_level
  · exact ok__law_pick
  · exact ok__law_box
  · exact ok__law_lowest
  · exact ok__law_made_level
  · exact ok__law_made_box
  · exact ok_Book_init
  · exact ok_need_rows
  · exact ok_next_shape
  · exact ok__law_spots
  · exact ok_Level_init
  · exact ok_Box_init
  · exact ok_is_within
  · exact ok_are_kinds
  · exact ok_are_boxes
  · exact ok_Book_lowest
  · exact ok_is_row
  · exact ok_parted_events
  · exact ok_is_spots
  · exact ok_is_number
  · exact ok_Book_len
  · exact ok_Pen_init
  · exact ok_close_groups
  · exact ok_Pen_end_page
  · exact ok_Pen_set_lot
  · exact ok_head_bands
  · exact ok_foot_bands
  · exact ok_band_lines
  · exact ok_Pen_needs_page
  · exact ok_Pen_begin_page
  · exact ok_Pen_set_band
  · exact ok_repeated_levels
theorem shapes_ok : ∀ q ∈ T.shapes, ShapeOk T q := by
  intro r hr
  simp only [T, List.mem_cons, List.not_mem_nil, or_false] at hr
  rcases hr with rfl | rfl | rfl | rfl | rfl | rfl | rfl | rfl | rfl | rfl | rfl | rfl | rfl | rfl | rfl | rfl | rfl | rfl | rfl | rfl | rfl | rfl | rfl | rfl | rfl | rfl | rfl | rfl | rfl | rfl | rfl | rfl | rfl | rfl | rfl | rfl | rfl | rfl | rfl | rfl | rfl | rfl | rfl
  · exact hk_0
  · exact hk_1
  · exact hk_2
  · exact hk_3
  · exact hk_4
  · exact hk_5
  · exact hk_6
  · exact hk_7
  · exact hk_8
  · exact hk_9
  · exact hk_10
  · exact hk_11
  · exact hk_12
  · exact hk_13
  · exact hk_14
  · exact hk_15
  · exact hk_16
  · exact hk_17
  · exact hk_18
  · exact hk_19
  · exact hk_20
  · exact hk_21
  · exact hk_22
  · exact hk_23
  · exact hk_24
  · exact hk_25
  · exact hk_26
  · exact hk_27
  · exact hk_28
  · exact hk_29
  · exact hk_30
  · exact hk_31
  · exact hk_32
  · exact hk_33
  · exact hk_34
  · exact hk_35
  · exact hk_36
  · exact hk_37
  · exact hk_38
  · exact hk_39
  · exact hk_40
  · exact hk_41
  · exact hk_42
end L_k11
end

section
set_option Elab.async false
set_option linter.all false
set_option maxRecDepth 100000
set_option maxHeartbeats 0
namespace L_k11
open PySem PySem.Spec PyProof.Rows L2 Mp
/-! ### the head -/
abbrev oRow : PySem.W.OpenRow := PySem.W.OpenLaw.row PySem.Challenge.rw_sheetsums_k11_rows_that_are_held
abbrev qv : Program := PySem.W.view oRow.prog [46]
abbrev hkM : PySem.W.Hook := hookT 7 T
def obM (s : PySem.W.SharedT) : Bool × List He.FnW := obsG 7 T (HandSHeadRun.getT s)
theorem obM_eq (s : PySem.W.SharedT) : obM s = hkM.obs s.abs := obsG_eq (HandSHeadRun.getT_eq s)
def loose : List Str := (["_wall", "__name__", "SheetError", "BadLevel", "BadBox", "BadBook", "TooLow", "BadRow", "SPOTS", "MOST_LINES", "MOST_KEPT", "is_number", "is_within", "is_spots", "Level", "Box", "are_kinds", "are_boxes", "Book", "is_row", "first_shape", "band_lines", "head_bands", "foot_bands", "repeated_levels", "Pen", "close_groups", "parted_events", "next_shape", "need_rows"] : List Str) ++ (["shape_of", "_law_bag", "_law_take", "_law_pick", "_law_same", "_law_level", "_law_spots", "_law_box", "_law_lowest", "_law_spec", "_law_made_level", "_law_made_box", "_law_book"] : List Str)
theorem runM (w : World) : HandSHeadRun.RunEq oRow qv hkM obM 9000 loose w := by
  intro os
  kernel_rfl
theorem law_row : T.row "law" = some r_law := rfl
/-- the law, once it answers True to every script -/
theorem done (ans : ∀ ns : List Int, ns.length ≤ 63 → ∃ st', call T.prog 25 "law" [.scr ns] [] = .ok (.bl true) st') : PySem.Challenge.rw_sheetsums_k11_rows_that_are_held.Holds := by
  open PySem.W PySem.Calls in
  w_on; o_law
  refine HandSHeadRun.head_any (r := OpenLaw.row PySem.Challenge.rw_sheetsums_k11_rows_that_are_held) (q := view (OpenLaw.row PySem.Challenge.rw_sheetsums_k11_rows_that_are_held).prog [46]) (H := hkM) (ob := obM) (M := 9000) (loose := loose) (d := HandSHeadRun.topDef (OpenLaw.row PySem.Challenge.rw_sheetsums_k11_rows_that_are_held).prog 46) (kwd := []) obM_eq
    (by kernel_rfl) (fun s => by kernel_rfl) runM (by kernel_rfl) (by kernel_rfl) (by kernel_rfl) (by rfl) (by first | assumption | decide +kernel) (by decide +kernel) ⟨rfl, rfl, rfl, rfl, rfl, by decide +kernel⟩ ?hw ?hc
  case hw => w_witness2
  case hc =>
    refine L2.walk_ofE (l := PySem.Challenge.rw_sheetsums_k11_rows_that_are_held) (n := 63) (k := 75) (x := "_law_script") (CX := fun _ _ _ _ _ _ => False) rfl (by decide) (by kernel_rfl) ⟨rfl, by decide, by decide⟩ ?F (fun _ _ _ _ z => z)
    intro w mg fa h Y G hmg0
    obtain ⟨K, KX, c⟩ := Y
    have hmg : mg ("law" : PySem.Str) = some (.ref fa) :=
                                                          by
      have e : (HandSHeadRun.topDef (PySem.W.OpenLaw.row PySem.Challenge.rw_sheetsums_k11_rows_that_are_held).prog 46).name = ("law" : PySem.Str) := by kernel_rfl
      rw [← e]
      exact hmg0
    obtain ⟨fd, sp, h1, h2, h3⟩ := law_facts (P := (PySem.Challenge.rw_sheetsums_k11_rows_that_are_held).prog) (w := w) (d := 24) (nm := "law") (x := "_law_script") KX G c okT rows_ok shapes_ok law_row rfl rfl rfl rfl hmg (fun _ _ _ _ _ _ _ _ => rfl) ans
    exact ⟨K, fd, sp, KX, h1, h2, h3⟩

end L_k11
end

section
set_option Elab.async false
set_option linter.all false
set_option maxRecDepth 100000
set_option maxHeartbeats
                         1000000
namespace L_k11
open PySem Mp
variable {XS : List SO}
theorem unf {d : Nat} {f : Str} {F : MFun} (h : T.prog.fn f = some F) (args : List Val) (st : Store) : call T.prog (d + 1) f args st = runF T.prog (call T.prog d) F args st := by
  show (match T.prog.fn f with | some F => runF T.prog (call T.prog d) F args st | none => .stuck) = _
  rw [h]
/-! ### the bag -/
def bagS (XS : List SO) (cells : List Int) (i : Nat) (big seed steps : Int) : Store := .lst [.lst (cells.map .int), .int i, .int big, .int seed, .int steps] :: XS
def Bag (XS : List SO) (st : Store) : Prop := ∃ cells i big seed steps, st = bagS XS cells i big seed steps ∧ 0 ≤ big
section
variable (a b c d e v : Val) (st : Store)
theorem ix0 : ixV (SO.lst [a, b, c, d, e] :: XS) (.ref 0) (.int 0) = some a := rfl
theorem ix1 : ixV (SO.lst [a, b, c, d, e] :: XS) (.ref 0) (.int 1) = some b := rfl
theorem ix2 : ixV (SO.lst [a, b, c, d, e] :: XS) (.ref 0) (.int 2) = some c := rfl
theorem ix3 : ixV (SO.lst [a, b, c, d, e] :: XS) (.ref 0) (.int 3) = some d := rfl
theorem ix4 : ixV (SO.lst [a, b, c, d, e] :: XS) (.ref 0) (.int 4) = some e := rfl
theorem st1 : setV (SO.lst [a, b, c, d, e] :: XS) (.ref 0) (.int 1) v = some (SO.lst [a, v, c, d, e] :: XS) := rfl
theorem st2 : setV (SO.lst [a, b, c, d, e] :: XS) (.ref 0) (.int 2) v = some (SO.lst [a, b, v, d, e] :: XS) := rfl
theorem st3 : setV (SO.lst [a, b, c, d, e] :: XS) (.ref 0) (.int 3) v = some (SO.lst [a, b, c, v, e] :: XS) := rfl
theorem st4 : setV (SO.lst [a, b, c, d, e] :: XS) (.ref 0) (.int 4) v = some (SO.lst [a, b, c, d, v] :: XS) := rfl
theorem c_eq (i j : Int) : cmpV st .eq (.int i) (.int j) = some (i == j) := rfl
theorem c_lt (i j : Int) : cmpV st .lt (.int i) (.int j) = some (decide (i < j)) := rfl
theorem c_ge (i j : Int) : cmpV st .ge (.int i) (.int j) = some (decide (j ≤ i)) := rfl
theorem c_gt (i j : Int) : cmpV st .gt (.int i) (.int j) = some (decide (j < i)) := rfl
theorem c_le (i j : Int) : cmpV st .le (.int i) (.int j) = some (decide (i ≤ j)) := rfl
theorem b_add (i j : Int) : binV st .add (.int i) (.int j) = some (.int (i + j)) := rfl
theorem b_sub (i j : Int) : binV st .sub (.int i) (.int j) = some (.int (i - j)) := rfl
theorem b_mul (i j : Int) (h : (-(2 ^ 64) < i ∧ i < 2 ^ 64) ∨ (-(2 ^ 64) < j ∧ j < 2 ^ 64)) : binV st .mul (.int i) (.int j) = some (.int (i * j)) := by
  show (if _ then some (i * j) else none : Option Int).map Val.int = _
  rw [if_pos h]; rfl
theorem b_mod (i j : Int) (h : 0 < j) : binV st .mod (.int i) (.int j) = some (.int (i % j)) := by
  show (if 0 < j then some (i % j) else none : Option Int).map Val.int = _
  rw [if_pos h]; rfl
theorem b_div (i j : Int) (h : 0 < j ∧ j < 1073741824) : binV st .fdiv (.int i) (.int j) = some (.int (i / j)) := by
  show (if 0 < j ∧ j < 1073741824 then some (i / j) else none : Option Int).map Val.int = _
  rw [if_pos h]; rfl
theorem b_pow (i j : Int) (h : 0 ≤ j ∧ j ≤ 1000000 ∧ i.natAbs < 2 ^ 64) : binV st .pow (.int i) (.int j) = some (.int (i ^ j.toNat)) := by
  show (if _ then some (i ^ j.toNat) else none : Option Int).map Val.int = _
  rw [if_pos h]; rfl
theorem b_pow18 : binV st .pow (.int 10) (.int 18) = some (.int 1000000000000000000) := rfl
theorem v_len (xs : List Val) : bV st "len" [.lst xs] = some (.int xs.length) := rfl
theorem v_int (i : Int) : bV st "int" [.int i] = some (.int i) := rfl
end
theorem cell_at {cells : List Int} {i : Nat} (h : i < cells.length) (st : Store) : ixV st (.lst (cells.map .int)) (.int i) = some (.int cells[i]) := by
  show L2.atI (cells.map Val.int) (i : Int) = _
  unfold L2.atI L2.ixN
  simp [h]
/-! ### statements one behind another -/
theorem Ss_next {Φ : Cal} {s : MS} {ss : List MS} {env env' : Mp.Env} {st st' : Store} (h : evalS T.prog Φ s env st = .ok (.next env') st') : evalSs T.prog Φ (s :: ss) env st = evalSs T.prog Φ ss env' st' := by
  rw [Ss_cons, h]; rfl
theorem Ss_ret {Φ : Cal} {s : MS} {ss : List MS} {env : Mp.Env} {v : Val} {st st' : Store} (h : evalS T.prog Φ s env st = .ok (.ret v) st') : evalSs T.prog Φ (s :: ss) env st = .ok (.ret v) st' := by
  rw [Ss_cons, h]; rfl
theorem run_ret {Φ : Cal} {F : MFun} {args : List Val} {v : Val} {st st' : Store} (hn : args.length = F.np) (h : evalSs T.prog Φ F.body (args.map some ++ List.replicate (F.ns - args.length) none) st = .ok (.ret v) st') : runF T.prog Φ F args st = .ok v st' := by
  unfold runF
  rw [if_pos hn, h]; rfl
theorem run_next {Φ : Cal} {F : MFun} {args : List Val} {env : Mp.Env} {st st' : Store} (hn : args.length = F.np) (h : evalSs T.prog Φ F.body (args.map some ++ List.replicate (F.ns - args.length) none) st = .ok (.next env) st') : runF T.prog Φ F args st = .ok .non st' := by
  unfold runF
  rw [if_pos hn, h]; rfl
/-! ### a draw -/
theorem f_take : T.prog.fn "_law_take" = some ⟨2, 5, b__law_take⟩ := rfl
theorem take0 (Φ : Cal) (many : Int) (cells : List Int) (i : Nat) (big seed steps : Int) (hb : 0 ≤ big) : ∃ c i' big' seed', evalS T.prog Φ b__law_take_0 [some (.ref 0), some (.int many), none, none, none] (bagS XS cells i big seed steps) = .ok (.next [some (.ref 0), some (.int many), c, none, none]) (bagS XS cells i' big' seed' steps) ∧ 0 ≤ big' := by
  unfold b__law_take_0 bagS
  by_cases h1 : big = 0
  · subst h1
    by_cases h2 : i < cells.length
    · have h2' : decide (((i : Int)) < ((cells.map Val.int).length : Int)) = true := by simpa using h2
      by_cases h3 : (1000000000000000000 : Int) ≤ cells[i]
      · refine ⟨some (.int cells[i]), i + 1, cells[i], seed, ?_, by omega⟩
        have h3' : decide ((1000000000000000000 : Int) ≤ cells[i]) = true := decide_eq_true h3
        simp only [E_var, E_non, E_bl, E_int, E_str, E_glob, E_bin, E_neg, E_cmp, E_chain, E_and, E_or, E_not, E_ite, E_tup, E_lstF, E_lstT, E_ix, E_slc, E_attr, E_call, E_make, E_meth, E_bcall, E_bmeth, E_isin, Es_nil, Es_cons, and_one, and_two, or_one, or_two, T_and, T_or, T_not, T_cmp, T_chain, T_var, T_bl, T_attr, T_call, T_bcall, T_ix, T_isin, andT_one, andT_two, orT_one, orT_two, test_nil, test_one, S_expr, S_set, S_sett, S_setc, S_par, S_fld, S_sub, S_ret, S_retN, S_ite, S_for, S_pass, Ss_nil, Ss_cons, R.then_ok, R.of_some, List.getElem?_cons_zero, List.getElem?_cons_succ, Option.map_some, asB, ix0, ix1, ix2, ix3, ix4, c_eq, c_lt, c_ge, c_gt, c_le, v_len, v_int, beq_self_eq_true, cell_at, bindT, List.length_cons, List.length_nil, List.set_cons_succ, List.set_cons_zero, b_add, b_sub, b_mul, b_mod, b_div, b_pow18, st1, st2, st3, st4, Nat.reduceAdd, Nat.reduceLT, if_true, or_true, true_or, and_self, and_true, true_and, Int.reduceLT, Int.reduceNeg, Int.reducePow, h2', h2, h3']
        rfl
      · have h3' : decide ((1000000000000000000 : Int) ≤ cells[i]) = false := decide_eq_false h3
        refine ⟨some (.int cells[i]), i + 1, 0, (seed * 28657 + cells[i] % 2147483563 + 13) % 2147483549, ?_, by omega⟩
        simp only [E_var, E_non, E_bl, E_int, E_str, E_glob, E_bin, E_neg, E_cmp, E_chain, E_and, E_or, E_not, E_ite, E_tup, E_lstF, E_lstT, E_ix, E_slc, E_attr, E_call, E_make, E_meth, E_bcall, E_bmeth, E_isin, Es_nil, Es_cons, and_one, and_two, or_one, or_two, T_and, T_or, T_not, T_cmp, T_chain, T_var, T_bl, T_attr, T_call, T_bcall, T_ix, T_isin, andT_one, andT_two, orT_one, orT_two, test_nil, test_one, S_expr, S_set, S_sett, S_setc, S_par, S_fld, S_sub, S_ret, S_retN, S_ite, S_for, S_pass, Ss_nil, Ss_cons, R.then_ok, R.of_some, List.getElem?_cons_zero, List.getElem?_cons_succ, Option.map_some, asB, ix0, ix1, ix2, ix3, ix4, c_eq, c_lt, c_ge, c_gt, c_le, v_len, v_int, beq_self_eq_true, cell_at, bindT, List.length_cons, List.length_nil, List.set_cons_succ, List.set_cons_zero, b_add, b_sub, b_mul, b_mod, b_div, b_pow18, st1, st2, st3, st4, Nat.reduceAdd, Nat.reduceLT, if_true, or_true, true_or, and_self, and_true, true_and, Int.reduceLT, Int.reduceNeg, Int.reducePow, h2', h2, h3']
        rfl
    · have h2' : decide (((i : Int)) < ((cells.map Val.int).length : Int)) = false := by simpa using h2
      refine ⟨none, i, 0, seed, ?_, hb⟩
      simp only [E_var, E_non, E_bl, E_int, E_str, E_glob, E_bin, E_neg, E_cmp, E_chain, E_and, E_or, E_not, E_ite, E_tup, E_lstF, E_lstT, E_ix, E_slc, E_attr, E_call, E_make, E_meth, E_bcall, E_bmeth, E_isin, Es_nil, Es_cons, and_one, and_two, or_one, or_two, T_and, T_or, T_not, T_cmp, T_chain, T_var, T_bl, T_attr, T_call, T_bcall, T_ix, T_isin, andT_one, andT_two, orT_one, orT_two, test_nil, test_one, S_expr, S_set, S_sett, S_setc, S_par, S_fld, S_sub, S_ret, S_retN, S_ite, S_for, S_pass, Ss_nil, Ss_cons, R.then_ok, R.of_some, List.getElem?_cons_zero, List.getElem?_cons_succ, Option.map_some, asB, ix0, ix1, ix2, ix3, ix4, c_eq, c_lt, c_ge, c_gt, c_le, v_len, v_int, beq_self_eq_true, cell_at, bindT, List.length_cons, List.length_nil, List.set_cons_succ, List.set_cons_zero, b_add, b_sub, b_mul, b_mod, b_div, b_pow18, st1, st2, st3, st4, Nat.reduceAdd, Nat.reduceLT, if_true, or_true, true_or, and_self, and_true, true_and, Int.reduceLT, Int.reduceNeg, Int.reducePow, h2']
  · have h1' : (big == 0) = false := by simpa using h1
    refine ⟨none, i, big, seed, ?_, hb⟩
    simp only [E_var, E_non, E_bl, E_int, E_str, E_glob, E_bin, E_neg, E_cmp, E_chain, E_and, E_or, E_not, E_ite, E_tup, E_lstF, E_lstT, E_ix, E_slc, E_attr, E_call, E_make, E_meth, E_bcall, E_bmeth, E_isin, Es_nil, Es_cons, and_one, and_two, or_one, or_two, T_and, T_or, T_not, T_cmp, T_chain, T_var, T_bl, T_attr, T_call, T_bcall, T_ix, T_isin, andT_one, andT_two, orT_one, orT_two, test_nil, test_one, S_expr, S_set, S_sett, S_setc, S_par, S_fld, S_sub, S_ret, S_retN, S_ite, S_for, S_pass, Ss_nil, Ss_cons, R.then_ok, R.of_some, List.getElem?_cons_zero, List.getElem?_cons_succ, Option.map_some, asB, ix0, ix1, ix2, ix3, ix4, c_eq, c_lt, c_ge, c_gt, c_le, v_len, v_int, beq_self_eq_true, cell_at, bindT, List.length_cons, List.length_nil, List.set_cons_succ, List.set_cons_zero, b_add, b_sub, b_mul, b_mod, b_div, b_pow18, st1, st2, st3, st4, Nat.reduceAdd, Nat.reduceLT, if_true, or_true, true_or, and_self, and_true, true_and, Int.reduceLT, Int.reduceNeg, Int.reducePow, h1']
theorem take1 (Φ : Cal) (many : Int) (h0 : 0 < many) (h9 : many < 1073741824) (c : Option Val) (cells : List Int) (i : Nat) (big seed steps : Int) (hb : 0 ≤ big) : (∃ r big', evalS T.prog Φ b__law_take_1 [some (.ref 0), some (.int many), c, none, none] (bagS XS cells i big seed steps) = .ok (.ret (.int r)) (bagS XS cells i big' seed steps) ∧ 0 ≤ r ∧ r < many ∧ 0 ≤ big') ∨
    evalS T.prog Φ b__law_take_1 [some (.ref 0), some (.int many), c, none, none] (bagS XS cells i big seed steps) = .ok (.next [some (.ref 0), some (.int many), c, none, none]) (bagS XS cells i big seed steps) := by
  unfold b__law_take_1 bagS
  by_cases h1 : 0 < big
  · have h1' : decide (0 < big) = true := decide_eq_true h1
    refine .inl ⟨big % many, big / many, ?_, Int.emod_nonneg _ (by omega), Int.emod_lt_of_pos _ h0, Int.ediv_nonneg hb (by omega)⟩
    simp only [E_var, E_non, E_bl, E_int, E_str, E_glob, E_bin, E_neg, E_cmp, E_chain, E_and, E_or, E_not, E_ite, E_tup, E_lstF, E_lstT, E_ix, E_slc, E_attr, E_call, E_make, E_meth, E_bcall, E_bmeth, E_isin, Es_nil, Es_cons, and_one, and_two, or_one, or_two, T_and, T_or, T_not, T_cmp, T_chain, T_var, T_bl, T_attr, T_call, T_bcall, T_ix, T_isin, andT_one, andT_two, orT_one, orT_two, test_nil, test_one, S_expr, S_set, S_sett, S_setc, S_par, S_fld, S_sub, S_ret, S_retN, S_ite, S_for, S_pass, Ss_nil, Ss_cons, R.then_ok, R.of_some, List.getElem?_cons_zero, List.getElem?_cons_succ, Option.map_some, asB, ix0, ix1, ix2, ix3, ix4, c_eq, c_lt, c_ge, c_gt, c_le, v_len, v_int, beq_self_eq_true, cell_at, bindT, List.length_cons, List.length_nil, List.set_cons_succ, List.set_cons_zero, b_add, b_sub, b_mul, b_mod, b_div, b_pow18, st1, st2, st3, st4, Nat.reduceAdd, Nat.reduceLT, if_true, or_true, true_or, and_self, and_true, true_and, Int.reduceLT, Int.reduceNeg, Int.reducePow, h1', h0, h9]
  · have h1' : decide (0 < big) = false := decide_eq_false h1
    refine .inr ?_
    simp only [E_var, E_non, E_bl, E_int, E_str, E_glob, E_bin, E_neg, E_cmp, E_chain, E_and, E_or, E_not, E_ite, E_tup, E_lstF, E_lstT, E_ix, E_slc, E_attr, E_call, E_make, E_meth, E_bcall, E_bmeth, E_isin, Es_nil, Es_cons, and_one, and_two, or_one, or_two, T_and, T_or, T_not, T_cmp, T_chain, T_var, T_bl, T_attr, T_call, T_bcall, T_ix, T_isin, andT_one, andT_two, orT_one, orT_two, test_nil, test_one, S_expr, S_set, S_sett, S_setc, S_par, S_fld, S_sub, S_ret, S_retN, S_ite, S_for, S_pass, Ss_nil, Ss_cons, R.then_ok, R.of_some, List.getElem?_cons_zero, List.getElem?_cons_succ, Option.map_some, asB, ix0, ix1, ix2, ix3, ix4, c_eq, c_lt, c_ge, c_gt, c_le, v_len, v_int, beq_self_eq_true, cell_at, bindT, List.length_cons, List.length_nil, List.set_cons_succ, List.set_cons_zero, b_add, b_sub, b_mul, b_mod, b_div, b_pow18, st1, st2, st3, st4, Nat.reduceAdd, Nat.reduceLT, if_true, or_true, true_or, and_self, and_true, true_and, Int.reduceLT, Int.reduceNeg, Int.reducePow, h1']
theorem take_end (Φ : Cal) (many : Int) (h0 : 0 < many) (c : Option Val) (cells : List Int) (i : Nat) (big seed steps : Int) : ∃ r seed' steps', evalSs T.prog Φ [b__law_take_2, b__law_take_3, b__law_take_4, b__law_take_5] [some (.ref 0), some (.int many), c, none, none] (bagS XS cells i big seed steps) = .ok (.ret (.int r)) (bagS XS cells i big seed' steps') ∧ 0 ≤ r ∧ r < many := by
  have e2 : evalS T.prog Φ b__law_take_2 [some (.ref 0), some (.int many), c, none, none] (bagS XS cells i big seed steps) = .ok (.next [some (.ref 0), some (.int many), c, none, none]) (bagS XS cells i big seed (steps + 1)) := by
    unfold b__law_take_2 bagS
    simp only [E_var, E_non, E_bl, E_int, E_str, E_glob, E_bin, E_neg, E_cmp, E_chain, E_and, E_or, E_not, E_ite, E_tup, E_lstF, E_lstT, E_ix, E_slc, E_attr, E_call, E_make, E_meth, E_bcall, E_bmeth, E_isin, Es_nil, Es_cons, and_one, and_two, or_one, or_two, T_and, T_or, T_not, T_cmp, T_chain, T_var, T_bl, T_attr, T_call, T_bcall, T_ix, T_isin, andT_one, andT_two, orT_one, orT_two, test_nil, test_one, S_expr, S_set, S_sett, S_setc, S_par, S_fld, S_sub, S_ret, S_retN, S_ite, S_for, S_pass, Ss_nil, Ss_cons, R.then_ok, R.of_some, List.getElem?_cons_zero, List.getElem?_cons_succ, Option.map_some, asB, ix0, ix1, ix2, ix3, ix4, c_eq, c_lt, c_ge, c_gt, c_le, v_len, v_int, beq_self_eq_true, cell_at, bindT, List.length_cons, List.length_nil, List.set_cons_succ, List.set_cons_zero, b_add, b_sub, b_mul, b_mod, b_div, b_pow18, st1, st2, st3, st4, Nat.reduceAdd, Nat.reduceLT, if_true, or_true, true_or, and_self, and_true, true_and, Int.reduceLT, Int.reduceNeg, Int.reducePow, ]
  have e3 : evalS T.prog Φ b__law_take_3 [some (.ref 0), some (.int many), c, none, none] (bagS XS cells i big seed (steps + 1)) = .ok (.next [some (.ref 0), some (.int many), c, none, some (.int ((seed + (steps + 1) * 6007) % 2147483549))]) (bagS XS cells i big seed (steps + 1)) := by
    unfold b__law_take_3 bagS
    simp only [E_var, E_non, E_bl, E_int, E_str, E_glob, E_bin, E_neg, E_cmp, E_chain, E_and, E_or, E_not, E_ite, E_tup, E_lstF, E_lstT, E_ix, E_slc, E_attr, E_call, E_make, E_meth, E_bcall, E_bmeth, E_isin, Es_nil, Es_cons, and_one, and_two, or_one, or_two, T_and, T_or, T_not, T_cmp, T_chain, T_var, T_bl, T_attr, T_call, T_bcall, T_ix, T_isin, andT_one, andT_two, orT_one, orT_two, test_nil, test_one, S_expr, S_set, S_sett, S_setc, S_par, S_fld, S_sub, S_ret, S_retN, S_ite, S_for, S_pass, Ss_nil, Ss_cons, R.then_ok, R.of_some, List.getElem?_cons_zero, List.getElem?_cons_succ, Option.map_some, asB, ix0, ix1, ix2, ix3, ix4, c_eq, c_lt, c_ge, c_gt, c_le, v_len, v_int, beq_self_eq_true, cell_at, bindT, List.length_cons, List.length_nil, List.set_cons_succ, List.set_cons_zero, b_add, b_sub, b_mul, b_mod, b_div, b_pow18, st1, st2, st3, st4, Nat.reduceAdd, Nat.reduceLT, if_true, or_true, true_or, and_self, and_true, true_and, Int.reduceLT, Int.reduceNeg, Int.reducePow, ]
  have h1 := Int.emod_nonneg (seed + (steps + 1) * 6007) (show (2147483549 : Int) ≠ 0 by decide)
  have h2 := Int.emod_lt_of_pos (seed + (steps + 1) * 6007) (show (0 : Int) < 2147483549 by decide)
  generalize (seed + (steps + 1) * 6007) % 2147483549 = z at *
  have hz : z.natAbs < 2 ^ 64 := by omega
  have e4 : evalS T.prog Φ b__law_take_4 [some (.ref 0), some (.int many), c, none, some (.int z)] (bagS XS cells i big seed (steps + 1)) = .ok (.next [some (.ref 0), some (.int many), c, none, some (.int z)]) (bagS XS cells i big ((z ^ 3 + 50021 * z + 977) % 2147483549) (steps + 1)) := by
    unfold b__law_take_4 bagS
    have hp : ∀ st, binV st .pow (.int z) (.int 3) = some (.int (z ^ 3)) := fun st => b_pow st z 3 ⟨by decide, by decide, hz⟩
    simp only [E_var, E_non, E_bl, E_int, E_str, E_glob, E_bin, E_neg, E_cmp, E_chain, E_and, E_or, E_not, E_ite, E_tup, E_lstF, E_lstT, E_ix, E_slc, E_attr, E_call, E_make, E_meth, E_bcall, E_bmeth, E_isin, Es_nil, Es_cons, and_one, and_two, or_one, or_two, T_and, T_or, T_not, T_cmp, T_chain, T_var, T_bl, T_attr, T_call, T_bcall, T_ix, T_isin, andT_one, andT_two, orT_one, orT_two, test_nil, test_one, S_expr, S_set, S_sett, S_setc, S_par, S_fld, S_sub, S_ret, S_retN, S_ite, S_for, S_pass, Ss_nil, Ss_cons, R.then_ok, R.of_some, List.getElem?_cons_zero, List.getElem?_cons_succ, Option.map_some, asB, ix0, ix1, ix2, ix3, ix4, c_eq, c_lt, c_ge, c_gt, c_le, v_len, v_int, beq_self_eq_true, cell_at, bindT, List.length_cons, List.length_nil, List.set_cons_succ, List.set_cons_zero, b_add, b_sub, b_mul, b_mod, b_div, b_pow18, st1, st2, st3, st4, Nat.reduceAdd, Nat.reduceLT, if_true, or_true, true_or, and_self, and_true, true_and, Int.reduceLT, Int.reduceNeg, Int.reducePow, hp]
  generalize (z ^ 3 + 50021 * z + 977) % 2147483549 = y at *
  have e5 : evalS T.prog Φ b__law_take_5 [some (.ref 0), some (.int many), c, none, some (.int z)] (bagS XS cells i big y (steps + 1)) = .ok (.ret (.int ((y / 59 + y % 7919 * 37) % many))) (bagS XS cells i big y (steps + 1)) := by
    unfold b__law_take_5 bagS
    simp only [E_var, E_non, E_bl, E_int, E_str, E_glob, E_bin, E_neg, E_cmp, E_chain, E_and, E_or, E_not, E_ite, E_tup, E_lstF, E_lstT, E_ix, E_slc, E_attr, E_call, E_make, E_meth, E_bcall, E_bmeth, E_isin, Es_nil, Es_cons, and_one, and_two, or_one, or_two, T_and, T_or, T_not, T_cmp, T_chain, T_var, T_bl, T_attr, T_call, T_bcall, T_ix, T_isin, andT_one, andT_two, orT_one, orT_two, test_nil, test_one, S_expr, S_set, S_sett, S_setc, S_par, S_fld, S_sub, S_ret, S_retN, S_ite, S_for, S_pass, Ss_nil, Ss_cons, R.then_ok, R.of_some, List.getElem?_cons_zero, List.getElem?_cons_succ, Option.map_some, asB, ix0, ix1, ix2, ix3, ix4, c_eq, c_lt, c_ge, c_gt, c_le, v_len, v_int, beq_self_eq_true, cell_at, bindT, List.length_cons, List.length_nil, List.set_cons_succ, List.set_cons_zero, b_add, b_sub, b_mul, b_mod, b_div, b_pow18, st1, st2, st3, st4, Nat.reduceAdd, Nat.reduceLT, if_true, or_true, true_or, and_self, and_true, true_and, Int.reduceLT, Int.reduceNeg, Int.reducePow, h0]
  exact ⟨_, _, _, (Ss_next e2).trans ((Ss_next e3).trans ((Ss_next e4).trans (Ss_ret e5))), Int.emod_nonneg _ (by omega), Int.emod_lt_of_pos _ h0⟩
theorem take_ok (d : Nat) (many : Int) (h0 : 0 < many) (h1 : many < 1073741824) {st : Store} (hb : Bag XS st) : ∃ r st', call T.prog (d + 1) "_law_take" [.ref 0, .int many] st = .ok (.int r) st' ∧ 0 ≤ r ∧ r < many ∧ Bag XS st' := by
  obtain ⟨cells, i, big, seed, steps, rfl, hbig⟩ := hb
  rw [unf f_take]
  obtain ⟨c, i', big', seed', e0, hb'⟩ := take0 (call T.prog d) many cells i big seed steps hbig
  rcases take1 (call T.prog d) many h0 h1 c cells i' big' seed' steps hb' with ⟨r, big2, e1, r0, r1, hb2⟩ | e1
  · exact ⟨r, _, run_ret rfl ((Ss_next e0).trans (Ss_ret e1)), r0, r1, _, _, _, _, _, rfl, hb2⟩
  · obtain ⟨r, seed2, steps2, e2, r0, r1⟩ := take_end (call T.prog d) many h0 c cells i' big' seed' steps
    exact ⟨r, _, run_ret rfl ((Ss_next e0).trans ((Ss_next e1).trans e2)), r0, r1, _, _, _, _, _, rfl, hb'⟩
theorem c_take (d : Nat) (many : Int) (h0 : 0 < many) (h1 : many < 1073741824) {st : Store} (hb : Bag XS st) : ∃ r st', callM T.prog (call T.prog (d + 1)) .raw "_law_take" [] [.ref 0, .int many] [] st = .ok (.int r) st' ∧ 0 ≤ r ∧ r < many ∧ Bag XS st' := by
  obtain ⟨r, st', e, h⟩ := take_ok d many h0 h1 hb
  exact ⟨r, st', call_raw (tp := [.pos 0, .pos 1]) rfl rfl e, h⟩
theorem f_pick : T.prog.fn "_law_pick" = some ⟨2, 2, b__law_pick⟩ := rfl
theorem item_at {xs : List Val} {r : Int} (h0 : 0 ≤ r) (h1 : r < xs.length) (st : Store) : ∃ v, ixV st (.lst xs) (.int r) = some v ∧ v ∈ xs := by
  have hl : r.toNat < xs.length := by omega
  refine ⟨xs[r.toNat], ?_, List.getElem_mem hl⟩
  show L2.atI xs r = _
  unfold L2.atI L2.ixN
  simp [hl, h0, h1]
theorem pick_ok (d : Nat) (xs : List Val) (hx : 0 < xs.length) (hl : xs.length < 1073741824) {st : Store} (hb : Bag XS st) : ∃ v st', callM T.prog (call T.prog (d + 2)) .raw "_law_pick" [] [.ref 0, .lst xs] [] st = .ok v st' ∧ v ∈ xs ∧ Bag XS st' := by
  obtain ⟨r, st', e, h0, h1, h2⟩ := c_take d xs.length (by omega) (by omega) hb
  obtain ⟨v, ev, hv⟩ := item_at h0 h1 st'
  refine ⟨v, st', call_raw (tp := [.pos 0, .pos 1]) rfl rfl ?_, hv, h2⟩
  rw [unf f_pick]
  refine run_ret rfl (Ss_ret ?_)
  unfold b__law_pick_0
  simp only [E_var, E_non, E_bl, E_int, E_str, E_glob, E_bin, E_neg, E_cmp, E_chain, E_and, E_or, E_not, E_ite, E_tup, E_lstF, E_lstT, E_ix, E_slc, E_attr, E_call, E_make, E_meth, E_bcall, E_bmeth, E_isin, Es_nil, Es_cons, and_one, and_two, or_one, or_two, T_and, T_or, T_not, T_cmp, T_chain, T_var, T_bl, T_attr, T_call, T_bcall, T_ix, T_isin, andT_one, andT_two, orT_one, orT_two, test_nil, test_one, S_expr, S_set, S_sett, S_setc, S_par, S_fld, S_sub, S_ret, S_retN, S_ite, S_for, S_pass, Ss_nil, Ss_cons, R.then_ok, R.of_some, List.getElem?_cons_zero, List.getElem?_cons_succ, Option.map_some, asB, ix0, ix1, ix2, ix3, ix4, c_eq, c_lt, c_ge, c_gt, c_le, v_len, v_int, beq_self_eq_true, cell_at, bindT, List.length_cons, List.length_nil, List.set_cons_succ, List.set_cons_zero, b_add, b_sub, b_mul, b_mod, b_div, b_pow18, st1, st2, st3, st4, Nat.reduceAdd, Nat.reduceLT, if_true, or_true, true_or, and_self, and_true, true_and, Int.reduceLT, Int.reduceNeg, Int.reducePow, List.map_cons, List.map_nil, List.cons_append, List.nil_append, e, ev]
/-! ### a level -/
theorem f_level : T.prog.fn "_law_level" = some ⟨1, 3, b__law_level⟩ := rfl
def LevV (v : Val) : Prop := ∃ (h f : Int) (a b : Bool), v = .tup [.int h, .int f, .bl a, .bl b] ∧ (h = 0 ∨ h = 1 ∨ h = 2) ∧ (f = 0 ∨ f = 1 ∨ f = 2)
theorem one_of {v : Val} {a b c e : Int} (h : v ∈ [Val.int a, .int b, .int c, .int e]) : ∃ i, v = .int i ∧ (i = a ∨ i = b ∨ i = c ∨ i = e) := by
  simp only [List.mem_cons, List.not_mem_nil, or_false] at h
  rcases h with h | h | h | h
  · exact ⟨a, h, .inl rfl⟩
  · exact ⟨b, h, .inr (.inl rfl)⟩
  · exact ⟨c, h, .inr (.inr (.inl rfl))⟩
  · exact ⟨e, h, .inr (.inr (.inr rfl))⟩
theorem level_ok (d : Nat) {st : Store} (hb : Bag XS st) : ∃ v st', callM T.prog (call T.prog (d + 3)) .raw "_law_level" [] [.ref 0] [] st = .ok v st' ∧ LevV v ∧ Bag XS st' := by
  obtain ⟨v1, st1', e1, m1, hb1⟩ := pick_ok d [.int 1, .int 1, .int 0, .int 2] (by decide) (by decide) hb
  obtain ⟨v2, st2', e2, m2, hb2⟩ := pick_ok d [.int 1, .int 0, .int 1, .int 2] (by decide) (by decide) hb1
  obtain ⟨r3, st3', e3, _, _, hb3⟩ := c_take (d + 1) 2 (by decide) (by decide) hb2
  obtain ⟨r4, st4', e4, _, _, hb4⟩ := c_take (d + 1) 4 (by decide) (by decide) hb3
  obtain ⟨h, rfl, hh⟩ := one_of m1
  obtain ⟨f, rfl, hf⟩ := one_of m2
  refine ⟨.tup [.int h, .int f, .bl (r3 == 0), .bl (r4 == 0)], st4', call_raw (tp := [.pos 0]) rfl rfl ?_, ⟨h, f, _, _, rfl, by omega, by omega⟩, hb4⟩
  rw [unf f_level]
  refine run_ret rfl ((Ss_next (env' := [some (.ref 0), some (.int h), some (.int f)]) (st' := st2') ?_).trans (Ss_ret ?_))
  · unfold b__law_level_0
    simp only [E_var, E_non, E_bl, E_int, E_str, E_glob, E_bin, E_neg, E_cmp, E_chain, E_and, E_or, E_not, E_ite, E_tup, E_lstF, E_lstT, E_ix, E_slc, E_attr, E_call, E_make, E_meth, E_bcall, E_bmeth, E_isin, Es_nil, Es_cons, and_one, and_two, or_one, or_two, T_and, T_or, T_not, T_cmp, T_chain, T_var, T_bl, T_attr, T_call, T_bcall, T_ix, T_isin, andT_one, andT_two, orT_one, orT_two, test_nil, test_one, S_expr, S_set, S_sett, S_setc, S_par, S_fld, S_sub, S_ret, S_retN, S_ite, S_for, S_pass, Ss_nil, Ss_cons, R.then_ok, R.of_some, List.getElem?_cons_zero, List.getElem?_cons_succ, Option.map_some, asB, ix0, ix1, ix2, ix3, ix4, c_eq, c_lt, c_ge, c_gt, c_le, v_len, v_int, beq_self_eq_true, cell_at, bindT, List.length_cons, List.length_nil, List.set_cons_succ, List.set_cons_zero, b_add, b_sub, b_mul, b_mod, b_div, b_pow18, st1, st2, st3, st4, Nat.reduceAdd, Nat.reduceLT, if_true, or_true, true_or, and_self, and_true, true_and, Int.reduceLT, Int.reduceNeg, Int.reducePow, List.map_cons, List.map_nil, List.cons_append, List.nil_append, e1, e2]
    rfl
  · unfold b__law_level_1
    simp only [E_var, E_non, E_bl, E_int, E_str, E_glob, E_bin, E_neg, E_cmp, E_chain, E_and, E_or, E_not, E_ite, E_tup, E_lstF, E_lstT, E_ix, E_slc, E_attr, E_call, E_make, E_meth, E_bcall, E_bmeth, E_isin, Es_nil, Es_cons, and_one, and_two, or_one, or_two, T_and, T_or, T_not, T_cmp, T_chain, T_var, T_bl, T_attr, T_call, T_bcall, T_ix, T_isin, andT_one, andT_two, orT_one, orT_two, test_nil, test_one, S_expr, S_set, S_sett, S_setc, S_par, S_fld, S_sub, S_ret, S_retN, S_ite, S_for, S_pass, Ss_nil, Ss_cons, R.then_ok, R.of_some, List.getElem?_cons_zero, List.getElem?_cons_succ, Option.map_some, asB, ix0, ix1, ix2, ix3, ix4, c_eq, c_lt, c_ge, c_gt, c_le, v_len, v_int, beq_self_eq_true, cell_at, bindT, List.length_cons, List.length_nil, List.set_cons_succ, List.set_cons_zero, b_add, b_sub, b_mul, b_mod, b_div, b_pow18, st1, st2, st3, st4, Nat.reduceAdd, Nat.reduceLT, if_true, or_true, true_or, and_self, and_true, true_and, Int.reduceLT, Int.reduceNeg, Int.reducePow, List.map_cons, List.map_nil, List.cons_append, List.nil_append, e3, e4]
/-! ### spots -/
abbrev ch (c : Nat) : Val := .str ⟨#[c]⟩
def base : List Nat := [48, 49, 50, 51, 98, 116]
def SpV (z : Str) : Prop := ∃ l : List Nat, l.Sublist base ∧ z = ⟨l.toArray⟩
theorem join_chars : ∀ l : List Nat, Str.join ("" : Str) (l.map fun c => ⟨#[c]⟩) = ⟨l.toArray⟩
  | [] => rfl
  | [a] => rfl
  | a :: b :: r => by
    have ih := join_chars (b :: r)
    have e : Str.join ("" : Str) ((a :: b :: r).map fun c => (⟨#[c]⟩ : Str)) = (⟨#[a]⟩ : Str) ++ ("" : Str) ++ Str.join ("" : Str) ((b :: r).map fun c => (⟨#[c]⟩ : Str)) := rfl
    rw [e, ih]
    show (⟨#[a] ++ #[] ++ (b :: r).toArray⟩ : Str) = _
    simp
theorem strL_chars : ∀ l : List Nat, strL (l.map ch) = some (l.map fun c => (⟨#[c]⟩ : Str))
  | [] => rfl
  | a :: r => by
    show (strL (r.map ch)).map _ = _
    rw [strL_chars r]; rfl
theorem sum_chars : ∀ l : List Nat, ((l.map fun c => (⟨#[c]⟩ : Str)).map (·.length)).sum = l.length
  | [] => rfl
  | a :: r => by
    simp only [List.map_cons, List.sum_cons,
                                             List.length_cons]
    rw [sum_chars r]
    show 1 + _ = _
    omega
theorem m_join (l : List Nat) (hl : l.length ≤ 1000) (st : Store) : bmV st "join" (.str "") [.lst (l.map ch)] = some (.str ⟨l.toArray⟩, st) := by
  have e : bmV st "join" (.str "") [.lst (l.map ch)] = joinV st (.str "") [.lst (l.map ch)] := rfl
  rw [e]
  unfold joinV
  simp only [lstOf, Option.bind_some, strL_chars]
  rw [if_pos, join_chars]
  rw [sum_chars]
  show l.length + _ * 0 ≤ _
  omega
theorem f_spots : T.prog.fn "_law_spots" = some ⟨2, 3, b__law_spots⟩ := rfl
/-- the signs that are drawn from -/
def ofN (n : Int) : List Nat := if n = 0 then [98, 116] else if n = 1 then [48, 98, 116] else if n = 2 then [48, 49, 98, 116] else if n = 3 then [48, 49, 50, 98, 116] else base
theorem ofN_sub (n : Int) : (ofN n).Sublist base := by
  unfold ofN
  split
  · decide
  · split
    · decide
    · split
      · decide
      · split <;> decide
theorem spots_src (n : Int) (h0 : 0 ≤ n) (h4 : n ≤ 4) (Φ : Cal) (st : Store) (e : Val) : srcE T.prog Φ .seq [(.bin .add (.slc (.str "0123") [] [(.var 1)]) (.str "bt"))] [some e, some (.int n), none] st = .ok ((ofN n).map ch, []) st := by
  have : n = 0 ∨ n = 1 ∨ n = 2 ∨ n = 3 ∨ n = 4 := by omega
  rcases this with rfl | rfl | rfl | rfl | rfl <;> rfl
theorem spots_ok (d : Nat) (n : Int) (h0 : 0 ≤ n) (h4 : n ≤ 4) {st : Store} (hb : Bag XS st) : ∃ z st', callM T.prog (call T.prog (d + 2)) .raw "_law_spots" [] [.ref 0, .int n] [] st = .ok (.str z) st' ∧ SpV z ∧ Bag XS st' := by
  have turn : ∀ x ∈ (ofN n).map ch, ∀ st, Bag XS st → ∃ o st', turnF T.prog (call T.prog (d + 1)) (.v 2) (.var 2) [(.cmp .eq (.call .raw "_law_take" [(.var 0), (.int 2)] [] []) (.int 0))] [some (.ref 0), some (.int n), none] x st = .ok o st' ∧ (o = none ∨ o = some x) ∧ Bag XS st' := by
    intro x _ st hb
    obtain ⟨r, st', e, _, _, hb'⟩ := c_take d 2 (by decide) (by decide) hb
    cases hr : (r == 0) with
    | true =>
      refine ⟨some x, st', ?_, .inr rfl, hb'⟩
      unfold turnF
      simp only [E_var, E_non, E_bl, E_int, E_str, E_glob, E_bin, E_neg, E_cmp, E_chain, E_and, E_or, E_not, E_ite, E_tup, E_lstF, E_lstT, E_ix, E_slc, E_attr, E_call, E_make, E_meth, E_bcall, E_bmeth, E_isin, Es_nil, Es_cons, and_one, and_two, or_one, or_two, T_and, T_or, T_not, T_cmp, T_chain, T_var, T_bl, T_attr, T_call, T_bcall, T_ix, T_isin, andT_one, andT_two, orT_one, orT_two, test_nil, test_one, S_expr, S_set, S_sett, S_setc, S_par, S_fld, S_sub, S_ret, S_retN, S_ite, S_for, S_pass, Ss_nil, Ss_cons, R.then_ok, R.of_some, List.getElem?_cons_zero, List.getElem?_cons_succ, Option.map_some, asB, ix0, ix1, ix2, ix3, ix4, c_eq, c_lt, c_ge, c_gt, c_le, v_len, v_int, beq_self_eq_true, cell_at, bindT, List.length_cons, List.length_nil, List.set_cons_succ, List.set_cons_zero, b_add, b_sub, b_mul, b_mod, b_div, b_pow18, st1, st2, st3, st4, Nat.reduceAdd, Nat.reduceLT, if_true, or_true, true_or, and_self, and_true, true_and, Int.reduceLT, Int.reduceNeg, Int.reducePow, slots, wipeE, e, hr]
    | false =>
      refine ⟨none, st', ?_, .inl rfl, hb'⟩
      unfold turnF
      simp only [E_var, E_non, E_bl, E_int, E_str, E_glob, E_bin, E_neg, E_cmp, E_chain, E_and, E_or, E_not, E_ite, E_tup, E_lstF, E_lstT, E_ix, E_slc, E_attr, E_call, E_make, E_meth, E_bcall, E_bmeth, E_isin, Es_nil, Es_cons, and_one, and_two, or_one, or_two, T_and, T_or, T_not, T_cmp, T_chain, T_var, T_bl, T_attr, T_call, T_bcall, T_ix, T_isin, andT_one, andT_two, orT_one, orT_two, test_nil, test_one, S_expr, S_set, S_sett, S_setc, S_par, S_fld, S_sub, S_ret, S_retN, S_ite, S_for, S_pass, Ss_nil, Ss_cons, R.then_ok, R.of_some, List.getElem?_cons_zero, List.getElem?_cons_succ, Option.map_some, asB, ix0, ix1, ix2, ix3, ix4, c_eq, c_lt, c_ge, c_gt, c_le, v_len, v_int, beq_self_eq_true, cell_at, bindT, List.length_cons, List.length_nil, List.set_cons_succ, List.set_cons_zero, b_add, b_sub, b_mul, b_mod, b_div, b_pow18, st1, st2, st3, st4, Nat.reduceAdd, Nat.reduceLT, if_true, or_true, true_or, and_self, and_true, true_and, Int.reduceLT, Int.reduceNeg, Int.reducePow, slots, wipeE, e, hr]
  obtain ⟨ys, st', e, hs, hb'⟩ := comp_some turn [] st hb
  obtain ⟨l, hl, rfl⟩ := List.sublist_map_iff.mp hs
  have hlb : l.Sublist base := hl.trans (ofN_sub n)
  have hlen : l.length ≤ 6 := hlb.length_le
  refine ⟨⟨l.toArray⟩, st', call_raw (tp := [.pos 0, .pos 1]) rfl rfl ?_, ⟨l, hlb, rfl⟩, hb'⟩
  rw [unf f_spots]
  refine run_ret rfl (Ss_ret ?_)
  unfold b__law_spots_0
  have hc := comp_ok (by have h1 := (ofN_sub n).length_le; rw [List.length_map]; have h2 : base.length = 6 := rfl; rw [h2] at h1; show _ ≤ (2 ^ 24 : Nat); omega) e
  simp only [E_var, E_non, E_bl, E_int, E_str, E_glob, E_bin, E_neg, E_cmp, E_chain, E_and, E_or, E_not, E_ite, E_tup, E_lstF, E_lstT, E_ix, E_slc, E_attr, E_call, E_make, E_meth, E_bcall, E_bmeth, E_isin, Es_nil, Es_cons, and_one, and_two, or_one, or_two, T_and, T_or, T_not, T_cmp, T_chain, T_var, T_bl, T_attr, T_call, T_bcall, T_ix, T_isin, andT_one, andT_two, orT_one, orT_two, test_nil, test_one, S_expr, S_set, S_sett, S_setc, S_par, S_fld, S_sub, S_ret, S_retN, S_ite, S_for, S_pass, Ss_nil, Ss_cons, R.then_ok, R.of_some, List.getElem?_cons_zero, List.getElem?_cons_succ, Option.map_some, asB, ix0, ix1, ix2, ix3, ix4, c_eq, c_lt, c_ge, c_gt, c_le, v_len, v_int, beq_self_eq_true, cell_at, bindT, List.length_cons, List.length_nil, List.set_cons_succ, List.set_cons_zero, b_add, b_sub, b_mul, b_mod, b_div, b_pow18, st1, st2, st3, st4, Nat.reduceAdd, Nat.reduceLT, if_true, or_true, true_or, and_self, and_true, true_and, Int.reduceLT, Int.reduceNeg, Int.reducePow, List.map_cons, List.map_nil, List.cons_append, List.nil_append, List.replicate, Nat.sub_self, E_comp, spots_src n h0 h4, hc, bmTy, m_join l (by omega)]
  rfl
/-! ### a box -/
def SrcOk (i : Int) (s : Val) : Prop := s = .non ∨ ∃ j, s = .int j ∧ 0 ≤ j ∧ j ≤ 1 ∧ j < i
def BoxV (i : Int) (v : Val) : Prop := ∃ (s : Val) (p c : Str) (e : Bool), v = .tup [s, .str p, .str c, .bl e] ∧ SrcOk i s ∧ SpV p ∧ SpV c
theorem f_box : T.prog.fn "_law_box" = some ⟨3, 4, b__law_box⟩ := rfl
theorem box_ok (d : Nat) (i n : Int) (h0 : 0 ≤ n) (h4 : n ≤ 4) {st : Store} (hb : Bag XS st) : ∃ v st', callM T.prog (call T.prog (d + 3)) .raw "_law_box" [] [.ref 0, .int i, .int n] [] st = .ok v st' ∧ BoxV i v ∧ Bag XS st' := by
  obtain ⟨s, st1', e1, hs, hb1⟩ : ∃ s st', evalS T.prog (call T.prog (d + 2)) b__law_box_0 [some (.ref 0), some (.int i), some (.int n), none] st = .ok (.next [some (.ref 0), some (.int i), some (.int n), some s]) st' ∧ SrcOk i s ∧ Bag XS st' := by
    unfold b__law_box_0
    by_cases h1 : 0 < i
    · by_cases h3 : i < 3
      · obtain ⟨v, st', e, m, hb'⟩ := pick_ok d [.non, .int (i - 1), .int 0] (by show 0 < 3; decide) (by show 3 < 1073741824; decide) hb
        refine ⟨v, st', ?_, ?_, hb'⟩
        · have d1 : decide (0 < i) = true := decide_eq_true h1
          have d3 : decide (i < 3) = true := decide_eq_true h3
          simp only [E_var, E_non, E_bl, E_int, E_str, E_glob, E_bin, E_neg, E_cmp, E_chain, E_and, E_or, E_not, E_ite, E_tup, E_lstF, E_lstT, E_ix, E_slc, E_attr, E_call, E_make, E_meth, E_bcall, E_bmeth, E_isin, Es_nil, Es_cons, and_one, and_two, or_one, or_two, T_and, T_or, T_not, T_cmp, T_chain, T_var, T_bl, T_attr, T_call, T_bcall, T_ix, T_isin, andT_one, andT_two, orT_one, orT_two, test_nil, test_one, S_expr, S_set, S_sett, S_setc, S_par, S_fld, S_sub, S_ret, S_retN, S_ite, S_for, S_pass, Ss_nil, Ss_cons, R.then_ok, R.of_some, List.getElem?_cons_zero, List.getElem?_cons_succ, Option.map_some, asB, ix0, ix1, ix2, ix3, ix4, c_eq, c_lt, c_ge, c_gt, c_le, v_len, v_int, beq_self_eq_true, cell_at, bindT, List.length_cons, List.length_nil, List.set_cons_succ, List.set_cons_zero, b_add, b_sub, b_mul, b_mod, b_div, b_pow18, st1, st2, st3, st4, Nat.reduceAdd, Nat.reduceLT, if_true, or_true, true_or, and_self, and_true, true_and, Int.reduceLT, Int.reduceNeg, Int.reducePow, List.map_cons, List.map_nil, List.cons_append, List.nil_append, List.replicate, Nat.sub_self, Nat.reduceSub, d1, d3, e]
        · simp only [List.mem_cons, List.not_mem_nil, or_false] at m
          rcases m with rfl | rfl | rfl
          · exact .inl rfl
          · exact .inr ⟨i - 1, rfl, by omega, by omega, by omega⟩
          · exact .inr ⟨0, rfl, by omega, by omega, by omega⟩
      · refine ⟨.non, st, ?_, .inl rfl, hb⟩
        have d1 : decide (0 < i) = true := decide_eq_true h1
        have d3 : decide (i < 3) = false := decide_eq_false h3
        simp only [E_var, E_non, E_bl, E_int, E_str, E_glob, E_bin, E_neg, E_cmp, E_chain, E_and, E_or, E_not, E_ite, E_tup, E_lstF, E_lstT, E_ix, E_slc, E_attr, E_call, E_make, E_meth, E_bcall, E_bmeth, E_isin, Es_nil, Es_cons, and_one, and_two, or_one, or_two, T_and, T_or, T_not, T_cmp, T_chain, T_var, T_bl, T_attr, T_call, T_bcall, T_ix, T_isin, andT_one, andT_two, orT_one, orT_two, test_nil, test_one, S_expr, S_set, S_sett, S_setc, S_par, S_fld, S_sub, S_ret, S_retN, S_ite, S_for, S_pass, Ss_nil, Ss_cons, R.then_ok, R.of_some, List.getElem?_cons_zero, List.getElem?_cons_succ, Option.map_some, asB, ix0, ix1, ix2, ix3, ix4, c_eq, c_lt, c_ge, c_gt, c_le, v_len, v_int, beq_self_eq_true, cell_at, bindT, List.length_cons, List.length_nil, List.set_cons_succ, List.set_cons_zero, b_add, b_sub, b_mul, b_mod, b_div, b_pow18, st1, st2, st3, st4, Nat.reduceAdd, Nat.reduceLT, if_true, or_true, true_or, and_self, and_true, true_and, Int.reduceLT, Int.reduceNeg, Int.reducePow, List.map_cons, List.map_nil, List.cons_append, List.nil_append, List.replicate, Nat.sub_self, Nat.reduceSub, d1, d3]
    · refine ⟨.non, st, ?_, .inl rfl, hb⟩
      have d1 : decide (0 < i) = false := decide_eq_false h1
      simp only [E_var, E_non, E_bl, E_int, E_str, E_glob, E_bin, E_neg, E_cmp, E_chain, E_and, E_or, E_not, E_ite, E_tup, E_lstF, E_lstT, E_ix, E_slc, E_attr, E_call, E_make, E_meth, E_bcall, E_bmeth, E_isin, Es_nil, Es_cons, and_one, and_two, or_one, or_two, T_and, T_or, T_not, T_cmp, T_chain, T_var, T_bl, T_attr, T_call, T_bcall, T_ix, T_isin, andT_one, andT_two, orT_one, orT_two, test_nil, test_one, S_expr, S_set, S_sett, S_setc, S_par, S_fld, S_sub, S_ret, S_retN, S_ite, S_for, S_pass, Ss_nil, Ss_cons, R.then_ok, R.of_some, List.getElem?_cons_zero, List.getElem?_cons_succ, Option.map_some, asB, ix0, ix1, ix2, ix3, ix4, c_eq, c_lt, c_ge, c_gt, c_le, v_len, v_int, beq_self_eq_true, cell_at, bindT, List.length_cons, List.length_nil, List.set_cons_succ, List.set_cons_zero, b_add, b_sub, b_mul, b_mod, b_div, b_pow18, st1, st2, st3, st4, Nat.reduceAdd, Nat.reduceLT, if_true, or_true, true_or, and_self, and_true, true_and, Int.reduceLT, Int.reduceNeg, Int.reducePow, List.map_cons, List.map_nil, List.cons_append, List.nil_append, List.replicate, Nat.sub_self, Nat.reduceSub, d1]
  obtain ⟨p, st2', e2, hp, hb2⟩ := spots_ok d n h0 h4 hb1
  obtain ⟨c, st3', e3, hc, hb3⟩ := spots_ok d 4 (by decide) (by decide) hb2
  obtain ⟨r, st4', e4, _, _, hb4⟩ := c_take (d + 1) 3 (by decide) (by decide) hb3
  refine ⟨.tup [s, .str p, .str c, .bl (r == 0)], st4', call_raw (tp := [.pos 0, .pos 1, .pos 2]) rfl rfl ?_, ⟨s, p, c, _, rfl, hs, hp, hc⟩, hb4⟩
  rw [unf f_box]
  refine run_ret rfl ((Ss_next e1).trans (Ss_ret ?_))
  unfold b__law_box_1
  simp only [E_var, E_non, E_bl, E_int, E_str, E_glob, E_bin, E_neg, E_cmp, E_chain, E_and, E_or, E_not, E_ite, E_tup, E_lstF, E_lstT, E_ix, E_slc, E_attr, E_call, E_make, E_meth, E_bcall, E_bmeth, E_isin, Es_nil, Es_cons, and_one, and_two, or_one, or_two, T_and, T_or, T_not, T_cmp, T_chain, T_var, T_bl, T_attr, T_call, T_bcall, T_ix, T_isin, andT_one, andT_two, orT_one, orT_two, test_nil, test_one, S_expr, S_set, S_sett, S_setc, S_par, S_fld, S_sub, S_ret, S_retN, S_ite, S_for, S_pass, Ss_nil, Ss_cons, R.then_ok, R.of_some, List.getElem?_cons_zero, List.getElem?_cons_succ, Option.map_some, asB, ix0, ix1, ix2, ix3, ix4, c_eq, c_lt, c_ge, c_gt, c_le, v_len, v_int, beq_self_eq_true, cell_at, bindT, List.length_cons, List.length_nil, List.set_cons_succ, List.set_cons_zero, b_add, b_sub, b_mul, b_mod, b_div, b_pow18, st1, st2, st3, st4, Nat.reduceAdd, Nat.reduceLT, if_true, or_true, true_or, and_self, and_true, true_and, Int.reduceLT, Int.reduceNeg, Int.reducePow, List.map_cons, List.map_nil, List.cons_append, List.nil_append, List.replicate, Nat.sub_self, Nat.reduceSub, e2, e3, e4]
/-! ### numbers within bounds -/
theorem f_within : T.prog.fn "is_within" = some ⟨3, 3, b_is_within⟩ := rfl
theorem c_number (d : Nat) (i : Int) (st : Store) : callM T.prog (call T.prog (d + 1)) .raw "is_number" [] [.int i] [] st = .ok (.bl true) st := rfl
theorem c_within (d : Nat) (i lo hi : Int) (st : Store) : callM T.prog (call T.prog (d + 2)) .raw "is_within" [] [.int i, .int lo, .int hi] [] st = .ok (.bl (decide (lo ≤ i) && decide (i ≤ hi))) st := by
  refine call_raw (tp := [.pos 0, .pos 1, .pos 2]) rfl rfl ?_
  rw [unf f_within]
  refine run_ret rfl (Ss_ret ?_)
  unfold b_is_within_0
  cases h : decide (lo ≤ i) <;> simp only [E_var, E_non, E_bl, E_int, E_str, E_glob, E_bin, E_neg, E_cmp, E_chain, E_and, E_or, E_not, E_ite, E_tup, E_lstF, E_lstT, E_ix, E_slc, E_attr, E_call, E_make, E_meth, E_bcall, E_bmeth, E_isin, Es_nil, Es_cons, and_one, and_two, or_one, or_two, T_and, T_or, T_not, T_cmp, T_chain, T_var, T_bl, T_attr, T_call, T_bcall, T_ix, T_isin, andT_one, andT_two, orT_one, orT_two, test_nil, test_one, S_expr, S_set, S_sett, S_setc, S_par, S_fld, S_sub, S_ret, S_retN, S_ite, S_for, S_pass, Ss_nil, Ss_cons, R.then_ok, R.of_some, List.getElem?_cons_zero, List.getElem?_cons_succ, Option.map_some, asB, ix0, ix1, ix2, ix3, ix4, c_eq, c_lt, c_ge, c_gt, c_le, v_len, v_int, beq_self_eq_true, cell_at, bindT, List.length_cons, List.length_nil, List.set_cons_succ, List.set_cons_zero, b_add, b_sub, b_mul, b_mod, b_div, b_pow18, st1, st2, st3, st4, Nat.reduceAdd, Nat.reduceLT, if_true, or_true, true_or, and_self, and_true, true_and, Int.reduceLT, Int.reduceNeg, Int.reducePow, List.map_cons, List.map_nil, List.cons_append, List.nil_append, List.replicate, Nat.sub_self, Nat.reduceSub, c_number, h] <;> rfl
/-! ### attributes stored in a new instance -/
theorem fld_step {Φ : Cal} {env : Mp.Env} {st : Store} {c : Str} {ns : List Str} {vs : List Val} {f : Str} {i : Nat} {v : Val} (h0 : env[0]? = some (some (.ref st.length))) (h1 : env[i]? = some (some v)) (hn : decide (ns.length < 1000) = true) (h2 : T.prog.fl c f = true) (h3 : T.prog.isc c = true) :
    evalS T.prog Φ (.fld (.var 0) f (.var i)) env (st ++ [.ins c ns vs]) = .ok (.next env) (st ++ [.ins c (putV ns vs f v).1 (putV ns vs f v).2]) := by
  rw [S_fld, E_var, h1]
  show (evalE T.prog Φ (.var 0) env (st ++ [.ins c ns vs])).then_ _ = _
  rw [E_var, h0]
  show (match fldSet T.prog (st ++ [.ins c ns vs]) (.ref st.length) f v with | some st' => R.ok (Fl.next env) st' | none => .stuck) = _
  rw [fldSet_last st c ns vs f v (of_decide_eq_true hn) h2 h3]
/-! ### levels made -/
def levI (h f : Int) (a b : Bool) : Val := .ins "Level" ["head", "foot", "again", "fresh"] [.int h, .int f, .bl a, .bl b]
theorem f_Linit : T.prog.fn "Level.__init__" = some ⟨5, 5, b_Level_init⟩ := rfl
theorem Linit (d : Nat) (h f : Int) (a b : Bool) (hh : 0 ≤ h ∧ h ≤ 2) (hf : 0 ≤ f ∧ f ≤ 2) (st : Store) : call T.prog (d + 3) "Level.__init__" [.ref st.length, .int h, .int f, .bl a, .bl b] (st ++ [.ins "Level" [] []]) = .ok .non (st ++ [.ins "Level" ["head", "foot", "again", "fresh"] [.int h, .int f, .bl a, .bl b]]) := by
  rw [unf f_Linit]
  have g1 : decide (0 ≤ h) = true := decide_eq_true hh.1
  have g2 : decide (h ≤ 2) = true := decide_eq_true hh.2
  have g3 : decide (0 ≤ f) = true := decide_eq_true hf.1
  have g4 : decide (f ≤ 2) = true := decide_eq_true hf.2
  refine run_next rfl ((Ss_next (st' := st ++ [.ins "Level" [] []]) (env' := [some (.ref st.length), some (.int h), some (.int f), some (.bl a), some (.bl b)]) ?_).trans ((Ss_next (st' := st ++ [.ins "Level" [] []]) (env' := [some (.ref st.length), some (.int h), some (.int f), some (.bl a), some (.bl b)]) ?_).trans
    ((Ss_next (fld_step rfl rfl rfl rfl rfl)).trans ((Ss_next (fld_step rfl rfl rfl rfl rfl)).trans ((Ss_next (fld_step rfl rfl rfl rfl rfl)).trans ((Ss_next (fld_step rfl rfl rfl rfl rfl)).trans rfl))))))
  · unfold b_Level_init_0
    have eg : T.prog.glob "MOST_LINES" = some (.int 2) := rfl
    simp only [E_var, E_non, E_bl, E_int, E_str, E_glob, E_bin, E_neg, E_cmp, E_chain, E_and, E_or, E_not, E_ite, E_tup, E_lstF, E_lstT, E_ix, E_slc, E_attr, E_call, E_make, E_meth, E_bcall, E_bmeth, E_isin, Es_nil, Es_cons, and_one, and_two, or_one, or_two, T_and, T_or, T_not, T_cmp, T_chain, T_var, T_bl, T_attr, T_call, T_bcall, T_ix, T_isin, andT_one, andT_two, orT_one, orT_two, test_nil, test_one, S_expr, S_set, S_sett, S_setc, S_par, S_fld, S_sub, S_ret, S_retN, S_ite, S_for, S_pass, Ss_nil, Ss_cons, R.then_ok, R.of_some, List.getElem?_cons_zero, List.getElem?_cons_succ, Option.map_some, asB, ix0, ix1, ix2, ix3, ix4, c_eq, c_lt, c_ge, c_gt, c_le, v_len, v_int, beq_self_eq_true, cell_at, bindT, List.length_cons, List.length_nil, List.set_cons_succ, List.set_cons_zero, b_add, b_sub, b_mul, b_mod, b_div, b_pow18, st1, st2, st3, st4, Nat.reduceAdd, Nat.reduceLT, if_true, or_true, true_or, and_self, and_true, true_and, Int.reduceLT, Int.reduceNeg, Int.reducePow, List.map_cons, List.map_nil, List.cons_append, List.nil_append, List.replicate, Nat.sub_self, Nat.reduceSub, eg, c_within, g1, g2, g3, g4]
    rfl
  · rfl
theorem f_mlev : T.prog.fn "_law_made_level" = some ⟨1, 1, b__law_made_level⟩ := rfl
theorem made_level (d : Nat) (h f : Int) (a b : Bool) (hh : 0 ≤ h ∧ h ≤ 2) (hf : 0 ≤ f ∧ f ≤ 2) (st : Store) : callM T.prog (call T.prog (d + 4)) .raw "_law_made_level" [] [.tup [.int h, .int f, .bl a, .bl b]] [] st = .ok (levI h f a b) st := by
  refine call_raw (tp := [.pos 0]) rfl rfl ?_
  rw [unf f_mlev]
  refine run_ret rfl (Ss_ret ?_)
  unfold b__law_made_level_0
  have i0 : ∀ st, ixV st (.tup [.int h, .int f, .bl a, .bl b]) (.int 0) = some (.int h) := fun _ => rfl
  have i1 : ∀ st, ixV st (.tup [.int h, .int f, .bl a, .bl b]) (.int 1) = some (.int f) := fun _ => rfl
  have i2 : ∀ st, ixV st (.tup [.int h, .int f, .bl a, .bl b]) (.int 2) = some (.bl a) := fun _ => rfl
  have i3 : ∀ st, ixV st (.tup [.int h, .int f, .bl a, .bl b]) (.int 3) = some (.bl b) := fun _ => rfl
  have em : makeM T.prog (call T.prog (d + 3)) .pure "Level" ["again", "fresh"] [.int h, .int f] [.bl a, .bl b] st = .ok (levI h f a b) st :=
    make_new (tp := [.pos 0, .pos 1, .pos 2, .kw 0, .kw 1]) rfl rfl rfl rfl (Linit d h f a b hh hf st) rfl
  simp only [E_var, E_non, E_bl, E_int, E_str, E_glob, E_bin, E_neg, E_cmp, E_chain, E_and, E_or, E_not, E_ite, E_tup, E_lstF, E_lstT, E_ix, E_slc, E_attr, E_call, E_make, E_meth, E_bcall, E_bmeth, E_isin, Es_nil, Es_cons, and_one, and_two, or_one, or_two, T_and, T_or, T_not, T_cmp, T_chain, T_var, T_bl, T_attr, T_call, T_bcall, T_ix, T_isin, andT_one, andT_two, orT_one, orT_two, test_nil, test_one, S_expr, S_set, S_sett, S_setc, S_par, S_fld, S_sub, S_ret, S_retN, S_ite, S_for, S_pass, Ss_nil, Ss_cons, R.then_ok, R.of_some, List.getElem?_cons_zero, List.getElem?_cons_succ, Option.map_some, asB, ix0, ix1, ix2, ix3, ix4, c_eq, c_lt, c_ge, c_gt, c_le, v_len, v_int, beq_self_eq_true, cell_at, bindT, List.length_cons, List.length_nil, List.set_cons_succ, List.set_cons_zero, b_add, b_sub, b_mul, b_mod, b_div, b_pow18, st1, st2, st3, st4, Nat.reduceAdd, Nat.reduceLT, if_true, or_true, true_or, and_self, and_true, true_and, Int.reduceLT, Int.reduceNeg, Int.reducePow, List.map_cons, List.map_nil, List.cons_append, List.nil_append, List.replicate, Nat.sub_self, Nat.reduceSub, i0, i1, i2, i3, em]
/-! ### spots checked -/
def subsOf : List Nat → List (List Nat)
  | [] => [[]]
  | a :: r => subsOf r ++ (subsOf r).map (a :: ·)
theorem mem_subsOf {l b : List Nat} (h : l.Sublist b) : l ∈ subsOf b := by
  induction h with
  | slnil => simp [subsOf]
  | cons a _ ih => exact List.mem_append_left _ ih
  | cons_cons a _ ih => exact List.mem_append_right _ (List.mem_map.mpr ⟨_, ih, rfl⟩)
def subsA : List (List Nat) := [[], [48], [49], [50], [51], [98], [116], [48, 49], [48, 50], [48, 51], [48, 98], [48, 116], [49, 50], [49, 51], [49, 98], [49, 116], [50, 51], [50, 98], [50, 116], [51, 98], [51, 116], [98, 116], [48, 49, 50], [48, 49, 51], [48, 49, 98], [48, 49, 116], [48, 50, 51], [48, 50, 98], [48, 50, 116], [48, 51, 98], [48, 51, 116], [48, 98, 116]]
def subsB : List (List Nat) := [[49, 50, 51], [49, 50, 98], [49, 50, 116], [49, 51, 98], [49, 51, 116], [49, 98, 116], [50, 51, 98], [50, 51, 116], [50, 98, 116], [51, 98, 116], [48, 49, 50, 51], [48, 49, 50, 98], [48, 49, 50, 116], [48, 49, 51, 98], [48, 49, 51, 116], [48, 49, 98, 116], [48, 50, 51, 98], [48, 50, 51, 116], [48, 50, 98, 116], [48, 51, 98, 116], [49, 50, 51, 98], [49, 50, 51, 116], [49, 50, 98, 116], [49, 51, 98, 116], [50, 51, 98, 116], [48, 49, 50, 51, 98], [48, 49, 50, 51, 116], [48, 49, 50, 98, 116], [48, 49, 51, 98, 116], [48, 50, 51, 98, 116], [49, 50, 51, 98, 116], [48, 49, 50, 51, 98, 116]]
theorem in_subs {l : List Nat} (h : l.Sublist base) : l ∈ subsA ∨ l ∈ subsB := by
  have hm := mem_subsOf h
  have hall : (subsOf base).all (fun l => subsA.contains l || subsB.contains l) = true := by decide +kernel
  have := List.all_eq_true.mp hall l hm
  simpa using this
theorem spots_A (d : Nat) (st : Store) : ∀ l ∈ subsA, call T.prog (d + 1) "is_spots" [.str ⟨l.toArray⟩] st = .ok (.bl true) st := by
  intro l hl
  simp only [subsA, List.mem_cons, List.not_mem_nil, or_false] at hl
  rcases hl with rfl | rfl | rfl | rfl | rfl | rfl | rfl | rfl | rfl | rfl | rfl | rfl | rfl | rfl | rfl | rfl | rfl | rfl | rfl | rfl | rfl | rfl | rfl | rfl | rfl | rfl | rfl | rfl | rfl | rfl | rfl | rfl <;> kernel_rfl
theorem spots_B (d : Nat) (st : Store) : ∀ l ∈ subsB, call T.prog (d + 1) "is_spots" [.str ⟨l.toArray⟩] st = .ok (.bl true) st := by
  intro l hl
  simp only [subsB, List.mem_cons, List.not_mem_nil, or_false] at hl
  rcases hl with rfl | rfl | rfl | rfl | rfl | rfl | rfl | rfl | rfl | rfl | rfl | rfl | rfl | rfl | rfl | rfl | rfl | rfl | rfl | rfl | rfl | rfl | rfl | rfl | rfl | rfl | rfl | rfl | rfl | rfl | rfl | rfl <;> kernel_rfl
theorem c_spots (d : Nat) {z : Str} (h : SpV z) (st : Store) : callM T.prog (call T.prog (d + 1)) .raw "is_spots" [] [.str z] [] st = .ok (.bl true) st := by
  obtain ⟨l, hl, rfl⟩ := h
  refine call_raw (tp := [.pos 0]) rfl rfl ?_
  rcases in_subs hl with h | h
  · exact spots_A d st l h
  · exact spots_B d st l h
/-! ### boxes made -/
def boxI (s : Val) (p c : Str) (e : Bool) : Val := .ins "Box" ["source", "prints", "clears", "early"] [s, .str p, .str c, .bl e]
theorem f_Binit : T.prog.fn "Box.__init__" = some ⟨5, 5, b_Box_init⟩ := rfl
theorem Binit (d : Nat) (i : Int) {s : Val} (hs : SrcOk i s) {p c : Str} (hp : SpV p) (hc : SpV c) (e : Bool) (st : Store) : call T.prog (d + 3) "Box.__init__" [.ref st.length, s, .str p, .str c, .bl e] (st ++ [.ins "Box" [] []]) = .ok .non (st ++ [.ins "Box" ["source", "prints", "clears", "early"] [s, .str p, .str c, .bl e]]) := by
  rw [unf f_Binit]
  refine run_next rfl ((Ss_next (st' := st ++ [.ins "Box" [] []]) (env' := [some (.ref st.length), some s, some (.str p), some (.str c), some (.bl e)]) ?_).trans ((Ss_next (st' := st ++ [.ins "Box" [] []]) (env' := [some (.ref st.length), some s, some (.str p), some (.str c), some (.bl e)]) ?_).trans
    ((Ss_next (fld_step rfl rfl rfl rfl rfl)).trans ((Ss_next (fld_step rfl rfl rfl rfl rfl)).trans ((Ss_next (fld_step rfl rfl rfl rfl rfl)).trans ((Ss_next (fld_step rfl rfl rfl rfl rfl)).trans rfl))))))
  · unfold b_Box_init_0
    rcases hs with rfl | ⟨j, rfl, h0, h1, h2⟩
    · rfl
    · have g1 : decide (0 ≤ j) = true := decide_eq_true h0
      have g2 : decide (j ≤ 1) = true := decide_eq_true h1
      have en : ∀ st, cmpV st .notn (.int j) .non = some true := fun _ => rfl
      simp only [E_var, E_non, E_bl, E_int, E_str, E_glob, E_bin, E_neg, E_cmp, E_chain, E_and, E_or, E_not, E_ite, E_tup, E_lstF, E_lstT, E_ix, E_slc, E_attr, E_call, E_make, E_meth, E_bcall, E_bmeth, E_isin, Es_nil, Es_cons, and_one, and_two, or_one, or_two, T_and, T_or, T_not, T_cmp, T_chain, T_var, T_bl, T_attr, T_call, T_bcall, T_ix, T_isin, andT_one, andT_two, orT_one, orT_two, test_nil, test_one, S_expr, S_set, S_sett, S_setc, S_par, S_fld, S_sub, S_ret, S_retN, S_ite, S_for, S_pass, Ss_nil, Ss_cons, R.then_ok, R.of_some, List.getElem?_cons_zero, List.getElem?_cons_succ, Option.map_some, asB, ix0, ix1, ix2, ix3, ix4, c_eq, c_lt, c_ge, c_gt, c_le, v_len, v_int, beq_self_eq_true, cell_at, bindT, List.length_cons, List.length_nil, List.set_cons_succ, List.set_cons_zero, b_add, b_sub, b_mul, b_mod, b_div, b_pow18, st1, st2, st3, st4, Nat.reduceAdd, Nat.reduceLT, if_true, or_true, true_or, and_self, and_true, true_and, Int.reduceLT, Int.reduceNeg, Int.reducePow, List.map_cons, List.map_nil, List.cons_append, List.nil_append, List.replicate, Nat.sub_self, Nat.reduceSub, en, c_within, g1, g2]
      rfl
  · unfold b_Box_init_1
    have ei : ∀ st, isTs T.prog st (.bl e) ["bool"] = some true := fun _ => rfl
    simp only [E_var, E_non, E_bl, E_int, E_str, E_glob, E_bin, E_neg, E_cmp, E_chain, E_and, E_or, E_not, E_ite, E_tup, E_lstF, E_lstT, E_ix, E_slc, E_attr, E_call, E_make, E_meth, E_bcall, E_bmeth, E_isin, Es_nil, Es_cons, and_one, and_two, or_one, or_two, T_and, T_or, T_not, T_cmp, T_chain, T_var, T_bl, T_attr, T_call, T_bcall, T_ix, T_isin, andT_one, andT_two, orT_one, orT_two, test_nil, test_one, S_expr, S_set, S_sett, S_setc, S_par, S_fld, S_sub, S_ret, S_retN, S_ite, S_for, S_pass, Ss_nil, Ss_cons, R.then_ok, R.of_some, List.getElem?_cons_zero, List.getElem?_cons_succ, Option.map_some, asB, ix0, ix1, ix2, ix3, ix4, c_eq, c_lt, c_ge, c_gt, c_le, v_len, v_int, beq_self_eq_true, cell_at, bindT, List.length_cons, List.length_nil, List.set_cons_succ, List.set_cons_zero, b_add, b_sub, b_mul, b_mod, b_div, b_pow18, st1, st2, st3, st4, Nat.reduceAdd, Nat.reduceLT, if_true, or_true, true_or, and_self, and_true, true_and, Int.reduceLT, Int.reduceNeg, Int.reducePow, List.map_cons, List.map_nil, List.cons_append, List.nil_append, List.replicate, Nat.sub_self, Nat.reduceSub, c_spots (d + 1) hp, c_spots (d + 1) hc, ei]
    rfl
theorem f_mbox : T.prog.fn "_law_made_box" = some ⟨1, 1, b__law_made_box⟩ := rfl
theorem srcOk_closed {i : Int} {s : Val} (hs : SrcOk i s) : closed s = true := by
  rcases hs with rfl | ⟨j, rfl, _⟩ <;> rfl
theorem made_box (d : Nat) (i : Int) {s : Val} (hs : SrcOk i s) {p c : Str} (hp : SpV p) (hc : SpV c) (e : Bool) (st : Store) : callM T.prog (call T.prog (d + 4)) .raw "_law_made_box" [] [.tup [s, .str p, .str c, .bl e]] [] st = .ok (boxI s p c e) st := by
  refine call_raw (tp := [.pos 0]) rfl rfl ?_
  rw [unf f_mbox]
  refine run_ret rfl (Ss_ret ?_)
  unfold b__law_made_box_0
  have i0 : ∀ st, ixV st (.tup [s, .str p, .str c, .bl e]) (.int 0) = some s := fun _ => rfl
  have i1 : ∀ st, ixV st (.tup [s, .str p, .str c, .bl e]) (.int 1) = some (.str p) := fun _ => rfl
  have i2 : ∀ st, ixV st (.tup [s, .str p, .str c, .bl e]) (.int 2) = some (.str c) := fun _ => rfl
  have i3 : ∀ st, ixV st (.tup [s, .str p, .str c, .bl e]) (.int 3) = some (.bl e) := fun _ => rfl
  have em : makeM T.prog (call T.prog (d + 3)) .pure "Box" ["prints", "clears", "early"] [s] [.str p, .str c, .bl e] st = .ok (boxI s p c e) st :=
    make_new (tp := [.pos 0, .pos 1, .kw 0, .kw 1, .kw 2]) rfl rfl rfl rfl (Binit d i hs hp hc e st) (by show (closed s && true) = true; rw [srcOk_closed hs]; rfl)
  simp only [E_var, E_non, E_bl, E_int, E_str, E_glob, E_bin, E_neg, E_cmp, E_chain, E_and, E_or, E_not, E_ite, E_tup, E_lstF, E_lstT, E_ix, E_slc, E_attr, E_call, E_make, E_meth, E_bcall, E_bmeth, E_isin, Es_nil, Es_cons, and_one, and_two, or_one, or_two, T_and, T_or, T_not, T_cmp, T_chain, T_var, T_bl, T_attr, T_call, T_bcall, T_ix, T_isin, andT_one, andT_two, orT_one, orT_two, test_nil, test_one, S_expr, S_set, S_sett, S_setc, S_par, S_fld, S_sub, S_ret, S_retN, S_ite, S_for, S_pass, Ss_nil, Ss_cons, R.then_ok, R.of_some, List.getElem?_cons_zero, List.getElem?_cons_succ, Option.map_some, asB, ix0, ix1, ix2, ix3, ix4, c_eq, c_lt, c_ge, c_gt, c_le, v_len, v_int, beq_self_eq_true, cell_at, bindT, List.length_cons, List.length_nil, List.set_cons_succ, List.set_cons_zero, b_add, b_sub, b_mul, b_mod, b_div, b_pow18, st1, st2, st3, st4, Nat.reduceAdd, Nat.reduceLT, if_true, or_true, true_or, and_self, and_true, true_and, Int.reduceLT, Int.reduceNeg, Int.reducePow, List.map_cons, List.map_nil, List.cons_append, List.nil_append, List.replicate, Nat.sub_self, Nat.reduceSub, i0, i1, i2, i3, em]
/-! ### the least height -/
structure Lev where
  h : Int
  f : Int
  a : Bool
  b : Bool
def Lev.tup (l : Lev) : Val := .tup [.int l.h, .int l.f, .bl l.a, .bl l.b]
def Lev.ins (l : Lev) : Val := levI l.h l.f l.a l.b
def Lev.ok (l : Lev) : Prop := (0 ≤ l.h ∧ l.h ≤ 2) ∧ 0 ≤ l.f ∧ l.f ≤ 2
theorem levV_of {v : Val} (h : LevV v) : ∃ l : Lev, v = l.tup ∧ l.ok := by
  obtain ⟨x, f, a, b, rfl, h1, h2⟩ := h
  exact ⟨⟨x, f, a, b⟩, rfl, ⟨(by show 0 ≤ x; omega), (by show x ≤ 2; omega)⟩, (by show 0 ≤ f; omega), (by show f ≤ 2; omega)⟩
theorem levs_of : ∀ {vs : List Val}, (∀ v ∈ vs, LevV v) → ∃ ls : List Lev, vs = ls.map Lev.tup ∧ ∀ l ∈ ls, l.ok
  | [], _ => ⟨[], rfl, fun l h => (by cases h)⟩
  | v :: vs, h => by
    obtain ⟨l, rfl, h1⟩ := levV_of (h v (by simp))
    obtain ⟨ls, rfl, h2⟩ := levs_of fun v hv => h v (List.mem_cons_of_mem _ hv)
    exact ⟨l :: ls, rfl, fun x hx => by
      rcases List.mem_cons.mp hx with rfl |
                                            hx
      · exact h1
      · exact h2 x hx⟩
def heads (ls : List Lev) : List Int := (ls.filter (·.a)).map (·.h)
theorem v_sum (ns : List Int) (st : Store) : bV st "sum" [.lst (ns.map Val.int)] = some (.int ns.sum) := by
  have h : ∀ ns : List Int, intL (ns.map Val.int) = some ns := by
    intro ns
    induction ns with
    | nil => rfl
    | cons a r ih =>
      show (intL (r.map Val.int)).map _ = _
      rw [ih]; rfl
  show (((lstOf st (.lst (ns.map Val.int))).bind intL).map fun ns => Val.int ns.sum) = _
  show ((intL (ns.map Val.int)).map fun ns => Val.int ns.sum) = _
  rw [h]; rfl
theorem at_nat {xs : List Val} (i : Nat) (h : i < xs.length) : L2.atI xs (i : Int) = some xs[i] := by
  unfold L2.atI L2.ixN
  simp [h]
theorem heads_map (ls : List Lev) : (ls.map Lev.tup).filterMap (fun v => match v with | .tup (.int h :: _ :: .bl true :: _) => some (Val.int h) | _ => none) = (heads ls).map Val.int := by
  unfold heads
  induction ls with
  | nil => rfl
  | cons l r ih =>
    obtain ⟨h, f, a, b⟩ := l
    cases a
    · simpa [Lev.tup] using ih
    · simpa [Lev.tup] using ih
theorem f_low : T.prog.fn "_law_lowest" = some ⟨1, 2, b__law_lowest⟩ := rfl
theorem lowest_ok (d : Nat) (x : Val) (ls : List Lev) (hl : ls.length ≤ 100) (t b : Int) (r : List Val) (st : Store) : callM T.prog (call T.prog (d + 1)) .raw "_law_lowest" [] [.tup (x :: .lst (ls.map Lev.tup) :: .int t :: .int b :: r)] [] st = .ok (.int (t + b + 2 + (heads ls).sum)) st := by
  refine call_raw (tp := [.pos 0]) rfl rfl ?_
  rw [unf f_low]
  refine run_ret rfl (Ss_ret ?_)
  unfold b__law_lowest_0
  have i1 : ∀ st, ixV st (.tup (x :: .lst (ls.map Lev.tup) :: .int t :: .int b :: r)) (.int 1) = some (.lst (ls.map Lev.tup)) := fun st => at_nat (xs := x :: .lst (ls.map Lev.tup) :: .int t :: .int b :: r) 1 (by simp only [List.length_cons]; omega)
  have i2 : ∀ st, ixV st (.tup (x :: .lst (ls.map Lev.tup) :: .int t :: .int b :: r)) (.int 2) = some (.int t) := fun st => at_nat (xs := x :: .lst (ls.map Lev.tup) :: .int t :: .int b :: r) 2 (by simp only [List.length_cons]; omega)
  have i3 : ∀ st, ixV st (.tup (x :: .lst (ls.map Lev.tup) :: .int t :: .int b :: r)) (.int 3) = some (.int b) := fun st => at_nat (xs := x :: .lst (ls.map Lev.tup) :: .int t :: .int b :: r) 3 (by simp only [List.length_cons]; omega)
  generalize hz : (Val.tup (x :: .lst (ls.map Lev.tup) :: .int t :: .int b :: r)) = z at *
  have hsrc : srcE T.prog (call T.prog d) .seq [(.ix (.var 0) (.int 1))] [some z, none] st = .ok (ls.map Lev.tup, []) st := by
    unfold srcE
    simp only [E_var, E_non, E_bl, E_int, E_str, E_glob, E_bin, E_neg, E_cmp, E_chain, E_and, E_or, E_not, E_ite, E_tup, E_lstF, E_lstT, E_ix, E_slc, E_attr, E_call, E_make, E_meth, E_bcall, E_bmeth, E_isin, Es_nil, Es_cons, and_one, and_two, or_one, or_two, T_and, T_or, T_not, T_cmp, T_chain, T_var, T_bl, T_attr, T_call, T_bcall, T_ix, T_isin, andT_one, andT_two, orT_one, orT_two, test_nil, test_one, S_expr, S_set, S_sett, S_setc, S_par, S_fld, S_sub, S_ret, S_retN, S_ite, S_for, S_pass, Ss_nil, Ss_cons, R.then_ok, R.of_some, List.getElem?_cons_zero, List.getElem?_cons_succ, Option.map_some, asB, ix0, ix1, ix2, ix3, ix4, c_eq, c_lt, c_ge, c_gt, c_le, v_len, v_int, beq_self_eq_true, cell_at, bindT, List.length_cons, List.length_nil, List.set_cons_succ, List.set_cons_zero, b_add, b_sub, b_mul, b_mod, b_div, b_pow18, st1, st2, st3, st4, Nat.reduceAdd, Nat.reduceLT, if_true, or_true, true_or, and_self, and_true, true_and, Int.reduceLT, Int.reduceNeg, Int.reducePow, List.map_cons, List.map_nil, List.cons_append, List.nil_append, List.replicate, Nat.sub_self, Nat.reduceSub, i1]
    rfl
  have turn : ∀ v ∈ ls.map Lev.tup, turnF T.prog (call T.prog d) (.v 1) (.ix (.var 1) (.int 0)) [(.ix (.var 1) (.int 2))] [some z, none] v st = .ok (match v with | .tup (.int h :: _ :: .bl true :: _) => some (.int h) | _ => none) st := by
    intro v hv
    obtain ⟨l, _, rfl⟩ := List.mem_map.mp hv
    obtain ⟨h, f, a, b⟩ := l
    cases a <;> rfl
  have hc := comp_ok (by rw [List.length_map]; show _ ≤ (2 ^ 24 : Nat); omega) (comp_pure turn [])
  have hf := heads_map ls
  rw [List.nil_append, hf] at hc
  simp only [E_var, E_non, E_bl, E_int, E_str, E_glob, E_bin, E_neg, E_cmp, E_chain, E_and, E_or, E_not, E_ite, E_tup, E_lstF, E_lstT, E_ix, E_slc, E_attr, E_call, E_make, E_meth, E_bcall, E_bmeth, E_isin, Es_nil, Es_cons, and_one, and_two, or_one, or_two, T_and, T_or, T_not, T_cmp, T_chain, T_var, T_bl, T_attr, T_call, T_bcall, T_ix, T_isin, andT_one, andT_two, orT_one, orT_two, test_nil, test_one, S_expr, S_set, S_sett, S_setc, S_par, S_fld, S_sub, S_ret, S_retN, S_ite, S_for, S_pass, Ss_nil, Ss_cons, R.then_ok, R.of_some, List.getElem?_cons_zero, List.getElem?_cons_succ, Option.map_some, asB, ix0, ix1, ix2, ix3, ix4, c_eq, c_lt, c_ge, c_gt, c_le, v_len, v_int, beq_self_eq_true, cell_at, bindT, List.length_cons, List.length_nil, List.set_cons_succ, List.set_cons_zero, b_add, b_sub, b_mul, b_mod, b_div, b_pow18, st1, st2, st3, st4, Nat.reduceAdd, Nat.reduceLT, if_true, or_true, true_or, and_self, and_true, true_and, Int.reduceLT, Int.reduceNeg, Int.reducePow, List.map_cons, List.map_nil, List.cons_append, List.nil_append, List.replicate, Nat.sub_self, Nat.reduceSub, i2, i3, E_comp, hsrc, hc, v_sum]
end L_k11
end

section
set_option Elab.async false
set_option linter.all false
set_option maxRecDepth 100000
set_option maxHeartbeats
                         1000000
namespace L_k11
open PySem Mp
variable {XS : List SO}
/-! ### what is drawn for a book -/
structure Bx where
  s : Val
  p : Str
  c : Str
  e : Bool
def Bx.tup (x : Bx) : Val := .tup [x.s, .str x.p, .str x.c, .bl x.e]
def Bx.ins (x : Bx) : Val := boxI x.s x.p x.c x.e
def Bx.ok (i : Int) (x : Bx) : Prop := SrcOk i x.s ∧ SpV x.p ∧ SpV x.c
theorem bxs_of : ∀ {is : List Val} {vs : List Val}, All2 (fun i v => ∃ j, i = Val.int j ∧ BoxV j v) is vs → ∃ bs : List Bx, vs = bs.map Bx.tup ∧ All2 (fun i b => ∃ j, i = Val.int j ∧ Bx.ok j b) is bs
  | _, _, .nil => ⟨[], rfl, .nil⟩
  | _, _, .cons h t => by
    obtain ⟨j, rfl, s, p, c, e, rfl, h1, h2, h3⟩ := h
    obtain ⟨bs, rfl, h4⟩ := bxs_of t
    exact ⟨⟨s, p, c, e⟩ :: bs, rfl, .cons ⟨j, rfl, h1, h2, h3⟩ h4⟩
theorem levels_drawn (d : Nat) (most bz sp : Int) (h1 : 0 < most) (h2 : most ≤ 4) {st : Store} (hb : Bag XS st) : ∃ (ls : List Lev) (st' : Store), evalS T.prog (call T.prog (d + 3)) b__law_spec_0 [some (.ref 0), some (.int most), some (.int bz), some (.int sp), none, none, none, none, none, none, none, none] st = .ok (.next [some (.ref 0), some (.int most), some (.int bz), some (.int sp), some (.lst (ls.map Lev.tup)), none, none, none, none, none, none, none]) st' ∧ (∀ l ∈ ls, l.ok) ∧ 1 ≤ ls.length ∧ (ls.length : Int) ≤ most ∧ Bag XS st' := by
  obtain ⟨r, st1', e1, r0, r1, hb1⟩ := c_take (d + 2) most h1 (by omega) hb
  have turn : ∀ x ∈ ((List.range (1 + r).toNat).map fun (k : Nat) => Val.int (0 + k)), ∀ st, Bag XS st → ∃ y st', turnF T.prog (call T.prog (d + 3)) (.v 5) (.call .raw "_law_level" [(.var 0)] [] []) [] [some (.ref 0), some (.int most), some (.int bz), some (.int sp), none, none, none, none, none, none, none, none] x st = .ok (some y) st' ∧ LevV y ∧ Bag XS st' := by
    intro x _ st hb
    obtain ⟨v, st', e, hv, hb'⟩ := level_ok d hb
    refine ⟨v, st', ?_, hv, hb'⟩
    unfold turnF
    simp only [E_var, E_non, E_bl, E_int, E_str, E_glob, E_bin, E_neg, E_cmp, E_chain, E_and, E_or, E_not, E_ite, E_tup, E_lstF, E_lstT, E_ix, E_slc, E_attr, E_call, E_make, E_meth, E_bcall, E_bmeth, E_isin, Es_nil, Es_cons, and_one, and_two, or_one, or_two, T_and, T_or, T_not, T_cmp, T_chain, T_var, T_bl, T_attr, T_call, T_bcall, T_ix, T_isin, andT_one, andT_two, orT_one, orT_two, test_nil, test_one, S_expr, S_set, S_sett, S_setc, S_par, S_fld, S_sub, S_ret, S_retN, S_ite, S_for, S_pass, Ss_nil, Ss_cons, R.then_ok, R.of_some, List.getElem?_cons_zero, List.getElem?_cons_succ, Option.map_some, asB, ix0, ix1, ix2, ix3, ix4, c_eq, c_lt, c_ge, c_gt, c_le, v_len, v_int, beq_self_eq_true, cell_at, bindT, List.length_cons, List.length_nil, List.set_cons_succ, List.set_cons_zero, b_add, b_sub, b_mul, b_mod, b_div, b_pow18, st1, st2, st3, st4, Nat.reduceAdd, Nat.reduceLT, if_true, or_true, true_or, and_self, and_true, true_and, Int.reduceLT, Int.reduceNeg, Int.reducePow, List.map_cons, List.map_nil, List.cons_append, List.nil_append, List.replicate, Nat.sub_self, Nat.reduceSub, slots, wipeE, e]
  obtain ⟨ys, st2', e2, ha, hb2⟩ := comp_all turn [] st1' hb1
  obtain ⟨ls, rfl, hok⟩ := levs_of (fun v hv => (ha.right v hv).elim fun _ h => h.2)
  have hl := ha.len
  rw [List.length_map, List.length_map, List.length_range] at hl
  refine ⟨ls, st2', ?_, hok, by omega, by omega, hb2⟩
  have hc := comp_ok (by rw [List.length_map, List.length_range]; show _ ≤ (2 ^ 24 : Nat); omega) e2
  have hsrc : srcE T.prog (call T.prog (d + 3)) .range1 [(.bin .add (.int 1) (.call .raw "_law_take" [(.var 0), (.var 1)] [] []))] [some (.ref 0), some (.int most), some (.int bz), some (.int sp), none, none, none, none, none, none, none, none] st = .ok ((List.range (1 + r).toNat).map fun (k : Nat) => Val.int (0 + k), []) st1' := by
    unfold srcE
    simp only [E_var, E_non, E_bl, E_int, E_str, E_glob, E_bin, E_neg, E_cmp, E_chain, E_and, E_or, E_not, E_ite, E_tup, E_lstF, E_lstT, E_ix, E_slc, E_attr, E_call, E_make, E_meth, E_bcall, E_bmeth, E_isin, Es_nil, Es_cons, and_one, and_two, or_one, or_two, T_and, T_or, T_not, T_cmp, T_chain, T_var, T_bl, T_attr, T_call, T_bcall, T_ix, T_isin, andT_one, andT_two, orT_one, orT_two, test_nil, test_one, S_expr, S_set, S_sett, S_setc, S_par, S_fld, S_sub, S_ret, S_retN, S_ite, S_for, S_pass, Ss_nil, Ss_cons, R.then_ok, R.of_some, List.getElem?_cons_zero, List.getElem?_cons_succ, Option.map_some, asB, ix0, ix1, ix2, ix3, ix4, c_eq, c_lt, c_ge, c_gt, c_le, v_len, v_int, beq_self_eq_true, cell_at, bindT, List.length_cons, List.length_nil, List.set_cons_succ, List.set_cons_zero, b_add, b_sub, b_mul, b_mod, b_div, b_pow18, st1, st2, st3, st4, Nat.reduceAdd, Nat.reduceLT, if_true, or_true, true_or, and_self, and_true, true_and, Int.reduceLT, Int.reduceNeg, Int.reducePow, List.map_cons, List.map_nil, List.cons_append, List.nil_append, List.replicate, Nat.sub_self, Nat.reduceSub, e1, srcV, rng1S]
    rw [if_pos (by omega)]; rfl
  unfold b__law_spec_0
  simp only [E_var, E_non, E_bl, E_int, E_str, E_glob, E_bin, E_neg, E_cmp, E_chain, E_and, E_or, E_not, E_ite, E_tup, E_lstF, E_lstT, E_ix, E_slc, E_attr, E_call, E_make, E_meth, E_bcall, E_bmeth, E_isin, Es_nil, Es_cons, and_one, and_two, or_one, or_two, T_and, T_or, T_not, T_cmp, T_chain, T_var, T_bl, T_attr, T_call, T_bcall, T_ix, T_isin, andT_one, andT_two, orT_one, orT_two, test_nil, test_one, S_expr, S_set, S_sett, S_setc, S_par, S_fld, S_sub, S_ret, S_retN, S_ite, S_for, S_pass, Ss_nil, Ss_cons, R.then_ok, R.of_some, List.getElem?_cons_zero, List.getElem?_cons_succ, Option.map_some, asB, ix0, ix1, ix2, ix3, ix4, c_eq, c_lt, c_ge, c_gt, c_le, v_len, v_int, beq_self_eq_true, cell_at, bindT, List.length_cons, List.length_nil, List.set_cons_succ, List.set_cons_zero, b_add, b_sub, b_mul, b_mod, b_div, b_pow18, st1, st2, st3, st4, Nat.reduceAdd, Nat.reduceLT, if_true, or_true, true_or, and_self, and_true, true_and, Int.reduceLT, Int.reduceNeg, Int.reducePow, List.map_cons, List.map_nil, List.cons_append, List.nil_append, List.replicate, Nat.sub_self, Nat.reduceSub, E_comp, hsrc, hc]
theorem kinds_of {v : Val} (h : v ∈ [Val.lst [.int 1], .lst [.int 1], .lst [.int 1, .int 2], .lst [.int 2]]) : ∃ ks : List Int, v = .lst (ks.map Val.int) ∧ (ks = [1] ∨ ks = [1, 2] ∨ ks = [2]) := by
  simp only [List.mem_cons, List.not_mem_nil, or_false] at h
  rcases h with h | h | h | h
  · exact ⟨[1], h, .inl rfl⟩
  · exact ⟨[1], h, .inl rfl⟩
  · exact ⟨[1, 2], h, .inr (.inl rfl)⟩
  · exact ⟨[2], h, .inr (.inr rfl)⟩
abbrev BxL (bs : List Bx) : Prop := All2 (fun i b => ∃ j, i = Val.int j ∧ Bx.ok j b) ((List.range bs.length).map fun (k : Nat) => Val.int (0 + k)) bs
theorem boxes_drawn (d : Nat) (most bz sp : Int) (h1 : 0 ≤ bz) (h2 : bz ≤ 3) (ls : List Lev) (hl : ls.length ≤ 4) (o5 : Option Val) (t b : Val) (k : Val) {st : Store} (hb : Bag XS st) : ∃ (bs : List Bx) (st' : Store), evalS T.prog (call T.prog (d + 3)) b__law_spec_3 [some (.ref 0), some (.int most), some (.int bz), some (.int sp), some (.lst (ls.map Lev.tup)), o5, some t, some b, some k, none, none, none] st = .ok (.next [some (.ref 0), some (.int most), some (.int bz), some (.int sp), some (.lst (ls.map Lev.tup)), o5, some t, some b, some k, some (.lst (bs.map Bx.tup)), none, none]) st' ∧ BxL bs ∧ (bs.length : Int) ≤ bz ∧ Bag XS st' := by
  obtain ⟨r, st1', e1, r0, r1, hb1⟩ := c_take (d + 2) (bz + 1) (by omega) (by omega) hb
  have turn : ∀ x ∈ ((List.range r.toNat).map fun (k : Nat) => Val.int (0 + k)), ∀ st, Bag XS st → ∃ y st', turnF T.prog (call T.prog (d + 3)) (.v 10) (.call .raw "_law_box" [(.var 0), (.var 10), (.bcall "len" [(.var 4)])] [] []) [] [some (.ref 0), some (.int most), some (.int bz), some (.int sp), some (.lst (ls.map Lev.tup)), o5, some t, some b, some k, none, none, none] x st = .ok (some y) st' ∧ (∃ j, x = Val.int j ∧ BoxV j y) ∧ Bag XS st' := by
    intro x hx st hb
    obtain ⟨m, _, rfl⟩ := List.mem_map.mp hx
    obtain ⟨v, st', e, hv, hb'⟩ := box_ok d (0 + (m : Int)) ((ls.map Lev.tup).length : Int) (by omega) (by rw [List.length_map]; omega) hb
    refine ⟨v, st', ?_, ⟨_, rfl, hv⟩, hb'⟩
    unfold turnF
    simp only [E_var, E_non, E_bl, E_int, E_str, E_glob, E_bin, E_neg, E_cmp, E_chain, E_and, E_or, E_not, E_ite, E_tup, E_lstF, E_lstT, E_ix, E_slc, E_attr, E_call, E_make, E_meth, E_bcall, E_bmeth, E_isin, Es_nil, Es_cons, and_one, and_two, or_one, or_two, T_and, T_or, T_not, T_cmp, T_chain, T_var, T_bl, T_attr, T_call, T_bcall, T_ix, T_isin, andT_one, andT_two, orT_one, orT_two, test_nil, test_one, S_expr, S_set, S_sett, S_setc, S_par, S_fld, S_sub, S_ret, S_retN, S_ite, S_for, S_pass, Ss_nil, Ss_cons, R.then_ok, R.of_some, List.getElem?_cons_zero, List.getElem?_cons_succ, Option.map_some, asB, ix0, ix1, ix2, ix3, ix4, c_eq, c_lt, c_ge, c_gt, c_le, v_len, v_int, beq_self_eq_true, cell_at, bindT, List.length_cons, List.length_nil, List.set_cons_succ, List.set_cons_zero, b_add, b_sub, b_mul, b_mod, b_div, b_pow18, st1, st2, st3, st4, Nat.reduceAdd, Nat.reduceLT, if_true, or_true, true_or, and_self, and_true, true_and, Int.reduceLT, Int.reduceNeg, Int.reducePow, List.map_cons, List.map_nil, List.cons_append, List.nil_append, List.replicate, Nat.sub_self, Nat.reduceSub, slots, wipeE, e]
  obtain ⟨ys, st2', e2, ha, hb2⟩ := comp_all turn [] st1' hb1
  have hlen := ha.len
  rw [List.length_map, List.length_range] at hlen
  obtain ⟨bs, rfl, hok⟩ := bxs_of ha
  rw [List.length_map] at hlen
  refine ⟨bs, st2', ?_, by unfold BxL; rw [← hlen]; exact hok, by omega, hb2⟩
  have hc := comp_ok (by rw [List.length_map, List.length_range]; show _ ≤ (2 ^ 24 : Nat); omega) e2
  have hsrc : srcE T.prog (call T.prog (d + 3)) .range1 [(.call .raw "_law_take" [(.var 0), (.bin .add (.var 2) (.int 1))] [] [])] [some (.ref 0), some (.int most), some (.int bz), some (.int sp), some (.lst (ls.map Lev.tup)), o5, some t, some b, some k, none, none, none] st = .ok ((List.range r.toNat).map fun (k : Nat) => Val.int (0 + k), []) st1' := by
    unfold srcE
    simp only [E_var, E_non, E_bl, E_int, E_str, E_glob, E_bin, E_neg, E_cmp, E_chain, E_and, E_or, E_not, E_ite, E_tup, E_lstF, E_lstT, E_ix, E_slc, E_attr, E_call, E_make, E_meth, E_bcall, E_bmeth, E_isin, Es_nil, Es_cons, and_one, and_two, or_one, or_two, T_and, T_or, T_not, T_cmp, T_chain, T_var, T_bl, T_attr, T_call, T_bcall, T_ix, T_isin, andT_one, andT_two, orT_one, orT_two, test_nil, test_one, S_expr, S_set, S_sett, S_setc, S_par, S_fld, S_sub, S_ret, S_retN, S_ite, S_for, S_pass, Ss_nil, Ss_cons, R.then_ok, R.of_some, List.getElem?_cons_zero, List.getElem?_cons_succ, Option.map_some, asB, ix0, ix1, ix2, ix3, ix4, c_eq, c_lt, c_ge, c_gt, c_le, v_len, v_int, beq_self_eq_true, cell_at, bindT, List.length_cons, List.length_nil, List.set_cons_succ, List.set_cons_zero, b_add, b_sub, b_mul, b_mod, b_div, b_pow18, st1, st2, st3, st4, Nat.reduceAdd, Nat.reduceLT, if_true, or_true, true_or, and_self, and_true, true_and, Int.reduceLT, Int.reduceNeg, Int.reducePow, List.map_cons, List.map_nil, List.cons_append, List.nil_append, List.replicate, Nat.sub_self, Nat.reduceSub, e1, srcV, rng1S]
    rw [if_pos (by omega)]; rfl
  unfold b__law_spec_3
  simp only [E_var, E_non, E_bl, E_int, E_str, E_glob, E_bin, E_neg, E_cmp, E_chain, E_and, E_or, E_not, E_ite, E_tup, E_lstF, E_lstT, E_ix, E_slc, E_attr, E_call, E_make, E_meth, E_bcall, E_bmeth, E_isin, Es_nil, Es_cons, and_one, and_two, or_one, or_two, T_and, T_or, T_not, T_cmp, T_chain, T_var, T_bl, T_attr, T_call, T_bcall, T_ix, T_isin, andT_one, andT_two, orT_one, orT_two, test_nil, test_one, S_expr, S_set, S_sett, S_setc, S_par, S_fld, S_sub, S_ret, S_retN, S_ite, S_for, S_pass, Ss_nil, Ss_cons, R.then_ok, R.of_some, List.getElem?_cons_zero, List.getElem?_cons_succ, Option.map_some, asB, ix0, ix1, ix2, ix3, ix4, c_eq, c_lt, c_ge, c_gt, c_le, v_len, v_int, beq_self_eq_true, cell_at, bindT, List.length_cons, List.length_nil, List.set_cons_succ, List.set_cons_zero, b_add, b_sub, b_mul, b_mod, b_div, b_pow18, st1, st2, st3, st4, Nat.reduceAdd, Nat.reduceLT, if_true, or_true, true_or, and_self, and_true, true_and, Int.reduceLT, Int.reduceNeg, Int.reducePow, List.map_cons, List.map_nil, List.cons_append, List.nil_append, List.replicate, Nat.sub_self, Nat.reduceSub, E_comp, hsrc, hc]
structure Sp where
  ht : Int
  ls : List Lev
  t : Int
  b : Int
  ks : List Int
  lead : Int
  hold : Int
  bs : List Bx
def Sp.val (s : Sp) : Val := .tup [.int s.ht, .lst (s.ls.map Lev.tup), .int s.t, .int s.b, .lst (s.ks.map Val.int), .int s.lead, .int s.hold, .lst (s.bs.map Bx.tup)]
structure Sp.ok (s : Sp) : Prop where
  ls : ∀ l ∈ s.ls, l.ok
  l1 : 1 ≤ s.ls.length
  l4 : s.ls.length ≤ 4
  t : 0 ≤ s.t ∧ s.t ≤ 2
  b : 0 ≤ s.b ∧ s.b ≤ 2
  ks : s.ks = [1] ∨ s.ks = [1, 2] ∨ s.ks = [2]
  lead : 0 ≤ s.lead ∧ s.lead ≤ 2
  hold : 0 ≤ s.hold ∧ s.hold ≤ 2
  bs : BxL s.bs
  b3 : s.bs.length ≤ 3
  ht : s.t + s.b + 2 + (heads s.ls).sum ≤ s.ht ∧ s.ht ≤ s.t + s.b + 2 + (heads s.ls).sum + 20
theorem f_spec : T.prog.fn "_law_spec" = some ⟨4, 12, b__law_spec⟩ := rfl
theorem tup_tail (a : Val) (r : List Val) (hr : r.length ≤ 50) (st : Store) : slcV st (.tup (a :: r)) (some 1) none = some (.tup r) := by
  show (if HT.sIx (a :: r).length 0 (some 1) = 0 ∧ HT.sIx (a :: r).length (a :: r).length none = (a :: r).length then none else some (Val.tup (cut (a :: r) (some 1) none)) : Option Val) = _
  have e1 : HT.sIx (a :: r).length 0 (some 1) = 1 := by
    unfold HT.sIx
    simp
  have e2 : HT.sIx (a :: r).length (a :: r).length none = (a :: r).length := rfl
  unfold cut
  rw [e1, e2]
  simp
theorem tup_add (a : Val) (r : List Val) (hr : r.length ≤ 50) (st : Store) : binV st .add (.tup [a]) (.tup r) = some (.tup (a :: r)) := by
  have h : 1 + r.length ≤ sizeLine := by show _ ≤ (2 ^ 24 : Nat); omega
  simp [binV, h]
theorem spec_ok (d : Nat) (most bz sp : Int) (h1 : 0 < most) (h2 : most ≤ 4) (h3 : 0 ≤ bz) (h4 : bz ≤ 3) (h5 : 0 < sp) (h6 : sp ≤ 20) {st : Store} (hb : Bag XS st) : ∃ (s : Sp) (st' : Store), callM T.prog (call T.prog (d + 4)) .raw "_law_spec" [] [.ref 0, .int most, .int bz, .int sp] [] st = .ok s.val st' ∧ s.ok ∧ Bag XS st' := by
  obtain ⟨ls, st1', e0, hls, hl1, hl2, hb1⟩ := levels_drawn d most bz sp h1 h2 hb
  obtain ⟨v1, st2', e1, m1, hb2⟩ := pick_ok (d + 1) [.int 0, .int 1, .int 1, .int 2] (by decide) (by decide) hb1
  obtain ⟨v2, st3', e2, m2, hb3⟩ := pick_ok (d + 1) [.int 1, .int 0, .int 1, .int 2] (by decide) (by decide) hb2
  obtain ⟨t, rfl, ht⟩ := one_of m1
  obtain ⟨b, rfl, hbb⟩ := one_of m2
  obtain ⟨v3, st4', e3, m3, hb4⟩ := pick_ok (d + 1) [.lst [.int 1], .lst [.int 1], .lst [.int 1, .int 2], .lst [.int 2]] (by decide) (by decide) hb3
  obtain ⟨ks, rfl, hks⟩ := kinds_of m3
  obtain ⟨bs, st5', e4, hbs, hbl, hb5⟩ := boxes_drawn d most bz sp h3 h4 ls (by omega) none (.int t) (.int b) (.lst (ks.map Val.int)) hb4
  obtain ⟨r1, st6', e5, r10, r11, hb6⟩ := c_take (d + 2) 3 (by decide) (by decide) hb5
  obtain ⟨r2, st7', e6, r20, r21, hb7⟩ := c_take (d + 2) 3 (by decide) (by decide) hb6
  obtain ⟨r3, st8', e7, r30, r31, hb8⟩ := c_take (d + 2) sp h5 (by omega) hb7
  refine ⟨⟨t + b + 2 + (heads ls).sum + r3, ls, t, b, ks, r1, r2, bs⟩, st8', call_raw (tp := [.pos 0, .pos 1, .pos 2, .pos 3]) rfl rfl ?_, ⟨hls, hl1, (by show ls.length ≤ 4; omega), (by show 0 ≤ t ∧ t ≤ 2; omega), (by show 0 ≤ b ∧ b ≤ 2; omega), hks, (by show 0 ≤ r1 ∧ r1 ≤ 2; omega), (by show 0 ≤ r2 ∧ r2 ≤ 2; omega), hbs, (by show bs.length ≤ 3; omega), (by show t + b + 2 + (heads ls).sum ≤ t + b + 2 + (heads ls).sum + r3 ∧ t + b + 2 + (heads ls).sum + r3 ≤ t + b + 2 + (heads ls).sum + 20; omega)⟩, hb8⟩
  rw [unf f_spec]
  have q1 : evalS T.prog (call T.prog (d + 3)) b__law_spec_1 [some (.ref 0), some (.int most), some (.int bz), some (.int sp), some (.lst (ls.map Lev.tup)), none, none, none, none, none, none, none] st1' = .ok (.next [some (.ref 0), some (.int most), some (.int bz), some (.int sp), some (.lst (ls.map Lev.tup)), none, some (.int t), some (.int b), none, none, none, none]) st3' := by
    unfold b__law_spec_1
    simp only [E_var, E_non, E_bl, E_int, E_str, E_glob, E_bin, E_neg, E_cmp, E_chain, E_and, E_or, E_not, E_ite, E_tup, E_lstF, E_lstT, E_ix, E_slc, E_attr, E_call, E_make, E_meth, E_bcall, E_bmeth, E_isin, Es_nil, Es_cons, and_one, and_two, or_one, or_two, T_and, T_or, T_not, T_cmp, T_chain, T_var, T_bl, T_attr, T_call, T_bcall, T_ix, T_isin, andT_one, andT_two, orT_one, orT_two, test_nil, test_one, S_expr, S_set, S_sett, S_setc, S_par, S_fld, S_sub, S_ret, S_retN, S_ite, S_for, S_pass, Ss_nil, Ss_cons, R.then_ok, R.of_some, List.getElem?_cons_zero, List.getElem?_cons_succ, Option.map_some, asB, ix0, ix1, ix2, ix3, ix4, c_eq, c_lt, c_ge, c_gt, c_le, v_len, v_int, beq_self_eq_true, cell_at, bindT, List.length_cons, List.length_nil, List.set_cons_succ, List.set_cons_zero, b_add, b_sub, b_mul, b_mod, b_div, b_pow18, st1, st2, st3, st4, Nat.reduceAdd, Nat.reduceLT, if_true, or_true, true_or, and_self, and_true, true_and, Int.reduceLT, Int.reduceNeg, Int.reducePow, List.map_cons, List.map_nil, List.cons_append, List.nil_append, List.replicate, Nat.sub_self, Nat.reduceSub, e1, e2]
  have q2 : evalS T.prog (call T.prog (d + 3)) b__law_spec_2 [some (.ref 0), some (.int most), some (.int bz), some (.int sp), some (.lst (ls.map Lev.tup)), none, some (.int t), some (.int b), none, none, none, none] st3' = .ok (.next [some (.ref 0), some (.int most), some (.int bz), some (.int sp), some (.lst (ls.map Lev.tup)), none, some (.int t), some (.int b), some (.lst (ks.map Val.int)), none, none, none]) st4' := by
    unfold b__law_spec_2
    simp only [E_var, E_non, E_bl, E_int, E_str, E_glob, E_bin, E_neg, E_cmp, E_chain, E_and, E_or, E_not, E_ite, E_tup, E_lstF, E_lstT, E_ix, E_slc, E_attr, E_call, E_make, E_meth, E_bcall, E_bmeth, E_isin, Es_nil, Es_cons, and_one, and_two, or_one, or_two, T_and, T_or, T_not, T_cmp, T_chain, T_var, T_bl, T_attr, T_call, T_bcall, T_ix, T_isin, andT_one, andT_two, orT_one, orT_two, test_nil, test_one, S_expr, S_set, S_sett, S_setc, S_par, S_fld, S_sub, S_ret, S_retN, S_ite, S_for, S_pass, Ss_nil, Ss_cons, R.then_ok, R.of_some, List.getElem?_cons_zero, List.getElem?_cons_succ, Option.map_some, asB, ix0, ix1, ix2, ix3, ix4, c_eq, c_lt, c_ge, c_gt, c_le, v_len, v_int, beq_self_eq_true, cell_at, bindT, List.length_cons, List.length_nil, List.set_cons_succ, List.set_cons_zero, b_add, b_sub, b_mul, b_mod, b_div, b_pow18, st1, st2, st3, st4, Nat.reduceAdd, Nat.reduceLT, if_true, or_true, true_or, and_self, and_true, true_and, Int.reduceLT, Int.reduceNeg, Int.reducePow, List.map_cons, List.map_nil, List.cons_append, List.nil_append, List.replicate, Nat.sub_self, Nat.reduceSub, e3]
  have q4 : evalS T.prog (call T.prog (d + 3)) b__law_spec_4 [some (.ref 0), some (.int most), some (.int bz), some (.int sp), some (.lst (ls.map Lev.tup)), none, some (.int t), some (.int b), some (.lst (ks.map Val.int)), some (.lst (bs.map Bx.tup)), none, none] st5' = .ok (.next [some (.ref 0), some (.int most), some (.int bz), some (.int sp), some (.lst (ls.map Lev.tup)), none, some (.int t), some (.int b), some (.lst (ks.map Val.int)), some (.lst (bs.map Bx.tup)), none, some (.tup [.int 0, .lst (ls.map Lev.tup), .int t, .int b, .lst (ks.map Val.int), .int r1, .int r2, .lst (bs.map Bx.tup)])]) st7' := by
    unfold b__law_spec_4
    simp only [E_var, E_non, E_bl, E_int, E_str, E_glob, E_bin, E_neg, E_cmp, E_chain, E_and, E_or, E_not, E_ite, E_tup, E_lstF, E_lstT, E_ix, E_slc, E_attr, E_call, E_make, E_meth, E_bcall, E_bmeth, E_isin, Es_nil, Es_cons, and_one, and_two, or_one, or_two, T_and, T_or, T_not, T_cmp, T_chain, T_var, T_bl, T_attr, T_call, T_bcall, T_ix, T_isin, andT_one, andT_two, orT_one, orT_two, test_nil, test_one, S_expr, S_set, S_sett, S_setc, S_par, S_fld, S_sub, S_ret, S_retN, S_ite, S_for, S_pass, Ss_nil, Ss_cons, R.then_ok, R.of_some, List.getElem?_cons_zero, List.getElem?_cons_succ, Option.map_some, asB, ix0, ix1, ix2, ix3, ix4, c_eq, c_lt, c_ge, c_gt, c_le, v_len, v_int, beq_self_eq_true, cell_at, bindT, List.length_cons, List.length_nil, List.set_cons_succ, List.set_cons_zero, b_add, b_sub, b_mul, b_mod, b_div, b_pow18, st1, st2, st3, st4, Nat.reduceAdd, Nat.reduceLT, if_true, or_true, true_or, and_self, and_true, true_and, Int.reduceLT, Int.reduceNeg, Int.reducePow, List.map_cons, List.map_nil, List.cons_append, List.nil_append, List.replicate, Nat.sub_self, Nat.reduceSub, e5, e6]
  have q5 : evalS T.prog (call T.prog (d + 3)) b__law_spec_5 [some (.ref 0), some (.int most), some (.int bz), some (.int sp), some (.lst (ls.map Lev.tup)), none, some (.int t), some (.int b), some (.lst (ks.map Val.int)), some (.lst (bs.map Bx.tup)), none, some (.tup [.int 0, .lst (ls.map Lev.tup), .int t, .int b, .lst (ks.map Val.int), .int r1, .int r2, .lst (bs.map Bx.tup)])] st7' = .ok (.ret (Sp.val ⟨t + b + 2 + (heads ls).sum + r3, ls, t, b, ks, r1, r2, bs⟩)) st8' := by
    unfold b__law_spec_5
    have el := fun st => lowest_ok (d + 2) (.int 0) ls (by omega) t b [.lst (ks.map Val.int), .int r1, .int r2, .lst (bs.map Bx.tup)] st
    have es := fun st => tup_tail (.int 0) [.lst (ls.map Lev.tup), .int t, .int b, .lst (ks.map Val.int), .int r1, .int r2, .lst (bs.map Bx.tup)] (by show 7 ≤ 50; decide) st
    have ea := fun st => tup_add (.int (t + b + 2 + (heads ls).sum + r3)) [.lst (ls.map Lev.tup), .int t, .int b, .lst (ks.map Val.int), .int r1, .int r2, .lst (bs.map Bx.tup)] (by show 7 ≤ 50; decide) st
    simp only [E_var, E_non, E_bl, E_int, E_str, E_glob, E_bin, E_neg, E_cmp, E_chain, E_and, E_or, E_not, E_ite, E_tup, E_lstF, E_lstT, E_ix, E_slc, E_attr, E_call, E_make, E_meth, E_bcall, E_bmeth, E_isin, Es_nil, Es_cons, and_one, and_two, or_one, or_two, T_and, T_or, T_not, T_cmp, T_chain, T_var, T_bl, T_attr, T_call, T_bcall, T_ix, T_isin, andT_one, andT_two, orT_one, orT_two, test_nil, test_one, S_expr, S_set, S_sett, S_setc, S_par, S_fld, S_sub, S_ret, S_retN, S_ite, S_for, S_pass, Ss_nil, Ss_cons, R.then_ok, R.of_some, List.getElem?_cons_zero, List.getElem?_cons_succ, Option.map_some, asB, ix0, ix1, ix2, ix3, ix4, c_eq, c_lt, c_ge, c_gt, c_le, v_len, v_int, beq_self_eq_true, cell_at, bindT, List.length_cons, List.length_nil, List.set_cons_succ, List.set_cons_zero, b_add, b_sub, b_mul, b_mod, b_div, b_pow18, st1, st2, st3, st4, Nat.reduceAdd, Nat.reduceLT, if_true, or_true, true_or, and_self, and_true, true_and, Int.reduceLT, Int.reduceNeg, Int.reducePow, List.map_cons, List.map_nil, List.cons_append, List.nil_append, List.replicate, Nat.sub_self, Nat.reduceSub, el, e7, partOf, es, ea]
    rfl
  exact run_ret rfl ((Ss_next e0).trans ((Ss_next q1).trans ((Ss_next q2).trans ((Ss_next e4).trans ((Ss_next q4).trans (Ss_ret q5))))))
end L_k11
end

section
set_option Elab.async false
set_option linter.all false
set_option maxRecDepth 100000
set_option maxHeartbeats
                         1000000
namespace L_k11
open PySem Mp
variable {XS : List SO}
/-! ### books made -/
theorem v_all (xs : List Val) (st : Store) : bV st "all" [.lst (xs.filterMap fun _ => some (Val.bl true))] = some (.bl true) := by
  have h : ∀ xs : List Val, boolL (xs.filterMap fun _ => some (Val.bl true)) = some (xs.map fun _ => true) := by
    intro xs
    induction xs with
    | nil => rfl
    | cons a r ih =>
      show (boolL (r.filterMap fun _ => some (Val.bl true))).map _ = _
      rw [ih]; rfl
  show ((boolL (xs.filterMap fun _ => some (Val.bl true))).map fun bs => Val.bl (bs.any id |> fun _ => bs.all id)) = _
  rw [h]
  simp
theorem fld_stepE {Φ : Cal} {env : Mp.Env} {st : Store} {c : Str} {ns : List Str} {vs : List Val} {f : Str} {e : ME} {v : Val} (h0 : env[0]? = some (some (.ref st.length))) (h1 : evalE T.prog Φ e env (st ++ [.ins c ns vs]) = .ok v (st ++ [.ins c ns vs])) (hn : decide (ns.length < 1000) = true) (h2 : T.prog.fl c f = true) (h3 : T.prog.isc c = true) :
    evalS T.prog Φ (.fld (.var 0) f e) env (st ++ [.ins c ns vs]) = .ok (.next env) (st ++ [.ins c (putV ns vs f v).1 (putV ns vs f v).2]) := by
  rw [S_fld, h1]
  show (evalE T.prog Φ (.var 0) env (st ++ [.ins c ns vs])).then_ _ = _
  rw [E_var, h0]
  show (match fldSet T.prog (st ++ [.ins c ns vs]) (.ref st.length) f v with | some st' => R.ok (Fl.next env) st' | none => .stuck) = _
  rw [fldSet_last st c ns vs f v (of_decide_eq_true hn) h2 h3]
def bookI (s : Sp) : Val := .ins "Book" ["height", "top", "bottom", "lead", "hold", "own_levels", "own_kinds", "own_boxes"] [.int s.ht, .int s.t, .int s.b, .int s.lead, .int s.hold, .lst (s.ls.map Lev.ins), .lst (s.ks.map Val.int), .lst (s.bs.map Bx.ins)]
theorem heads_le : ∀ ls : List Lev, (∀ l ∈ ls, l.ok) → 0 ≤ (heads ls).sum ∧ (heads ls).sum ≤ 2 * ls.length
  | [], _ => ⟨Int.le_refl _, Int.le_refl _⟩
  | l :: r, h => by
    obtain ⟨i1, i2⟩ := heads_le r fun x hx => h x (List.mem_cons_of_mem _ hx)
    obtain ⟨⟨h1, h2⟩, _⟩ := h l (by simp)
    unfold heads at *
    cases ha : l.a with
    | true => simp [ha]; omega
    | false => simp [ha]; omega
theorem con_get {P : Prog} {Φ : Cal} {f : Str} {a : Val} {c : Str} {ns : List Str} {vs : List Val} {st : Store} {v : Val} (h1 : insOf st a = some (c, ns, vs)) (h2 : P.isc c = true) (h3 : P.prop c f = none) (h4 : fld ns vs f = none) (h5 : P.con c f = some v) : attrM P Φ a f st = .ok v st := by
  unfold attrM
  rw [h1]
  simp only [h2, if_true, h3, h4, h5, R.of_some]
theorem fld_get {P : Prog} {Φ : Cal} {f : Str} {a : Val} {c : Str} {ns : List Str} {vs : List Val} {st : Store} {v : Val} (h1 : insOf st a = some (c, ns, vs)) (h2 : P.isc c = true) (h3 : P.prop c f = none) (h4 : fld ns vs f = some v) (h5 : P.fl c f = true) : attrM P Φ a f st = .ok v st := by
  unfold attrM
  rw [h1]
  simp only [h2, if_true, h3, h4, h5]
theorem con_last (Φ : Cal) (st : Store) (f : Str) (v : Val) (h : T.prog.con "Book" f = some v) (hp : T.prog.prop "Book" f = none) : attrM T.prog Φ (.ref st.length) f (st ++ [.ins "Book" [] []]) = .ok v (st ++ [.ins "Book" [] []]) :=
  con_get (insOf_last st _ _ _) rfl hp rfl h
/-! ### kinds and boxes checked -/
theorem kinds_ok (d : Nat) (ks : List Int) (h : ks = [1] ∨ ks = [1, 2] ∨ ks = [2]) (st : Store) : callM T.prog (call T.prog (d + 3)) .raw "are_kinds" [] [.lst (ks.map Val.int)] [] st = .ok (.bl true) st := by
  refine call_raw (tp := [.pos 0]) rfl rfl ?_
  rcases h with rfl | rfl | rfl <;> kernel_rfl
theorem all2_get {α β : Type} {r : α → β → Prop} : ∀ {as : List α} {bs : List β} {i : Nat} {a : α} {b : β}, All2 r as bs → as[i]? = some a → bs[i]? = some b → r a b
  | _, _, 0, _, _, .cons h _, e1, e2 => by
    simp at e1 e2
    subst e1 e2
    exact h
  | _, _, i + 1, _, _, .cons _ t, e1, e2 => all2_get (i := i) t (by simpa using e1) (by simpa using e2)
  | _, _, _, _, _, .nil, e1, _ => by simp at e1
/-- the pairs of places and boxes -/
theorem enum_box {bs : List Bx} (hb : BxL bs) {x : Val} (hx : x ∈ (((List.range (bs.map Bx.ins).length).zip (bs.map Bx.ins)).map fun p => Val.tup [.int p.1, p.2])) : ∃ (i : Nat) (b : Bx), x = .tup [.int i, b.ins] ∧ SrcOk i b.s := by
  obtain ⟨⟨i, v⟩, hm, rfl⟩ := List.mem_map.mp hx
  obtain ⟨k, hk⟩ := List.getElem?_of_mem hm
  obtain ⟨h1, h2⟩ := List.getElem?_zip_eq_some.mp hk
  simp only at h1 h2
  have hkl : k < (bs.map Bx.ins).length := (List.getElem?_eq_some_iff.mp h2).1
  rw [List.getElem?_range hkl] at h1
  cases h1
  rw [List.getElem?_map] at h2
  obtain ⟨b, hb1, rfl⟩ := Option.map_eq_some_iff.mp h2
  rw [List.length_map] at hkl
  obtain ⟨j, e, hok⟩ := all2_get (i := i) hb (by rw [List.getElem?_map, List.getElem?_range hkl]; rfl) hb1
  cases e
  refine ⟨i, b, rfl, ?_⟩
  have := hok.1
  rwa [Int.zero_add] at this
theorem f_boxes : T.prog.fn "are_boxes" = some ⟨2, 4, b_are_boxes⟩ := rfl
theorem boxes_ok (d : Nat) (bs : List Bx) (hb : BxL bs) (h3 : bs.length ≤ 3) (st : Store) : callM T.prog (call T.prog (d + 1)) .raw "are_boxes" [] [.lst (bs.map Bx.ins), .int 3] [] st = .ok (.bl true) st := by
  refine call_raw (tp := [.pos 0, .pos 1]) rfl rfl ?_
  rw [unf f_boxes]
  have q0 : evalS T.prog (call T.prog d) b_are_boxes_0 [some (.lst (bs.map Bx.ins)), some (.int 3), none, none] st = .ok (.next [some (.lst (bs.map Bx.ins)), some (.int 3), none, none]) st := by
    unfold b_are_boxes_0
    have ei : ∀ st, isTs T.prog st (.lst (bs.map Bx.ins)) ["list", "tuple"] = some true := fun _ => rfl
    have hd : decide ((3 : Int) < ((bs.map Bx.ins).length : Int)) = false := by rw [List.length_map]; simp; omega
    simp only [E_var, E_non, E_bl, E_int, E_str, E_glob, E_bin, E_neg, E_cmp, E_chain, E_and, E_or, E_not, E_ite, E_tup, E_lstF, E_lstT, E_ix, E_slc, E_attr, E_call, E_make, E_meth, E_bcall, E_bmeth, E_isin, Es_nil, Es_cons, and_one, and_two, or_one, or_two, T_and, T_or, T_not, T_cmp, T_chain, T_var, T_bl, T_attr, T_call, T_bcall, T_ix, T_isin, andT_one, andT_two, orT_one, orT_two, test_nil, test_one, S_expr, S_set, S_sett, S_setc, S_par, S_fld, S_sub, S_ret, S_retN, S_ite, S_for, S_pass, Ss_nil, Ss_cons, R.then_ok, R.of_some, List.getElem?_cons_zero, List.getElem?_cons_succ, Option.map_some, asB, ix0, ix1, ix2, ix3, ix4, c_eq, c_lt, c_ge, c_gt, c_le, v_len, v_int, beq_self_eq_true, cell_at, bindT, List.length_cons, List.length_nil, List.set_cons_succ, List.set_cons_zero, b_add, b_sub, b_mul, b_mod, b_div, b_pow18, st1, st2, st3, st4, Nat.reduceAdd, Nat.reduceLT, if_true, or_true, true_or, and_self, and_true, true_and, Int.reduceLT, Int.reduceNeg, Int.reducePow, List.map_cons, List.map_nil, List.cons_append, List.nil_append, List.replicate, Nat.sub_self, Nat.reduceSub, ei, hd]
    rfl
  have q1 : evalS T.prog (call T.prog d) b_are_boxes_1 [some (.lst (bs.map Bx.ins)), some (.int 3), none, none] st = .ok (.next [some (.lst (bs.map Bx.ins)), some (.int 3), none, none]) st := by
    unfold b_are_boxes_1
    have hc := comp_ok (P := T.prog) (Φ := call T.prog d) (mt := .v 2) (melt := .isin (.var 2) ["Box"]) (mifs := []) (env := [some (.lst (bs.map Bx.ins)), some (.int 3), none, none]) (items := bs.map Bx.ins) (by rw [List.length_map]; show _ ≤ (2 ^ 24 : Nat); omega) (comp_pure (g := fun _ => some (.bl true)) (st := st) (fun v hv => by
      obtain ⟨b, _, rfl⟩ := List.mem_map.mp hv
      rfl) [])
    have hs : srcE T.prog (call T.prog d) .seq [(.var 0)] [some (.lst (bs.map Bx.ins)), some (.int 3), none, none] st = .ok (bs.map Bx.ins, []) st := rfl
    rw [List.nil_append] at hc
    simp only [E_var, E_non, E_bl, E_int, E_str, E_glob, E_bin, E_neg, E_cmp, E_chain, E_and, E_or, E_not, E_ite, E_tup, E_lstF, E_lstT, E_ix, E_slc, E_attr, E_call, E_make, E_meth, E_bcall, E_bmeth, E_isin, Es_nil, Es_cons, and_one, and_two, or_one, or_two, T_and, T_or, T_not, T_cmp, T_chain, T_var, T_bl, T_attr, T_call, T_bcall, T_ix, T_isin, andT_one, andT_two, orT_one, orT_two, test_nil, test_one, S_expr, S_set, S_sett, S_setc, S_par, S_fld, S_sub, S_ret, S_retN, S_ite, S_for, S_pass, Ss_nil, Ss_cons, R.then_ok, R.of_some, List.getElem?_cons_zero, List.getElem?_cons_succ, Option.map_some, asB, ix0, ix1, ix2, ix3, ix4, c_eq, c_lt, c_ge, c_gt, c_le, v_len, v_int, beq_self_eq_true, cell_at, bindT, List.length_cons, List.length_nil, List.set_cons_succ, List.set_cons_zero, b_add, b_sub, b_mul, b_mod, b_div, b_pow18, st1, st2, st3, st4, Nat.reduceAdd, Nat.reduceLT, if_true, or_true, true_or, and_self, and_true, true_and, Int.reduceLT, Int.reduceNeg, Int.reducePow, List.map_cons, List.map_nil, List.cons_append, List.nil_append, List.replicate, Nat.sub_self, Nat.reduceSub, E_comp, hs, hc, v_all]
    rfl
  have q2 : evalS T.prog (call T.prog d) b_are_boxes_2 [some (.lst (bs.map Bx.ins)), some (.int 3), none, none] st = .ok (.ret (.bl true)) st := by
    unfold b_are_boxes_2
    have hs : srcE T.prog (call T.prog d) .enum [(.var 0)] [some (.lst (bs.map Bx.ins)), some (.int 3), none, none] st = .ok ((((List.range (bs.map Bx.ins).length).zip (bs.map Bx.ins)).map fun p => Val.tup [.int p.1, p.2]), []) st := rfl
    have hc := comp_ok (P := T.prog) (Φ := call T.prog d) (mt := .t [(.v 3), (.v 2)]) (melt := .or [(.cmp .isn (.attr (.var 2) "source") (.non)), (.cmp .lt (.attr (.var 2) "source") (.var 3))]) (mifs := []) (env := [some (.lst (bs.map Bx.ins)), some (.int 3), none, none]) (items := ((List.range (bs.map Bx.ins).length).zip (bs.map Bx.ins)).map fun p => Val.tup [.int p.1, p.2]) (by simp only [List.length_map, List.length_zip, List.length_range, Nat.min_self]; show _ ≤ (2 ^ 24 : Nat); omega) (comp_pure (g := fun _ => some (.bl true)) (st := st) (fun v hv => by
      obtain ⟨i, b, rfl, ho⟩ := enum_box hb hv
      obtain ⟨s, p, c, e⟩ := b
      rcases ho with ho | ⟨j, ho, h0, h1, h2⟩
      · have ho' : s = .non := ho
        subst ho'
        rfl
      · have ho' : s = .int j := ho
        subst ho'
        have hj : decide (j < (i : Int)) = true := decide_eq_true h2
        have eb : bindT (.t [(.v 3), (.v 2)]) (.tup [.int i, Bx.ins ⟨.int j, p, c, e⟩]) (wipeE [some (.lst (bs.map Bx.ins)), some (.int 3), none, none] (slots (.t [(.v 3), (.v 2)]))) = some [some (.lst (bs.map Bx.ins)), some (.int 3), some (boxI (.int j) p c e), some (.int i)] := rfl
        unfold turnF
        rw [eb]
        have ea : ∀ st, attrM T.prog (call T.prog d) (boxI (.int j) p c e) "source" st = .ok (.int j) st := fun _ => rfl
        have en : ∀ st, cmpV st .isn (.int j) .non = some false := fun _ => rfl
        simp only [E_var, E_non, E_bl, E_int, E_str, E_glob, E_bin, E_neg, E_cmp, E_chain, E_and, E_or, E_not, E_ite, E_tup, E_lstF, E_lstT, E_ix, E_slc, E_attr, E_call, E_make, E_meth, E_bcall, E_bmeth, E_isin, Es_nil, Es_cons, and_one, and_two, or_one, or_two, T_and, T_or, T_not, T_cmp, T_chain, T_var, T_bl, T_attr, T_call, T_bcall, T_ix, T_isin, andT_one, andT_two, orT_one, orT_two, test_nil, test_one, S_expr, S_set, S_sett, S_setc, S_par, S_fld, S_sub, S_ret, S_retN, S_ite, S_for, S_pass, Ss_nil, Ss_cons, R.then_ok, R.of_some, List.getElem?_cons_zero, List.getElem?_cons_succ, Option.map_some, asB, ix0, ix1, ix2, ix3, ix4, c_eq, c_lt, c_ge, c_gt, c_le, v_len, v_int, beq_self_eq_true, cell_at, bindT, List.length_cons, List.length_nil, List.set_cons_succ, List.set_cons_zero, b_add, b_sub, b_mul, b_mod, b_div, b_pow18, st1, st2, st3, st4, Nat.reduceAdd, Nat.reduceLT, if_true, or_true, true_or, and_self, and_true, true_and, Int.reduceLT, Int.reduceNeg, Int.reducePow, List.map_cons, List.map_nil, List.cons_append, List.nil_append, List.replicate, Nat.sub_self, Nat.reduceSub, ea, en, hj]) [])
    rw [List.nil_append] at hc
    simp only [E_var, E_non, E_bl, E_int, E_str, E_glob, E_bin, E_neg, E_cmp, E_chain, E_and, E_or, E_not, E_ite, E_tup, E_lstF, E_lstT, E_ix, E_slc, E_attr, E_call, E_make, E_meth, E_bcall, E_bmeth, E_isin, Es_nil, Es_cons, and_one, and_two, or_one, or_two, T_and, T_or, T_not, T_cmp, T_chain, T_var, T_bl, T_attr, T_call, T_bcall, T_ix, T_isin, andT_one, andT_two, orT_one, orT_two, test_nil, test_one, S_expr, S_set, S_sett, S_setc, S_par, S_fld, S_sub, S_ret, S_retN, S_ite, S_for, S_pass, Ss_nil, Ss_cons, R.then_ok, R.of_some, List.getElem?_cons_zero, List.getElem?_cons_succ, Option.map_some, asB, ix0, ix1, ix2, ix3, ix4, c_eq, c_lt, c_ge, c_gt, c_le, v_len, v_int, beq_self_eq_true, cell_at, bindT, List.length_cons, List.length_nil, List.set_cons_succ, List.set_cons_zero, b_add, b_sub, b_mul, b_mod, b_div, b_pow18, st1, st2, st3, st4, Nat.reduceAdd, Nat.reduceLT, if_true, or_true, true_or, and_self, and_true, true_and, Int.reduceLT, Int.reduceNeg, Int.reducePow, List.map_cons, List.map_nil, List.cons_append, List.nil_append, List.replicate, Nat.sub_self, Nat.reduceSub, E_comp, hs, hc, v_all]
  exact run_ret rfl ((Ss_next q0).trans ((Ss_next q1).trans (Ss_ret q2)))
end L_k11
end

section
set_option Elab.async false
set_option linter.all false
set_option maxRecDepth 100000
set_option maxHeartbeats
                         1000000
namespace L_k11
open PySem Mp
variable {XS : List SO}
abbrev bkN : List Str := ["height", "top", "bottom", "lead", "hold", "own_levels", "own_kinds", "own_boxes"]
abbrev bkV (s : Sp) : List Val := [.int s.ht, .int s.t, .int s.b, .int s.lead, .int s.hold, .lst (s.ls.map Lev.ins), .lst (s.ks.map Val.int), .lst (s.bs.map Bx.ins)]
theorem heads_ins (ls : List Lev) : (ls.map Lev.ins).filterMap (fun v => match v with | .ins _ _ (.int h :: _ :: .bl true :: _) => some (Val.int h) | _ => none) = (heads ls).map Val.int := by
  unfold heads
  induction ls with
  | nil => rfl
  | cons l r ih =>
    obtain ⟨h, f, a, b⟩ := l
    cases a
    · simpa [Lev.ins, levI] using ih
    · simpa [Lev.ins, levI] using ih
theorem f_blow : T.prog.fn "Book.lowest" = some ⟨1, 2, b_Book_lowest⟩ := rfl
theorem blowest (d : Nat) (s : Sp) (h4 : s.ls.length ≤ 4) (st : Store) : call T.prog (d + 1) "Book.lowest" [.ref st.length] (st ++ [.ins "Book" bkN (bkV s)]) = .ok (.int (s.t + s.b + 2 + (heads s.ls).sum)) (st ++ [.ins "Book" bkN (bkV s)]) := by
  rw [unf f_blow]
  refine run_ret rfl (Ss_ret ?_)
  generalize hS : st ++ [SO.ins "Book" bkN (bkV s)] = S
  have hi : insOf S (.ref st.length) = some (("Book" : Str), bkN, bkV s) := by rw [← hS]; exact insOf_last st _ _ _
  have a1 : attrM T.prog (call T.prog d) (.ref st.length) "top" S = .ok (.int s.t) S := fld_get hi rfl rfl rfl rfl
  have a2 : attrM T.prog (call T.prog d) (.ref st.length) "bottom" S = .ok (.int s.b) S := fld_get hi rfl rfl rfl rfl
  have a3 : attrM T.prog (call T.prog d) (.ref st.length) "own_levels" S = .ok (.lst (s.ls.map Lev.ins)) S := fld_get hi rfl rfl rfl rfl
  have eg : T.prog.glob "MOST_LINES" = some (.int 2) := rfl
  have hsrc : srcE T.prog (call T.prog d) .seq [(.attr (.var 0) "own_levels")] [some (.ref st.length), none] S = .ok (s.ls.map Lev.ins, []) S := by
    unfold srcE
    simp only [E_var, E_non, E_bl, E_int, E_str, E_glob, E_bin, E_neg, E_cmp, E_chain, E_and, E_or, E_not, E_ite, E_tup, E_lstF, E_lstT, E_ix, E_slc, E_attr, E_call, E_make, E_meth, E_bcall, E_bmeth, E_isin, Es_nil, Es_cons, and_one, and_two, or_one, or_two, T_and, T_or, T_not, T_cmp, T_chain, T_var, T_bl, T_attr, T_call, T_bcall, T_ix, T_isin, andT_one, andT_two, orT_one, orT_two, test_nil, test_one, S_expr, S_set, S_sett, S_setc, S_par, S_fld, S_sub, S_ret, S_retN, S_ite, S_for, S_pass, Ss_nil, Ss_cons, R.then_ok, R.of_some, List.getElem?_cons_zero, List.getElem?_cons_succ, Option.map_some, asB, ix0, ix1, ix2, ix3, ix4, c_eq, c_lt, c_ge, c_gt, c_le, v_len, v_int, beq_self_eq_true, cell_at, bindT, List.length_cons, List.length_nil, List.set_cons_succ, List.set_cons_zero, b_add, b_sub, b_mul, b_mod, b_div, b_pow18, st1, st2, st3, st4, Nat.reduceAdd, Nat.reduceLT, if_true, or_true, true_or, and_self, and_true, true_and, Int.reduceLT, Int.reduceNeg, Int.reducePow, List.map_cons, List.map_nil, List.cons_append, List.nil_append, List.replicate, Nat.sub_self, Nat.reduceSub, a3]
    rfl
  have turn : ∀ v ∈ s.ls.map Lev.ins, turnF T.prog (call T.prog d) (.v 1) (.attr (.var 1) "head") [(.attr (.var 1) "again")] [some (.ref st.length), none] v S = .ok (match v with | .ins _ _ (.int h :: _ :: .bl true :: _) => some (.int h) | _ => none) S := by
    intro v hv
    obtain ⟨l, _, rfl⟩ := List.mem_map.mp hv
    obtain ⟨h, f, a, b⟩ := l
    cases a <;> rfl
  have hc := comp_ok (by rw [List.length_map]; show _ ≤ (2 ^ 24 : Nat); omega) (comp_pure turn [])
  rw [List.nil_append, heads_ins] at hc
  unfold b_Book_lowest_0
  simp only [E_var, E_non, E_bl, E_int, E_str, E_glob, E_bin, E_neg, E_cmp, E_chain, E_and, E_or, E_not, E_ite, E_tup, E_lstF, E_lstT, E_ix, E_slc, E_attr, E_call, E_make, E_meth, E_bcall, E_bmeth, E_isin, Es_nil, Es_cons, and_one, and_two, or_one, or_two, T_and, T_or, T_not, T_cmp, T_chain, T_var, T_bl, T_attr, T_call, T_bcall, T_ix, T_isin, andT_one, andT_two, orT_one, orT_two, test_nil, test_one, S_expr, S_set, S_sett, S_setc, S_par, S_fld, S_sub, S_ret, S_retN, S_ite, S_for, S_pass, Ss_nil, Ss_cons, R.then_ok, R.of_some, List.getElem?_cons_zero, List.getElem?_cons_succ, Option.map_some, asB, ix0, ix1, ix2, ix3, ix4, c_eq, c_lt, c_ge, c_gt, c_le, v_len, v_int, beq_self_eq_true, cell_at, bindT, List.length_cons, List.length_nil, List.set_cons_succ, List.set_cons_zero, b_add, b_sub, b_mul, b_mod, b_div, b_pow18, st1, st2, st3, st4, Nat.reduceAdd, Nat.reduceLT, if_true, or_true, true_or, and_self, and_true, true_and, Int.reduceLT, Int.reduceNeg, Int.reducePow, List.map_cons, List.map_nil, List.cons_append, List.nil_append, List.replicate, Nat.sub_self, Nat.reduceSub, a1, a2, eg, E_comp, hsrc, hc, v_sum]
theorem f_Kinit : T.prog.fn "Book.__init__" = some ⟨9, 10, b_Book_init⟩ := rfl
theorem ite_next {Φ : Cal} {c : ME} {a : List MS} {env : Mp.Env} {st : Store} (h : evalT T.prog Φ c env st = .ok false st) : evalS T.prog Φ (.ite c a []) env st = .ok (.next env) st := by
  rw [S_ite, h]
  rfl
theorem not_within {d : Nat} {i lo hi : Int} {e1 e2 e3 : ME} {env : Mp.Env} {st : Store} (h1 : evalE T.prog (call T.prog (d + 2)) e1 env st = .ok (.int i) st) (h2 : evalE T.prog (call T.prog (d + 2)) e2 env st = .ok (.int lo) st) (h3 : evalE T.prog (call T.prog (d + 2)) e3 env st = .ok (.int hi) st) (h : lo ≤ i ∧ i ≤ hi) :
    evalT T.prog (call T.prog (d + 2)) (.not (.call .raw "is_within" [e1, e2, e3] [] [])) env st = .ok false st := by
  have g1 : decide (lo ≤ i) = true := decide_eq_true h.1
  have g2 : decide (i ≤ hi) = true := decide_eq_true h.2
  simp only [E_var, E_non, E_bl, E_int, E_str, E_glob, E_bin, E_neg, E_cmp, E_chain, E_and, E_or, E_not, E_ite, E_tup, E_lstF, E_lstT, E_ix, E_slc, E_attr, E_call, E_make, E_meth, E_bcall, E_bmeth, E_isin, Es_nil, Es_cons, and_one, and_two, or_one, or_two, T_and, T_or, T_not, T_cmp, T_chain, T_var, T_bl, T_attr, T_call, T_bcall, T_ix, T_isin, andT_one, andT_two, orT_one, orT_two, test_nil, test_one, S_expr, S_set, S_sett, S_setc, S_par, S_fld, S_sub, S_ret, S_retN, S_ite, S_for, S_pass, Ss_nil, Ss_cons, R.then_ok, R.of_some, List.getElem?_cons_zero, List.getElem?_cons_succ, Option.map_some, asB, ix0, ix1, ix2, ix3, ix4, c_eq, c_lt, c_ge, c_gt, c_le, v_len, v_int, beq_self_eq_true, cell_at, bindT, List.length_cons, List.length_nil, List.set_cons_succ, List.set_cons_zero, b_add, b_sub, b_mul, b_mod, b_div, b_pow18, st1, st2, st3, st4, Nat.reduceAdd, Nat.reduceLT, if_true, or_true, true_or, and_self, and_true, true_and, Int.reduceLT, Int.reduceNeg, Int.reducePow, List.map_cons, List.map_nil, List.cons_append, List.nil_append, List.replicate, Nat.sub_self, Nat.reduceSub, h1, h2, h3, c_within, g1, g2]
  rfl
/-- the entry of Book.__init__ -/
abbrev bkE (n : Nat) (s : Sp) : Mp.Env := [some (.ref n), some (.int s.ht), some (.int s.t), some (.int s.b), some (.lst (s.ks.map Val.int)), some (.int s.lead), some (.int s.hold), some (.lst (s.bs.map Bx.ins)), some (.tup (s.ls.map Lev.ins)), none]
theorem Kinit0 (d : Nat) (s : Sp) (ok : s.ok) (st : Store) : evalS T.prog (call T.prog (d + 3)) b_Book_init_0 (bkE st.length s) (st ++ [.ins "Book" [] []]) = .ok (.next (bkE st.length s)) (st ++ [.ins "Book" [] []]) := by
  generalize hS : st ++ [SO.ins "Book" [] []] = S
  refine ite_next ?_
  have a1 : attrM T.prog (call T.prog (d + 3)) (.ref st.length) "LEVELS" S = .ok (.int 4) S := by rw [← hS]; exact con_last _ st _ _ rfl rfl
  have el : ∀ st, bV st "len" [.tup (s.ls.map Lev.ins)] = some (.int ((s.ls.map Lev.ins).length : Int)) := fun _ => rfl
  have g1 : decide ((1 : Int) ≤ ((s.ls.map Lev.ins).length : Int)) = true := decide_eq_true (by rw [List.length_map]; have := ok.l1; omega)
  have g2 : decide (((s.ls.map Lev.ins).length : Int) ≤ 4) = true := decide_eq_true (by rw [List.length_map]; have := ok.l4; omega)
  have hs : srcE T.prog (call T.prog (d + 3)) .seq [(.var 8)] (bkE st.length s) S = .ok (s.ls.map Lev.ins, []) S := rfl
  have hc := comp_ok (P := T.prog) (Φ := call T.prog (d + 3)) (mt := .v 9) (melt := .isin (.var 9) ["Level"]) (mifs := []) (env := bkE st.length s) (items := s.ls.map Lev.ins) (by rw [List.length_map]; have := ok.l4; show _ ≤ (2 ^ 24 : Nat); omega) (comp_pure (g := fun _ => some (.bl true)) (st := S) (fun v hv => by
      obtain ⟨l, _, rfl⟩ := List.mem_map.mp hv
      rfl) [])
  rw [List.nil_append] at hc
  simp only [E_var, E_non, E_bl, E_int, E_str, E_glob, E_bin, E_neg, E_cmp, E_chain, E_and, E_or, E_not, E_ite, E_tup, E_lstF, E_lstT, E_ix, E_slc, E_attr, E_call, E_make, E_meth, E_bcall, E_bmeth, E_isin, Es_nil, Es_cons, and_one, and_two, or_one, or_two, T_and, T_or, T_not, T_cmp, T_chain, T_var, T_bl, T_attr, T_call, T_bcall, T_ix, T_isin, andT_one, andT_two, orT_one, orT_two, test_nil, test_one, S_expr, S_set, S_sett, S_setc, S_par, S_fld, S_sub, S_ret, S_retN, S_ite, S_for, S_pass, Ss_nil, Ss_cons, R.then_ok, R.of_some, List.getElem?_cons_zero, List.getElem?_cons_succ, Option.map_some, asB, ix0, ix1, ix2, ix3, ix4, c_eq, c_lt, c_ge, c_gt, c_le, v_len, v_int, beq_self_eq_true, cell_at, bindT, List.length_cons, List.length_nil, List.set_cons_succ, List.set_cons_zero, b_add, b_sub, b_mul, b_mod, b_div, b_pow18, st1, st2, st3, st4, Nat.reduceAdd, Nat.reduceLT, if_true, or_true, true_or, and_self, and_true, true_and, Int.reduceLT, Int.reduceNeg, Int.reducePow, List.map_cons, List.map_nil, List.cons_append, List.nil_append, List.replicate, Nat.sub_self, Nat.reduceSub, a1, el, g1, g2, E_comp, hs, hc, v_all]
  rfl
theorem Kinit (d : Nat) (s : Sp) (ok : s.ok) (st : Store) : call T.prog (d + 4) "Book.__init__" [.ref st.length, .int s.ht, .int s.t, .int s.b, .lst (s.ks.map Val.int), .int s.lead, .int s.hold, .lst (s.bs.map Bx.ins), .tup (s.ls.map Lev.ins)] (st ++ [.ins "Book" [] []]) = .ok .non (st ++ [.ins "Book" bkN (bkV s)]) := by
  rw [unf f_Kinit]
  have hh := heads_le s.ls ok.ls
  have l4 := ok.l4
  have ht := ok.ht
  have tt := ok.t
  have tb := ok.b
  have a1 : ∀ f v, T.prog.con "Book" f = some v → T.prog.prop "Book" f = none → attrM T.prog (call T.prog (d + 3)) (.ref st.length) f (st ++ [.ins "Book" [] []]) = .ok v (st ++ [.ins "Book" [] []]) := fun f v h1 h2 => con_last _ st f v h1 h2
  have q1 : evalS T.prog (call T.prog (d + 3)) b_Book_init_1 (bkE st.length s) (st ++ [.ins "Book" [] []]) = .ok (.next (bkE st.length s)) (st ++ [.ins "Book" [] []]) :=
    ite_next (not_within (d := d + 1) (i := s.ht) (lo := 1) (hi := 40) rfl rfl (by rw [E_attr]; exact a1 "HEIGHT" (.int 40) rfl rfl) (by omega))
  have q2 : evalS T.prog (call T.prog (d + 3)) b_Book_init_2 (bkE st.length s) (st ++ [.ins "Book" [] []]) = .ok (.next (bkE st.length s)) (st ++ [.ins "Book" [] []]) :=
    ite_next (not_within (d := d + 1) (i := s.t) (lo := 0) (hi := 2) rfl rfl rfl (by omega))
  have q3 : evalS T.prog (call T.prog (d + 3)) b_Book_init_3 (bkE st.length s) (st ++ [.ins "Book" [] []]) = .ok (.next (bkE st.length s)) (st ++ [.ins "Book" [] []]) :=
    ite_next (not_within (d := d + 1) (i := s.b) (lo := 0) (hi := 2) rfl rfl rfl (by omega))
  have q4 : evalS T.prog (call T.prog (d + 3)) b_Book_init_4 (bkE st.length s) (st ++ [.ins "Book" [] []]) = .ok (.next (bkE st.length s)) (st ++ [.ins "Book" [] []]) := by
    refine ite_next ?_
    simp only [E_var, E_non, E_bl, E_int, E_str, E_glob, E_bin, E_neg, E_cmp, E_chain, E_and, E_or, E_not, E_ite, E_tup, E_lstF, E_lstT, E_ix, E_slc, E_attr, E_call, E_make, E_meth, E_bcall, E_bmeth, E_isin, Es_nil, Es_cons, and_one, and_two, or_one, or_two, T_and, T_or, T_not, T_cmp, T_chain, T_var, T_bl, T_attr, T_call, T_bcall, T_ix, T_isin, andT_one, andT_two, orT_one, orT_two, test_nil, test_one, S_expr, S_set, S_sett, S_setc, S_par, S_fld, S_sub, S_ret, S_retN, S_ite, S_for, S_pass, Ss_nil, Ss_cons, R.then_ok, R.of_some, List.getElem?_cons_zero, List.getElem?_cons_succ, Option.map_some, asB, ix0, ix1, ix2, ix3, ix4, c_eq, c_lt, c_ge, c_gt, c_le, v_len, v_int, beq_self_eq_true, cell_at, bindT, List.length_cons, List.length_nil, List.set_cons_succ, List.set_cons_zero, b_add, b_sub, b_mul, b_mod, b_div, b_pow18, st1, st2, st3, st4, Nat.reduceAdd, Nat.reduceLT, if_true, or_true, true_or, and_self, and_true, true_and, Int.reduceLT, Int.reduceNeg, Int.reducePow, List.map_cons, List.map_nil, List.cons_append, List.nil_append, List.replicate, Nat.sub_self, Nat.reduceSub, kinds_ok d s.ks ok.ks]
    rfl
  have q5 : evalS T.prog (call T.prog (d + 3)) b_Book_init_5 (bkE st.length s) (st ++ [.ins "Book" [] []]) = .ok (.next (bkE st.length s)) (st ++ [.ins "Book" [] []]) :=
    ite_next (not_within (d := d + 1) (i := s.lead) (lo := 0) (hi := 2) rfl rfl rfl ok.lead)
  have q6 : evalS T.prog (call T.prog (d + 3)) b_Book_init_6 (bkE st.length s) (st ++ [.ins "Book" [] []]) = .ok (.next (bkE st.length s)) (st ++ [.ins "Book" [] []]) :=
    ite_next (not_within (d := d + 1) (i := s.hold) (lo := 0) (hi := 2) rfl rfl rfl ok.hold)
  have q7 : evalS T.prog (call T.prog (d + 3)) b_Book_init_7 (bkE st.length s) (st ++ [.ins "Book" [] []]) = .ok (.next (bkE st.length s)) (st ++ [.ins "Book" [] []]) := by
    refine ite_next ?_
    have a2 := a1 "BOXES" (.int 3) rfl rfl
    simp only [E_var, E_non, E_bl, E_int, E_str, E_glob, E_bin, E_neg, E_cmp, E_chain, E_and, E_or, E_not, E_ite, E_tup, E_lstF, E_lstT, E_ix, E_slc, E_attr, E_call, E_make, E_meth, E_bcall, E_bmeth, E_isin, Es_nil, Es_cons, and_one, and_two, or_one, or_two, T_and, T_or, T_not, T_cmp, T_chain, T_var, T_bl, T_attr, T_call, T_bcall, T_ix, T_isin, andT_one, andT_two, orT_one, orT_two, test_nil, test_one, S_expr, S_set, S_sett, S_setc, S_par, S_fld, S_sub, S_ret, S_retN, S_ite, S_for, S_pass, Ss_nil, Ss_cons, R.then_ok, R.of_some, List.getElem?_cons_zero, List.getElem?_cons_succ, Option.map_some, asB, ix0, ix1, ix2, ix3, ix4, c_eq, c_lt, c_ge, c_gt, c_le, v_len, v_int, beq_self_eq_true, cell_at, bindT, List.length_cons, List.length_nil, List.set_cons_succ, List.set_cons_zero, b_add, b_sub, b_mul, b_mod, b_div, b_pow18, st1, st2, st3, st4, Nat.reduceAdd, Nat.reduceLT, if_true, or_true, true_or, and_self, and_true, true_and, Int.reduceLT, Int.reduceNeg, Int.reducePow, List.map_cons, List.map_nil, List.cons_append, List.nil_append, List.replicate, Nat.sub_self, Nat.reduceSub, a2, boxes_ok (d + 2) s.bs ok.bs ok.b3]
    rfl
  have q16 : evalS T.prog (call T.prog (d + 3)) b_Book_init_16 (bkE st.length s) (st ++ [.ins "Book" bkN (bkV s)]) = .ok (.next (bkE st.length s)) (st ++ [.ins "Book" bkN (bkV s)]) := by
    refine ite_next ?_
    have al : attrM T.prog (call T.prog (d + 3)) (.ref st.length) "lowest" (st ++ [.ins "Book" bkN (bkV s)]) = .ok (.int (s.t + s.b + 2 + (heads s.ls).sum)) (st ++ [.ins "Book" bkN (bkV s)]) := prop_get (insOf_last st _ _ _) rfl rfl (blowest (d + 2) s l4 st) rfl
    have hd : decide (s.ht < s.t + s.b + 2 + (heads s.ls).sum) = false := decide_eq_false (by omega)
    simp only [E_var, E_non, E_bl, E_int, E_str, E_glob, E_bin, E_neg, E_cmp, E_chain, E_and, E_or, E_not, E_ite, E_tup, E_lstF, E_lstT, E_ix, E_slc, E_attr, E_call, E_make, E_meth, E_bcall, E_bmeth, E_isin, Es_nil, Es_cons, and_one, and_two, or_one, or_two, T_and, T_or, T_not, T_cmp, T_chain, T_var, T_bl, T_attr, T_call, T_bcall, T_ix, T_isin, andT_one, andT_two, orT_one, orT_two, test_nil, test_one, S_expr, S_set, S_sett, S_setc, S_par, S_fld, S_sub, S_ret, S_retN, S_ite, S_for, S_pass, Ss_nil, Ss_cons, R.then_ok, R.of_some, List.getElem?_cons_zero, List.getElem?_cons_succ, Option.map_some, asB, ix0, ix1, ix2, ix3, ix4, c_eq, c_lt, c_ge, c_gt, c_le, v_len, v_int, beq_self_eq_true, cell_at, bindT, List.length_cons, List.length_nil, List.set_cons_succ, List.set_cons_zero, b_add, b_sub, b_mul, b_mod, b_div, b_pow18, st1, st2, st3, st4, Nat.reduceAdd, Nat.reduceLT, if_true, or_true, true_or, and_self, and_true, true_and, Int.reduceLT, Int.reduceNeg, Int.reducePow, List.map_cons, List.map_nil, List.cons_append, List.nil_append, List.replicate, Nat.sub_self, Nat.reduceSub, al, hd]
  refine run_next (env := bkE st.length s) rfl ((Ss_next (Kinit0 d s ok st)).trans ((Ss_next q1).trans ((Ss_next q2).trans ((Ss_next q3).trans ((Ss_next q4).trans ((Ss_next q5).trans ((Ss_next q6).trans ((Ss_next q7).trans ?_))))))))
  refine (Ss_next (fld_step rfl rfl rfl rfl rfl)).trans ((Ss_next (fld_step rfl rfl rfl rfl rfl)).trans ((Ss_next (fld_step rfl rfl rfl rfl rfl)).trans ((Ss_next (fld_step rfl rfl rfl rfl rfl)).trans ((Ss_next (fld_step rfl rfl rfl rfl rfl)).trans ?_))))
  exact (Ss_next (fld_stepE (v := .lst (s.ls.map Lev.ins)) rfl rfl rfl rfl rfl)).trans ((Ss_next (fld_stepE (v := .lst (s.ks.map Val.int)) rfl rfl rfl rfl rfl)).trans ((Ss_next (fld_stepE (v := .lst (s.bs.map Bx.ins)) rfl rfl rfl rfl rfl)).trans ((Ss_next q16).trans rfl)))
end L_k11
end

section
set_option Elab.async false
set_option linter.all false
set_option maxRecDepth 100000
set_option maxHeartbeats
                         1000000
namespace L_k11
open PySem Mp
variable {XS : List SO}
theorem bk_closed (s : Sp) (ok : s.ok) : closeds (bkV s) = true := by
  refine closeds_all.mpr fun v hv => ?_
  simp only [List.mem_cons, List.not_mem_nil, or_false] at hv
  rcases hv with rfl | rfl | rfl | rfl | rfl | rfl | rfl | rfl
  · rfl
  · rfl
  · rfl
  · rfl
  · rfl
  · refine closeds_all.mpr fun v hv => ?_
    obtain ⟨l, _, rfl⟩ := List.mem_map.mp hv
    rfl
  · refine closeds_all.mpr fun v hv => ?_
    obtain ⟨l, _, rfl⟩ := List.mem_map.mp hv
    rfl
  · refine closeds_all.mpr fun v hv => ?_
    obtain ⟨b, hb, rfl⟩ := List.mem_map.mp hv
    obtain ⟨i, _, j, _, h⟩ := ok.bs.right b hb
    show (closed b.s && true) = true
    rw [srcOk_closed h.1]; rfl
theorem kmake (d : Nat) (s : Sp) (ok : s.ok) (st : Store) {tp : List Src} (h1 : T.prog.bind "Book.__init__" ((Val.int s.ht :: s.ls.map Lev.ins).length + 1) ["top", "bottom", "kinds", "lead", "hold", "boxes"] = some tp)
    (h2 : srcs (.ref st.length :: .int s.ht :: s.ls.map Lev.ins) [.int s.t, .int s.b, .lst (s.ks.map Val.int), .int s.lead, .int s.hold, .lst (s.bs.map Bx.ins)] tp = some [.ref st.length, .int s.ht, .int s.t, .int s.b, .lst (s.ks.map Val.int), .int s.lead, .int s.hold, .lst (s.bs.map Bx.ins), .tup (s.ls.map Lev.ins)]) :
    makeM T.prog (call T.prog (d + 4)) .pure "Book" ["top", "bottom", "kinds", "lead", "hold", "boxes"] (.int s.ht :: s.ls.map Lev.ins) [.int s.t, .int s.b, .lst (s.ks.map Val.int), .int s.lead, .int s.hold, .lst (s.bs.map Bx.ins)] st = .ok (bookI s) st :=
  make_new rfl rfl h1 h2 (Kinit d s ok st) (bk_closed s ok)
theorem f_book : T.prog.fn "_law_book" = some ⟨1, 16, b__law_book⟩ := rfl
/-- behind the made lists -/
abbrev lbE (s : Sp) : Mp.Env := [some s.val, some (.int s.ht), some (.lst (s.ls.map Lev.tup)), some (.int s.t), some (.int s.b), some (.lst (s.ks.map Val.int)), some (.int s.lead), some (.int s.hold), some (.lst (s.ls.map Lev.ins)), some (.lst (s.bs.map Bx.ins)), none, none, none, none, none, none]
theorem lev_map (ls : List Lev) : (ls.map Lev.tup).filterMap (fun v => match v with | .tup [.int h, .int f, .bl a, .bl b] => some (levI h f a b) | _ => none) = ls.map Lev.ins := by
  induction ls with
  | nil => rfl
  | cons l r ih =>
    exact congrArg (l.ins :: ·) ih
theorem box_map (bs : List Bx) : (bs.map Bx.tup).filterMap (fun v => match v with | .tup [x, .str p, .str c, .bl e] => some (boxI x p c e) | _ => none) = bs.map Bx.ins := by
  induction bs with
  | nil => rfl
  | cons l r ih =>
    exact congrArg (l.ins :: ·) ih
theorem book_pre (d : Nat) (s : Sp) (ok : s.ok) (st : Store) (ss : List MS) : evalSs T.prog (call T.prog (d + 5)) (b__law_book_0 :: b__law_book_1 :: b__law_book_2 :: ss) [some s.val, none, none, none, none, none, none, none, none, none, none, none, none, none, none, none] st = evalSs T.prog (call T.prog (d + 5)) ss (lbE s) st := by
  have q0 : evalS T.prog (call T.prog (d + 5)) b__law_book_0 [some s.val, none, none, none, none, none, none, none, none, none, none, none, none, none, none, none] st = .ok (.next [some s.val, some (.int s.ht), some (.lst (s.ls.map Lev.tup)), some (.int s.t), some (.int s.b), none, none, none, none, none, none, none, none, none, none, none]) st := rfl
  have q1 : evalS T.prog (call T.prog (d + 5)) b__law_book_1 [some s.val, some (.int s.ht), some (.lst (s.ls.map Lev.tup)), some (.int s.t), some (.int s.b), none, none, none, none, none, none, none, none, none, none, none] st = .ok (.next [some s.val, some (.int s.ht), some (.lst (s.ls.map Lev.tup)), some (.int s.t), some (.int s.b), some (.lst (s.ks.map Val.int)), some (.int s.lead), some (.int s.hold), none, none, none, none, none, none, none, none]) st := rfl
  have q2 : evalS T.prog (call T.prog (d + 5)) b__law_book_2 [some s.val, some (.int s.ht), some (.lst (s.ls.map Lev.tup)), some (.int s.t), some (.int s.b), some (.lst (s.ks.map Val.int)), some (.int s.lead), some (.int s.hold), none, none, none, none, none, none, none, none] st = .ok (.next (lbE s)) st := by
    unfold b__law_book_2
    have c1 := comp_ok (P := T.prog) (Φ := call T.prog (d + 5)) (mt := .v 10) (melt := .call .raw "_law_made_level" [(.var 10)] [] []) (mifs := []) (env := [some s.val, some (.int s.ht), some (.lst (s.ls.map Lev.tup)), some (.int s.t), some (.int s.b), some (.lst (s.ks.map Val.int)), some (.int s.lead), some (.int s.hold), none, none, none, none, none, none, none, none]) (items := s.ls.map Lev.tup) (by rw [List.length_map]; have := ok.l4; show _ ≤ (2 ^ 24 : Nat); omega) (comp_pure (g := fun v => match v with | .tup [.int h, .int f, .bl a, .bl b] => some (levI h f a b) | _ => none) (st := st) (fun v hv => by
      obtain ⟨l, hl, rfl⟩ := List.mem_map.mp hv
      obtain ⟨hh, hf⟩ := ok.ls l hl
      obtain ⟨h, f, a, b⟩ := l
      have em := made_level (d + 1) h f a b hh hf st
      unfold turnF
      simp only [E_var, E_non, E_bl, E_int, E_str, E_glob, E_bin, E_neg, E_cmp, E_chain, E_and, E_or, E_not, E_ite, E_tup, E_lstF, E_lstT, E_ix, E_slc, E_attr, E_call, E_make, E_meth, E_bcall, E_bmeth, E_isin, Es_nil, Es_cons, and_one, and_two, or_one, or_two, T_and, T_or, T_not, T_cmp, T_chain, T_var, T_bl, T_attr, T_call, T_bcall, T_ix, T_isin, andT_one, andT_two, orT_one, orT_two, test_nil, test_one, S_expr, S_set, S_sett, S_setc, S_par, S_fld, S_sub, S_ret, S_retN, S_ite, S_for, S_pass, Ss_nil, Ss_cons, R.then_ok, R.of_some, List.getElem?_cons_zero, List.getElem?_cons_succ, Option.map_some, asB, ix0, ix1, ix2, ix3, ix4, c_eq, c_lt, c_ge, c_gt, c_le, v_len, v_int, beq_self_eq_true, cell_at, bindT, List.length_cons, List.length_nil, List.set_cons_succ, List.set_cons_zero, b_add, b_sub, b_mul, b_mod, b_div, b_pow18, st1, st2, st3, st4, Nat.reduceAdd, Nat.reduceLT, if_true, or_true, true_or, and_self, and_true, true_and, Int.reduceLT, Int.reduceNeg, Int.reducePow, List.map_cons, List.map_nil, List.cons_append, List.nil_append, List.replicate, Nat.sub_self, Nat.reduceSub, slots, wipeE, Lev.tup, em]) [])
    have c2 := comp_ok (P := T.prog) (Φ := call T.prog (d + 5)) (mt := .v 11) (melt := .call .raw "_law_made_box" [(.var 11)] [] []) (mifs := []) (env := [some s.val, some (.int s.ht), some (.lst (s.ls.map Lev.tup)), some (.int s.t), some (.int s.b), some (.lst (s.ks.map Val.int)), some (.int s.lead), some (.int s.hold), none, none, none, none, none, none, none, none]) (items := s.bs.map Bx.tup) (by rw [List.length_map]; have := ok.b3; show _ ≤ (2 ^ 24 : Nat); omega) (comp_pure (g := fun v => match v with | .tup [x, .str p, .str c, .bl e] => some (boxI x p c e) | _ => none) (st := st) (fun v hv => by
      obtain ⟨b, hb, rfl⟩ := List.mem_map.mp hv
      obtain ⟨i, _, j, _, h⟩ := ok.bs.right b hb
      obtain ⟨x, p, c, e⟩ := b
      have em := made_box (d + 1) j h.1 h.2.1 h.2.2 e st
      unfold turnF
      simp only [E_var, E_non, E_bl, E_int, E_str, E_glob, E_bin, E_neg, E_cmp, E_chain, E_and, E_or, E_not, E_ite, E_tup, E_lstF, E_lstT, E_ix, E_slc, E_attr, E_call, E_make, E_meth, E_bcall, E_bmeth, E_isin, Es_nil, Es_cons, and_one, and_two, or_one, or_two, T_and, T_or, T_not, T_cmp, T_chain, T_var, T_bl, T_attr, T_call, T_bcall, T_ix, T_isin, andT_one, andT_two, orT_one, orT_two, test_nil, test_one, S_expr, S_set, S_sett, S_setc, S_par, S_fld, S_sub, S_ret, S_retN, S_ite, S_for, S_pass, Ss_nil, Ss_cons, R.then_ok, R.of_some, List.getElem?_cons_zero, List.getElem?_cons_succ, Option.map_some, asB, ix0, ix1, ix2, ix3, ix4, c_eq, c_lt, c_ge, c_gt, c_le, v_len, v_int, beq_self_eq_true, cell_at, bindT, List.length_cons, List.length_nil, List.set_cons_succ, List.set_cons_zero, b_add, b_sub, b_mul, b_mod, b_div, b_pow18, st1, st2, st3, st4, Nat.reduceAdd, Nat.reduceLT, if_true, or_true, true_or, and_self, and_true, true_and, Int.reduceLT, Int.reduceNeg, Int.reducePow, List.map_cons, List.map_nil, List.cons_append, List.nil_append, List.replicate, Nat.sub_self, Nat.reduceSub, slots, wipeE, Bx.tup, em]) [])
    rw [List.nil_append, lev_map] at c1
    rw [List.nil_append, box_map] at c2
    have i7 : ∀ st, ixV st s.val (.int 7) = some (.lst (s.bs.map Bx.tup)) := fun _ => rfl
    have s1 : srcE T.prog (call T.prog (d + 5)) .seq [(.var 2)] [some s.val, some (.int s.ht), some (.lst (s.ls.map Lev.tup)), some (.int s.t), some (.int s.b), some (.lst (s.ks.map Val.int)), some (.int s.lead), some (.int s.hold), none, none, none, none, none, none, none, none] st = .ok (s.ls.map Lev.tup, []) st := rfl
    have s2 : srcE T.prog (call T.prog (d + 5)) .seq [(.ix (.var 0) (.int 7))] [some s.val, some (.int s.ht), some (.lst (s.ls.map Lev.tup)), some (.int s.t), some (.int s.b), some (.lst (s.ks.map Val.int)), some (.int s.lead), some (.int s.hold), none, none, none, none, none, none, none, none] st = .ok (s.bs.map Bx.tup, []) st := rfl
    simp only [E_var, E_non, E_bl, E_int, E_str, E_glob, E_bin, E_neg, E_cmp, E_chain, E_and, E_or, E_not, E_ite, E_tup, E_lstF, E_lstT, E_ix, E_slc, E_attr, E_call, E_make, E_meth, E_bcall, E_bmeth, E_isin, Es_nil, Es_cons, and_one, and_two, or_one, or_two, T_and, T_or, T_not, T_cmp, T_chain, T_var, T_bl, T_attr, T_call, T_bcall, T_ix, T_isin, andT_one, andT_two, orT_one, orT_two, test_nil, test_one, S_expr, S_set, S_sett, S_setc, S_par, S_fld, S_sub, S_ret, S_retN, S_ite, S_for, S_pass, Ss_nil, Ss_cons, R.then_ok, R.of_some, List.getElem?_cons_zero, List.getElem?_cons_succ, Option.map_some, asB, ix0, ix1, ix2, ix3, ix4, c_eq, c_lt, c_ge, c_gt, c_le, v_len, v_int, beq_self_eq_true, cell_at, bindT, List.length_cons, List.length_nil, List.set_cons_succ, List.set_cons_zero, b_add, b_sub, b_mul, b_mod, b_div, b_pow18, st1, st2, st3, st4, Nat.reduceAdd, Nat.reduceLT, if_true, or_true, true_or, and_self, and_true, true_and, Int.reduceLT, Int.reduceNeg, Int.reducePow, List.map_cons, List.map_nil, List.cons_append, List.nil_append, List.replicate, Nat.sub_self, Nat.reduceSub, E_comp, s1, s2, c1, c2]
  exact (Ss_next q0).trans ((Ss_next q1).trans (Ss_next q2))
theorem book1 (d : Nat) (s : Sp) (ok : s.ok) (st : Store) (l : Lev) (hl : s.ls = [l]) : evalSs T.prog (call T.prog (d + 5)) [b__law_book_3, b__law_book_4, b__law_book_5, b__law_book_6, b__law_book_7, b__law_book_8] (lbE s) st = .ok (.ret (bookI s)) st := by
  obtain ⟨ht, ls, t, b, ks, lead, hold, bs⟩ := s
  replace hl : ls = [l] := hl
  subst hl
  have em := kmake (d + 1) ⟨ht, [l], t, b, ks, lead, hold, bs⟩ ok st rfl rfl
  simp only [List.map_cons, List.map_nil] at em
  refine Ss_ret ?_
  unfold b__law_book_3
  have i0 : ∀ st, ixV st (.lst [l.ins]) (.int 0) = some l.ins := fun _ => rfl
  simp only [E_var, E_non, E_bl, E_int, E_str, E_glob, E_bin, E_neg, E_cmp, E_chain, E_and, E_or, E_not, E_ite, E_tup, E_lstF, E_lstT, E_ix, E_slc, E_attr, E_call, E_make, E_meth, E_bcall, E_bmeth, E_isin, Es_nil, Es_cons, and_one, and_two, or_one, or_two, T_and, T_or, T_not, T_cmp, T_chain, T_var, T_bl, T_attr, T_call, T_bcall, T_ix, T_isin, andT_one, andT_two, orT_one, orT_two, test_nil, test_one, S_expr, S_set, S_sett, S_setc, S_par, S_fld, S_sub, S_ret, S_retN, S_ite, S_for, S_pass, Ss_nil, Ss_cons, R.then_ok, R.of_some, List.getElem?_cons_zero, List.getElem?_cons_succ, Option.map_some, asB, ix0, ix1, ix2, ix3, ix4, c_eq, c_lt, c_ge, c_gt, c_le, v_len, v_int, beq_self_eq_true, cell_at, bindT, List.length_cons, List.length_nil, List.set_cons_succ, List.set_cons_zero, b_add, b_sub, b_mul, b_mod, b_div, b_pow18, st1, st2, st3, st4, Nat.reduceAdd, Nat.reduceLT, if_true, or_true, true_or, and_self, and_true, true_and, Int.reduceLT, Int.reduceNeg, Int.reducePow, List.map_cons, List.map_nil, List.cons_append, List.nil_append, List.replicate, Nat.sub_self, Nat.reduceSub, i0, em]
  rfl
theorem book2 (d : Nat) (s : Sp) (ok : s.ok) (st : Store) (l m : Lev) (hl : s.ls = [l, m]) : evalSs T.prog (call T.prog (d + 5)) [b__law_book_3, b__law_book_4, b__law_book_5, b__law_book_6, b__law_book_7, b__law_book_8] (lbE s) st = .ok (.ret (bookI s)) st := by
  obtain ⟨ht, ls, t, b, ks, lead, hold, bs⟩ := s
  replace hl : ls = [l, m] := hl
  subst hl
  have em := kmake (d + 1) ⟨ht, [l, m], t, b, ks, lead, hold, bs⟩ ok st rfl rfl
  simp only [List.map_cons, List.map_nil] at em
  have q3 : evalS T.prog (call T.prog (d + 5)) b__law_book_3 [some (Sp.val ⟨ht, [l, m], t, b, ks, lead, hold, bs⟩), some (.int ht), some (.lst (([l, m] : List Lev).map Lev.tup)), some (.int t), some (.int b), some (.lst (ks.map Val.int)), some (.int lead), some (.int hold), some (.lst (([l, m] : List Lev).map Lev.ins)), some (.lst (bs.map Bx.ins)), none, none, none, none, none, none] st = .ok (.next [some (Sp.val ⟨ht, [l, m], t, b, ks, lead, hold, bs⟩), some (.int ht), some (.lst (([l, m] : List Lev).map Lev.tup)), some (.int t), some (.int b), some (.lst (ks.map Val.int)), some (.int lead), some (.int hold), some (.lst (([l, m] : List Lev).map Lev.ins)), some (.lst (bs.map Bx.ins)), none, none, none, none, none, none]) st := rfl
  have q4 : evalS T.prog (call T.prog (d + 5)) b__law_book_4 [some (Sp.val ⟨ht, [l, m], t, b, ks, lead, hold, bs⟩), some (.int ht), some (.lst (([l, m] : List Lev).map Lev.tup)), some (.int t), some (.int b), some (.lst (ks.map Val.int)), some (.int lead), some (.int hold), some (.lst (([l, m] : List Lev).map Lev.ins)), some (.lst (bs.map Bx.ins)), none, none, none, none, none, none] st = .ok (.next [some (Sp.val ⟨ht, [l, m], t, b, ks, lead, hold, bs⟩), some (.int ht), some (.lst (([l, m] : List Lev).map Lev.tup)), some (.int t), some (.int b), some (.lst (ks.map Val.int)), some (.int lead), some (.int hold), some (.lst (([l, m] : List Lev).map Lev.ins)), some (.lst (bs.map Bx.ins)), none, none, some l.ins, some m.ins, none, none]) st := rfl
  refine (Ss_next q3).trans ((Ss_next q4).trans (Ss_ret ?_))
  unfold b__law_book_5
  simp only [E_var, E_non, E_bl, E_int, E_str, E_glob, E_bin, E_neg, E_cmp, E_chain, E_and, E_or, E_not, E_ite, E_tup, E_lstF, E_lstT, E_ix, E_slc, E_attr, E_call, E_make, E_meth, E_bcall, E_bmeth, E_isin, Es_nil, Es_cons, and_one, and_two, or_one, or_two, T_and, T_or, T_not, T_cmp, T_chain, T_var, T_bl, T_attr, T_call, T_bcall, T_ix, T_isin, andT_one, andT_two, orT_one, orT_two, test_nil, test_one, S_expr, S_set, S_sett, S_setc, S_par, S_fld, S_sub, S_ret, S_retN, S_ite, S_for, S_pass, Ss_nil, Ss_cons, R.then_ok, R.of_some, List.getElem?_cons_zero, List.getElem?_cons_succ, Option.map_some, asB, ix0, ix1, ix2, ix3, ix4, c_eq, c_lt, c_ge, c_gt, c_le, v_len, v_int, beq_self_eq_true, cell_at, bindT, List.length_cons, List.length_nil, List.set_cons_succ, List.set_cons_zero, b_add, b_sub, b_mul, b_mod, b_div, b_pow18, st1, st2, st3, st4, Nat.reduceAdd, Nat.reduceLT, if_true, or_true, true_or, and_self, and_true, true_and, Int.reduceLT, Int.reduceNeg, Int.reducePow, List.map_cons, List.map_nil, List.cons_append, List.nil_append, List.replicate, Nat.sub_self, Nat.reduceSub, em]
  rfl
theorem book3 (d : Nat) (s : Sp) (ok : s.ok) (st : Store) (l m u : Lev) (hl : s.ls = [l, m, u]) : evalSs T.prog (call T.prog (d + 5)) [b__law_book_3, b__law_book_4, b__law_book_5, b__law_book_6, b__law_book_7, b__law_book_8] (lbE s) st = .ok (.ret (bookI s)) st := by
  obtain ⟨ht, ls, t, b, ks, lead, hold, bs⟩ := s
  replace hl : ls = [l, m, u] := hl
  subst hl
  have em := kmake (d + 1) ⟨ht, [l, m, u], t, b, ks, lead, hold, bs⟩ ok st rfl rfl
  simp only [List.map_cons, List.map_nil] at em
  have q3 : evalS T.prog (call T.prog (d + 5)) b__law_book_3 [some (Sp.val ⟨ht, [l, m, u], t, b, ks, lead, hold, bs⟩), some (.int ht), some (.lst (([l, m, u] : List Lev).map Lev.tup)), some (.int t), some (.int b), some (.lst (ks.map Val.int)), some (.int lead), some (.int hold), some (.lst (([l, m, u] : List Lev).map Lev.ins)), some (.lst (bs.map Bx.ins)), none, none, none, none, none, none] st = .ok (.next [some (Sp.val ⟨ht, [l, m, u], t, b, ks, lead, hold, bs⟩), some (.int ht), some (.lst (([l, m, u] : List Lev).map Lev.tup)), some (.int t), some (.int b), some (.lst (ks.map Val.int)), some (.int lead), some (.int hold), some (.lst (([l, m, u] : List Lev).map Lev.ins)), some (.lst (bs.map Bx.ins)), none, none, none, none, none, none]) st := rfl
  have q4 : evalS T.prog (call T.prog (d + 5)) b__law_book_4 [some (Sp.val ⟨ht, [l, m, u], t, b, ks, lead, hold, bs⟩), some (.int ht), some (.lst (([l, m, u] : List Lev).map Lev.tup)), some (.int t), some (.int b), some (.lst (ks.map Val.int)), some (.int lead), some (.int hold), some (.lst (([l, m, u] : List Lev).map Lev.ins)), some (.lst (bs.map Bx.ins)), none, none, none, none, none, none] st = .ok (.next [some (Sp.val ⟨ht, [l, m, u], t, b, ks, lead, hold, bs⟩), some (.int ht), some (.lst (([l, m, u] : List Lev).map Lev.tup)), some (.int t), some (.int b), some (.lst (ks.map Val.int)), some (.int lead), some (.int hold), some (.lst (([l, m, u] : List Lev).map Lev.ins)), some (.lst (bs.map Bx.ins)), none, none, some l.ins, some m.ins, none, none]) st := rfl
  have q5 : evalS T.prog (call T.prog (d + 5)) b__law_book_5 [some (Sp.val ⟨ht, [l, m, u], t, b, ks, lead, hold, bs⟩), some (.int ht), some (.lst (([l, m, u] : List Lev).map Lev.tup)), some (.int t), some (.int b), some (.lst (ks.map Val.int)), some (.int lead), some (.int hold), some (.lst (([l, m, u] : List Lev).map Lev.ins)), some (.lst (bs.map Bx.ins)), none, none, some l.ins, some m.ins, none, none] st = .ok (.next [some (Sp.val ⟨ht, [l, m, u], t, b, ks, lead, hold, bs⟩), some (.int ht), some (.lst (([l, m, u] : List Lev).map Lev.tup)), some (.int t), some (.int b), some (.lst (ks.map Val.int)), some (.int lead), some (.int hold), some (.lst (([l, m, u] : List Lev).map Lev.ins)), some (.lst (bs.map Bx.ins)), none, none, some l.ins, some m.ins, none, none]) st := rfl
  have q6 : evalS T.prog (call T.prog (d + 5)) b__law_book_6 [some (Sp.val ⟨ht, [l, m, u], t, b, ks, lead, hold, bs⟩), some (.int ht), some (.lst (([l, m, u] : List Lev).map Lev.tup)), some (.int t), some (.int b), some (.lst (ks.map Val.int)), some (.int lead), some (.int hold), some (.lst (([l, m, u] : List Lev).map Lev.ins)), some (.lst (bs.map Bx.ins)), none, none, some l.ins, some m.ins, none, none] st = .ok (.next [some (Sp.val ⟨ht, [l, m, u], t, b, ks, lead, hold, bs⟩), some (.int ht), some (.lst (([l, m, u] : List Lev).map Lev.tup)), some (.int t), some (.int b), some (.lst (ks.map Val.int)), some (.int lead), some (.int hold), some (.lst (([l, m, u] : List Lev).map Lev.ins)), some (.lst (bs.map Bx.ins)), none, none, some l.ins, some m.ins, some u.ins, some u.ins]) st := rfl
  refine (Ss_next q3).trans ((Ss_next q4).trans ((Ss_next q5).trans ((Ss_next q6).trans (Ss_ret ?_))))
  unfold b__law_book_7
  simp only [E_var, E_non, E_bl, E_int, E_str, E_glob, E_bin, E_neg, E_cmp, E_chain, E_and, E_or, E_not, E_ite, E_tup, E_lstF, E_lstT, E_ix, E_slc, E_attr, E_call, E_make, E_meth, E_bcall, E_bmeth, E_isin, Es_nil, Es_cons, and_one, and_two, or_one, or_two, T_and, T_or, T_not, T_cmp, T_chain, T_var, T_bl, T_attr, T_call, T_bcall, T_ix, T_isin, andT_one, andT_two, orT_one, orT_two, test_nil, test_one, S_expr, S_set, S_sett, S_setc, S_par, S_fld, S_sub, S_ret, S_retN, S_ite, S_for, S_pass, Ss_nil, Ss_cons, R.then_ok, R.of_some, List.getElem?_cons_zero, List.getElem?_cons_succ, Option.map_some, asB, ix0, ix1, ix2, ix3, ix4, c_eq, c_lt, c_ge, c_gt, c_le, v_len, v_int, beq_self_eq_true, cell_at, bindT, List.length_cons, List.length_nil, List.set_cons_succ, List.set_cons_zero, b_add, b_sub, b_mul, b_mod, b_div, b_pow18, st1, st2, st3, st4, Nat.reduceAdd, Nat.reduceLT, if_true, or_true, true_or, and_self, and_true, true_and, Int.reduceLT, Int.reduceNeg, Int.reducePow, List.map_cons, List.map_nil, List.cons_append, List.nil_append, List.replicate, Nat.sub_self, Nat.reduceSub, em]
  rfl
theorem book4 (d : Nat) (s : Sp) (ok : s.ok) (st : Store) (l m u v : Lev) (hl : s.ls = [l, m, u, v]) : evalSs T.prog (call T.prog (d + 5)) [b__law_book_3, b__law_book_4, b__law_book_5, b__law_book_6, b__law_book_7, b__law_book_8] (lbE s) st = .ok (.ret (bookI s)) st := by
  obtain ⟨ht, ls, t, b, ks, lead, hold, bs⟩ := s
  replace hl : ls = [l, m, u, v] := hl
  subst hl
  have em := kmake (d + 1) ⟨ht, [l, m, u, v], t, b, ks, lead, hold, bs⟩ ok st rfl rfl
  simp only [List.map_cons, List.map_nil] at em
  have q3 : evalS T.prog (call T.prog (d + 5)) b__law_book_3 [some (Sp.val ⟨ht, [l, m, u, v], t, b, ks, lead, hold, bs⟩), some (.int ht), some (.lst (([l, m, u, v] : List Lev).map Lev.tup)), some (.int t), some (.int b), some (.lst (ks.map Val.int)), some (.int lead), some (.int hold), some (.lst (([l, m, u, v] : List Lev).map Lev.ins)), some (.lst (bs.map Bx.ins)), none, none, none, none, none, none] st = .ok (.next [some (Sp.val ⟨ht, [l, m, u, v], t, b, ks, lead, hold, bs⟩), some (.int ht), some (.lst (([l, m, u, v] : List Lev).map Lev.tup)), some (.int t), some (.int b), some (.lst (ks.map Val.int)), some (.int lead), some (.int hold), some (.lst (([l, m, u, v] : List Lev).map Lev.ins)), some (.lst (bs.map Bx.ins)), none, none, none, none, none, none]) st := rfl
  have q4 : evalS T.prog (call T.prog (d + 5)) b__law_book_4 [some (Sp.val ⟨ht, [l, m, u, v], t, b, ks, lead, hold, bs⟩), some (.int ht), some (.lst (([l, m, u, v] : List Lev).map Lev.tup)), some (.int t), some (.int b), some (.lst (ks.map Val.int)), some (.int lead), some (.int hold), some (.lst (([l, m, u, v] : List Lev).map Lev.ins)), some (.lst (bs.map Bx.ins)), none, none, none, none, none, none] st = .ok (.next [some (Sp.val ⟨ht, [l, m, u, v], t, b, ks, lead, hold, bs⟩), some (.int ht), some (.lst (([l, m, u, v] : List Lev).map Lev.tup)), some (.int t), some (.int b), some (.lst (ks.map Val.int)), some (.int lead), some (.int hold), some (.lst (([l, m, u, v] : List Lev).map Lev.ins)), some (.lst (bs.map Bx.ins)), none, none, some l.ins, some m.ins, none, none]) st := rfl
  have q5 : evalS T.prog (call T.prog (d + 5)) b__law_book_5 [some (Sp.val ⟨ht, [l, m, u, v], t, b, ks, lead, hold, bs⟩), some (.int ht), some (.lst (([l, m, u, v] : List Lev).map Lev.tup)), some (.int t), some (.int b), some (.lst (ks.map Val.int)), some (.int lead), some (.int hold), some (.lst (([l, m, u, v] : List Lev).map Lev.ins)), some (.lst (bs.map Bx.ins)), none, none, some l.ins, some m.ins, none, none] st = .ok (.next [some (Sp.val ⟨ht, [l, m, u, v], t, b, ks, lead, hold, bs⟩), some (.int ht), some (.lst (([l, m, u, v] : List Lev).map Lev.tup)), some (.int t), some (.int b), some (.lst (ks.map Val.int)), some (.int lead), some (.int hold), some (.lst (([l, m, u, v] : List Lev).map Lev.ins)), some (.lst (bs.map Bx.ins)), none, none, some l.ins, some m.ins, none, none]) st := rfl
  have q6 : evalS T.prog (call T.prog (d + 5)) b__law_book_6 [some (Sp.val ⟨ht, [l, m, u, v], t, b, ks, lead, hold, bs⟩), some (.int ht), some (.lst (([l, m, u, v] : List Lev).map Lev.tup)), some (.int t), some (.int b), some (.lst (ks.map Val.int)), some (.int lead), some (.int hold), some (.lst (([l, m, u, v] : List Lev).map Lev.ins)), some (.lst (bs.map Bx.ins)), none, none, some l.ins, some m.ins, none, none] st = .ok (.next [some (Sp.val ⟨ht, [l, m, u, v], t, b, ks, lead, hold, bs⟩), some (.int ht), some (.lst (([l, m, u, v] : List Lev).map Lev.tup)), some (.int t), some (.int b), some (.lst (ks.map Val.int)), some (.int lead), some (.int hold), some (.lst (([l, m, u, v] : List Lev).map Lev.ins)), some (.lst (bs.map Bx.ins)), none, none, some l.ins, some m.ins, some u.ins, some v.ins]) st := rfl
  have q7 : evalS T.prog (call T.prog (d + 5)) b__law_book_7 [some (Sp.val ⟨ht, [l, m, u, v], t, b, ks, lead, hold, bs⟩), some (.int ht), some (.lst (([l, m, u, v] : List Lev).map Lev.tup)), some (.int t), some (.int b), some (.lst (ks.map Val.int)), some (.int lead), some (.int hold), some (.lst (([l, m, u, v] : List Lev).map Lev.ins)), some (.lst (bs.map Bx.ins)), none, none, some l.ins, some m.ins, some u.ins, some v.ins] st = .ok (.next [some (Sp.val ⟨ht, [l, m, u, v], t, b, ks, lead, hold, bs⟩), some (.int ht), some (.lst (([l, m, u, v] : List Lev).map Lev.tup)), some (.int t), some (.int b), some (.lst (ks.map Val.int)), some (.int lead), some (.int hold), some (.lst (([l, m, u, v] : List Lev).map Lev.ins)), some (.lst (bs.map Bx.ins)), none, none, some l.ins, some m.ins, some u.ins, some v.ins]) st := rfl
  refine (Ss_next q3).trans ((Ss_next q4).trans ((Ss_next q5).trans ((Ss_next q6).trans ((Ss_next q7).trans (Ss_ret ?_)))))
  unfold b__law_book_8
  simp only [E_var, E_non, E_bl, E_int, E_str, E_glob, E_bin, E_neg, E_cmp, E_chain, E_and, E_or, E_not, E_ite, E_tup, E_lstF, E_lstT, E_ix, E_slc, E_attr, E_call, E_make, E_meth, E_bcall, E_bmeth, E_isin, Es_nil, Es_cons, and_one, and_two, or_one, or_two, T_and, T_or, T_not, T_cmp, T_chain, T_var, T_bl, T_attr, T_call, T_bcall, T_ix, T_isin, andT_one, andT_two, orT_one, orT_two, test_nil, test_one, S_expr, S_set, S_sett, S_setc, S_par, S_fld, S_sub, S_ret, S_retN, S_ite, S_for, S_pass, Ss_nil, Ss_cons, R.then_ok, R.of_some, List.getElem?_cons_zero, List.getElem?_cons_succ, Option.map_some, asB, ix0, ix1, ix2, ix3, ix4, c_eq, c_lt, c_ge, c_gt, c_le, v_len, v_int, beq_self_eq_true, cell_at, bindT, List.length_cons, List.length_nil, List.set_cons_succ, List.set_cons_zero, b_add, b_sub, b_mul, b_mod, b_div, b_pow18, st1, st2, st3, st4, Nat.reduceAdd, Nat.reduceLT, if_true, or_true, true_or, and_self, and_true, true_and, Int.reduceLT, Int.reduceNeg, Int.reducePow, List.map_cons, List.map_nil, List.cons_append, List.nil_append, List.replicate, Nat.sub_self, Nat.reduceSub, em]
theorem book_ok (d : Nat) (s : Sp) (ok : s.ok) (st : Store) : callM T.prog (call T.prog (d + 6)) .raw "_law_book" [] [s.val] [] st = .ok (bookI s) st := by
  refine call_raw (tp := [.pos 0]) rfl rfl ?_
  rw [unf f_book]
  refine run_ret rfl ((book_pre d s ok st _).trans ?_)
  have h1 := ok.l1
  have h4 := ok.l4
  cases e : s.ls with
  | nil => rw [e] at h1; exact absurd h1 (by decide)
  | cons l r =>
    cases r with
    | nil => exact book1 d s ok st l e
    | cons m r =>
      cases r with
      | nil => exact book2 d s ok st l m e
      | cons u r =>
        cases r with
        | nil => exact book3 d s ok st l m u e
        | cons v r =>
          cases r with
          | nil => exact book4 d s ok st l m u v e
          | cons _ _ => rw [e] at h4; simp at h4
end L_k11
end

section
set_option Elab.async false
set_option linter.all false
set_option maxRecDepth 100000
set_option maxHeartbeats
                         1000000
namespace L_k11
open PySem Mp
variable {XS : List SO}
/-! ### the bag -/
theorem f_bag : T.prog.fn "_law_bag" = some ⟨1, 3, b__law_bag⟩ := rfl
theorem bag_ok (d : Nat) (ns : List Int) : ∃ st', callM T.prog (call T.prog (d + 1)) .raw "_law_bag" [] [.scr ns] [] [] = .ok (.ref 0) st' ∧ Bag [] st' := by
  have q0 : evalS T.prog (call T.prog d) b__law_bag_0 [some (.scr ns), none, none] [] = .ok (.next [some (.scr ns), some (.int 5790), none]) [] := rfl
  have hs : ∀ (a b : Option Val), srcE T.prog (call T.prog d) .seq [(.slc (.var 0) [] [(.int 63)])] [some (.scr ns), a, b] [] = .ok ((cut ns none (some 63)).map Val.int, []) [] := fun _ _ => rfl
  obtain ⟨env', st', e1, seed, o, rfl, rfl⟩ := loop_inv (I := fun env st => ∃ (seed : Int) (o : Option Val), env = [some (.scr ns), some (.int seed), o] ∧ st = []) (step := forF T.prog (call T.prog d) (.v 2) [.set (.v 1) (.bin .mod (.bcall "int" [(.bin .add (.bin .add (.bin .mul (.var 1) (.int 40503)) (.bin .mod (.bcall "int" [(.var 2)]) (.int 2147483629))) (.int 7))]) (.int 2147483579))]) (items := (cut ns none (some 63)).map Val.int) (fun x hx env st ⟨seed, o, he, hst⟩ => by
    subst he hst
    obtain ⟨c, _, rfl⟩ := List.mem_map.mp hx
    refine ⟨[some (.scr ns), some (.int ((seed * 40503 + c % 2147483629 + 7) % 2147483579)), some (.int c)], [], ?_, _, _, rfl, rfl⟩
    unfold forF
    simp only [E_var, E_non, E_bl, E_int, E_str, E_glob, E_bin, E_neg, E_cmp, E_chain, E_and, E_or, E_not, E_ite, E_tup, E_lstF, E_lstT, E_ix, E_slc, E_attr, E_call, E_make, E_meth, E_bcall, E_bmeth, E_isin, Es_nil, Es_cons, and_one, and_two, or_one, or_two, T_and, T_or, T_not, T_cmp, T_chain, T_var, T_bl, T_attr, T_call, T_bcall, T_ix, T_isin, andT_one, andT_two, orT_one, orT_two, test_nil, test_one, S_expr, S_set, S_sett, S_setc, S_par, S_fld, S_sub, S_ret, S_retN, S_ite, S_for, S_pass, Ss_nil, Ss_cons, R.then_ok, R.of_some, List.getElem?_cons_zero, List.getElem?_cons_succ, Option.map_some, asB, ix0, ix1, ix2, ix3, ix4, c_eq, c_lt, c_ge, c_gt, c_le, v_len, v_int, beq_self_eq_true, cell_at, bindT, List.length_cons, List.length_nil, List.set_cons_succ, List.set_cons_zero, b_add, b_sub, b_mul, b_mod, b_div, b_pow18, st1, st2, st3, st4, Nat.reduceAdd, Nat.reduceLT, if_true, or_true, true_or, and_self, and_true, true_and, Int.reduceLT, Int.reduceNeg, Int.reducePow, List.map_cons, List.map_nil, List.cons_append, List.nil_append, List.replicate, Nat.sub_self, Nat.reduceSub, slots]) [some (.scr ns), some (.int 5790), none] [] ⟨_, _, rfl, rfl⟩
  have q1 : evalS T.prog (call T.prog d) b__law_bag_1 [some (.scr ns), some (.int 5790), none] [] = .ok (.next [some (.scr ns), some (.int seed), o]) [] := by
    unfold b__law_bag_1
    rw [S_for, hs]
    exact e1
  refine ⟨bagS [] (cut ns none (some 63)) 0 0 seed 0, call_raw (tp := [.pos 0]) rfl rfl ?_, _, _, _, _, _, rfl, Int.le_refl _⟩
  rw [unf f_bag]
  exact run_ret rfl ((Ss_next q0).trans ((Ss_next q1).trans (Ss_ret rfl)))
end L_k11
end

section
set_option Elab.async false
set_option linter.all false
set_option maxRecDepth 100000
set_option maxHeartbeats
                         1000000
namespace L_k11
open PySem Mp
/-! ### equal data are the same -/
theorem f_same : T.prog.fn "_law_same" = some ⟨2, 3, b__law_same⟩ := rfl
theorem all_true (n : List Val) (st : Store) : bV st "all" [.lst (n.filterMap fun _ => some (Val.bl true))] = some (.bl true) := by
  have h : ∀ l : List Val, boolL (l.filterMap fun _ => some (Val.bl true)) = some (l.map fun _ => true) := by
    intro l
    induction l with
    | nil => rfl
    | cons a l ih =>
      show (boolL (l.filterMap fun _ => some (Val.bl true))).map (true :: ·) = _
      rw [ih]; rfl
  have e : bV st "all" [.lst (n.filterMap fun _ => some (Val.bl true))] = (boolL (n.filterMap fun _ => some (Val.bl true))).map fun bs => Val.bl (bs.all id) := rfl
  rw [e, h]
  simp
def sameLoop : ME := .comp false (.call .raw "_law_same" [(.ix (.var 0) (.var 2)), (.ix (.var 1) (.var 2))] [] []) (.v 2) .range1 [(.bcall "len" [(.var 1)])] []
theorem same_loop (d : Nat) {v : Val} {xs : List Val} (hl : xs.length ≤ 1000) (hix : ∀ st k, ixV st v (.int k) = L2.atI xs k) (hlen : ∀ st, bV st "len" [v] = some (.int xs.length)) (ih : ∀ x ∈ xs, ∀ st, call T.prog d "_law_same" [x, x] st = .ok (.bl true) st) (o : Option Val) (st : Store) :
    evalE T.prog (call T.prog d) (.bcall "all" [sameLoop]) [some v, some v, o] st = .ok (.bl true) st := by
  have hsrc : srcE T.prog (call T.prog d) .range1 [(.bcall "len" [(.var 1)])] [some v, some v, o] st = .ok ((List.range xs.length).map fun (k : Nat) => Val.int (0 + (k : Int)), []) st := by
    unfold srcE
    simp only [Es_cons, Es_nil, E_var, E_bcall, R.then_ok, R.of_some, List.getElem?_cons_zero, List.getElem?_cons_succ, hlen]
    show R.of (if _ then _ else none) st = _
    rw [if_pos (by omega)]; rfl
  have turn : ∀ x ∈ (List.range xs.length).map fun (k : Nat) => Val.int (0 + (k : Int)), turnF T.prog (call T.prog d) (.v 2) (.call .raw "_law_same" [(.ix (.var 0) (.var 2)), (.ix (.var 1) (.var 2))] [] []) [] [some v, some v, o] x st = .ok ((fun _ => some (Val.bl true)) x) st := by
    intro x hx
    obtain ⟨k, hk, rfl⟩ := List.mem_map.mp hx
    have hk' := List.mem_range.mp hk
    have ha : ∀ st, ixV st v (.int (0 + (k : Int))) = some xs[k] := fun st => by rw [hix, Int.zero_add]; exact at_nat k hk'
    have hc : callM T.prog (call T.prog d) .raw "_law_same" [] [xs[k], xs[k]] [] st = .ok (.bl true) st := call_raw (tp := [.pos 0, .pos 1]) rfl rfl (ih _ (List.getElem_mem hk') st)
    unfold turnF
    simp only [E_var, E_non, E_bl, E_int, E_str, E_glob, E_bin, E_neg, E_cmp, E_chain, E_and, E_or, E_not, E_ite, E_tup, E_lstF, E_lstT, E_ix, E_slc, E_attr, E_call, E_make, E_meth, E_bcall, E_bmeth, E_isin, Es_nil, Es_cons, and_one, and_two, or_one, or_two, T_and, T_or, T_not, T_cmp, T_chain, T_var, T_bl, T_attr, T_call, T_bcall, T_ix, T_isin, andT_one, andT_two, orT_one, orT_two, test_nil, test_one, S_expr, S_set, S_sett, S_setc, S_par, S_fld, S_sub, S_ret, S_retN, S_ite, S_for, S_pass, Ss_nil, Ss_cons, R.then_ok, R.of_some, List.getElem?_cons_zero, List.getElem?_cons_succ, Option.map_some, asB, bindT, slots, wipeE, List.length_cons, List.length_nil, List.set_cons_succ, List.set_cons_zero, Nat.reduceAdd, Nat.reduceLT, if_true, ha, hc]
    try rfl
  have hc := comp_ok (P := T.prog) (by rw [List.length_map, List.length_range]; show _ ≤ (2 ^ 24 : Nat); omega) (comp_pure turn [])
  rw [E_bcall, Es_cons]
  unfold sameLoop
  rw [E_comp, hsrc, R.then_ok, hc]
  simp only [R.then_ok, Es_nil, List.nil_append, all_true, R.of_some]
theorem same_seq (d : Nat) {v : Val} {xs : List Val} (hl : xs.length ≤ 1000) (hix : ∀ st k, ixV st v (.int k) = L2.atI xs k) (hlen : ∀ st, bV st "len" [v] = some (.int xs.length)) (hin : ∀ st, isTs T.prog st v ["list", "tuple"] = some true) {b1 b2 : Bool} (h1 : ∀ st, isTs T.prog st v ["list"] = some b1) (h2 : ∀ st, isTs T.prog st v ["tuple"] = some b2)
    (ih : ∀ x ∈ xs, ∀ st, call T.prog d "_law_same" [x, x] st = .ok (.bl true) st) (st : Store) : call T.prog (d + 1) "_law_same" [v, v] st = .ok (.bl true) st := by
  have hall := fun o => same_loop d hl hix hlen ih o st
  have n1 : ∀ st, cmpV st .ne (.bl b1) (.bl b1) = some false := fun st => by cases b1 <;> rfl
  have n2 : ∀ st, cmpV st .ne (.bl b2) (.bl b2) = some false := fun st => by cases b2 <;> rfl
  rw [unf f_same]
  refine run_ret rfl (Ss_ret ?_)
  unfold b__law_same_0
  rw [S_ite, T_isin]
  simp only [E_var, List.map_cons, List.map_nil, List.cons_append, List.nil_append, List.replicate, List.length_cons, List.length_nil, Nat.reduceSub, Nat.reduceAdd, List.getElem?_cons_zero, List.getElem?_cons_succ, R.then_ok, hin, Option.map_some, R.of_some]
  show evalSs T.prog (call T.prog d) [_, _] [some v, some v, none] st = _
  refine (Ss_next (ite_next ?_)).trans (Ss_ret ?_)
  · simp only [E_var, E_non, E_bl, E_int, E_str, E_glob, E_bin, E_neg, E_cmp, E_chain, E_and, E_or, E_not, E_ite, E_tup, E_lstF, E_lstT, E_ix, E_slc, E_attr, E_call, E_make, E_meth, E_bcall, E_bmeth, E_isin, Es_nil, Es_cons, and_one, and_two, or_one, or_two, T_and, T_or, T_not, T_cmp, T_chain, T_var, T_bl, T_attr, T_call, T_bcall, T_ix, T_isin, andT_one, andT_two, orT_one, orT_two, test_nil, test_one, S_expr, S_set, S_sett, S_setc, S_par, S_fld, S_sub, S_ret, S_retN, S_ite, S_for, S_pass, Ss_nil, Ss_cons, R.then_ok, R.of_some, List.getElem?_cons_zero, List.getElem?_cons_succ, Option.map_some, asB, h1, h2, n1, n2]
    try rfl
  · rw [S_ret, E_and, and_two]
    have e1 : evalE T.prog (call T.prog d) (.cmp .eq (.bcall "len" [(.var 0)]) (.bcall "len" [(.var 1)])) [some v, some v, none] st = .ok (.bl true) st := by
      simp only [E_var, E_non, E_bl, E_int, E_str, E_glob, E_bin, E_neg, E_cmp, E_chain, E_and, E_or, E_not, E_ite, E_tup, E_lstF, E_lstT, E_ix, E_slc, E_attr, E_call, E_make, E_meth, E_bcall, E_bmeth, E_isin, Es_nil, Es_cons, and_one, and_two, or_one, or_two, T_and, T_or, T_not, T_cmp, T_chain, T_var, T_bl, T_attr, T_call, T_bcall, T_ix, T_isin, andT_one, andT_two, orT_one, orT_two, test_nil, test_one, S_expr, S_set, S_sett, S_setc, S_par, S_fld, S_sub, S_ret, S_retN, S_ite, S_for, S_pass, Ss_nil, Ss_cons, R.then_ok, R.of_some, List.getElem?_cons_zero, List.getElem?_cons_succ, Option.map_some, asB, hlen, c_eq, beq_self_eq_true]
      try rfl
    rw [e1]
    show (andE T.prog (call T.prog d) [_] [some v, some v, none] st).then_ _ = _
    rw [and_one]
    have := hall none
    unfold sameLoop at this
    rw [this]
    rfl
def dataN : Nat → Val → Bool
  | _, .non | _, .bl _ | _, .int _ | _, .str _ => true
  | n + 1, .tup xs | n + 1, .lst xs => decide (xs.length ≤ 1000) && xs.all (dataN n)
  | _, _ => false
theorem veq_int (i : Int) : veq (.int i) (.int i) = true := beq_self_eq_true i
theorem veq_str (x : Str) : veq (.str x) (.str x) = true := beq_self_eq_true x
theorem same3 {Φ : Cal} {v : Val} {st : Store} (h1 : evalT T.prog Φ (.cmp .isn (.var 1) (.non)) [some v, some v, none] st = .ok false st) (h2 : evalE T.prog Φ (.cmp .notn (.var 0) (.non)) [some v, some v, none] st = .ok (.bl true) st) (h3 : cmpV st .eq v v = some true) : evalS T.prog Φ b__law_same_3 [some v, some v, none] st = .ok (.ret (.bl true)) st := by
  have e : evalE T.prog Φ (.cmp .eq (.var 0) (.var 1)) [some v, some v, none] st = .ok (.bl true) st := by
    rw [E_cmp]
    show R.of ((cmpV st .eq v v).map Val.bl) st = _
    rw [h3]; rfl
  unfold b__law_same_3
  rw [S_ret, E_ite, h1]
  show (evalE T.prog Φ (.and [_, _]) [some v, some v, none] st).then_ _ = _
  rw [E_and, and_two, h2]
  show (andE T.prog Φ [_] [some v, some v, none] st).then_ _ = _
  rw [and_one, e]
  rfl
theorem same_flat (d : Nat) {v : Val} (hv : flat v = true) (st : Store) : call T.prog (d + 1) "_law_same" [v, v] st = .ok (.bl true) st := by
  cases v with
  | non => rfl
  | bl b => cases b <;> rfl
  | int i =>
    have c : ∀ st, cmpV st .eq (.int i) (.int i) = some true := fun st => by rw [c_eq, beq_self_eq_true]
    rw [unf f_same]
    exact run_ret rfl ((Ss_next (s := b__law_same_0) rfl).trans ((Ss_next (s := b__law_same_1) rfl).trans ((Ss_next (s := b__law_same_2) rfl).trans (Ss_ret (s := b__law_same_3) (same3 rfl rfl (c st))))))
  | str x =>
    have c : ∀ st, cmpV st .eq (.str x) (.str x) = some true := fun st => by
      show (if (okD (.str x) && okD (.str x)) = true then some (veq (.str x) (.str x)) else none) = _
      rw [if_pos (show (okD (.str x) && okD (.str x)) = true from rfl), veq_str]
    rw [unf f_same]
    exact run_ret rfl ((Ss_next (s := b__law_same_0) rfl).trans ((Ss_next (s := b__law_same_1) rfl).trans ((Ss_next (s := b__law_same_2) rfl).trans (Ss_ret (s := b__law_same_3) (same3 rfl rfl (c st))))))
  | _ => cases hv
theorem same_refl : ∀ (n : Nat) (v : Val), dataN n v = true → ∀ (d : Nat) (st : Store), call T.prog (d + n + 1) "_law_same" [v, v] st = .ok (.bl true) st
  | n, .non, _, d, st => same_flat (d + n) rfl st
  | n, .bl b, _, d, st => same_flat (d + n) rfl st
  | n, .int i, _, d, st => same_flat (d + n) rfl st
  | n, .str x, _, d, st => same_flat (d + n) rfl st
  | n + 1, .tup xs, h, d, st => by
    replace h : (decide (xs.length ≤ 1000) && xs.all (dataN n)) = true := h
    rw [Bool.and_eq_true, decide_eq_true_eq] at
                                                h
    exact same_seq (b1 := false) (b2 := true) (d + n + 1) (xs := xs) h.1 (fun _ _ => rfl) (fun _ => rfl) (fun _ => rfl) (fun _ => rfl) (fun _ => rfl) (fun x hx st => same_refl n x (List.all_eq_true.mp h.2 x hx) d st) st
  | n + 1, .lst xs, h, d, st => by
    replace h : (decide (xs.length ≤ 1000) && xs.all (dataN n)) = true := h
    rw [Bool.and_eq_true, decide_eq_true_eq] at
                                                h
    exact same_seq (b1 := true) (b2 := false) (d + n + 1) (xs := xs) h.1 (fun _ _ => rfl) (fun _ => rfl) (fun _ => rfl) (fun _ => rfl) (fun _ => rfl) (fun x hx st => same_refl n x (List.all_eq_true.mp h.2 x hx) d st) st
  | 0, .tup _, h, _, _ => by cases h
  | 0, .lst _, h, _, _ => by cases h
  | 0, .ins _ _ _, h, _, _ => by cases h
  | _ + 1, .ins _ _ _, h, _, _ => by cases h
  | 0, .scr _, h, _, _ => by cases h
  | _ + 1, .scr _, h, _, _ => by cases h
  | 0, .ref _, h, _, _ => by cases h
  | _ + 1, .ref _, h, _, _ => by cases h
theorem c_same (d n : Nat) {v : Val} (h : dataN n v = true) (st : Store) : callM T.prog (call T.prog (d + n + 1)) .raw "_law_same" [] [v, v] [] st = .ok (.bl true) st := call_raw (tp := [.pos 0, .pos 1]) rfl rfl (same_refl n v h d st)
end L_k11
end

section
set_option Elab.async false
set_option linter.all false
set_option maxRecDepth 100000
set_option maxHeartbeats
                         1000000
namespace L_k11
open PySem Mp
/-! ### the length of a book -/
theorem f_blen : T.prog.fn "Book.__len__" = some ⟨1, 1, b_Book_len⟩ := rfl
theorem book_len (d : Nat) (s : Sp) (ok : s.ok) (st : Store) : own1M T.prog (call T.prog (d + 1)) true (bookI s) st = .ok (.int s.ls.length) st := by
  have l4 := ok.l4
  refine len_ok (g := "Book.__len__") rfl rfl rfl rfl ?_ ⟨by omega, by omega⟩
  rw [unf f_blen]
  refine run_ret rfl (Ss_ret ?_)
  unfold b_Book_len_0
  have ea : ∀ st, attrM T.prog (call T.prog d) (bookI s) "own_levels" st = .ok (.lst (s.ls.map Lev.ins)) st := fun _ => rfl
  rw [S_ret, E_bcall, Es_cons, E_attr, E_var]
  simp only [List.map_cons, List.map_nil, List.cons_append, List.nil_append, List.replicate, List.length_cons, List.length_nil, Nat.reduceSub, Nat.reduceAdd, List.getElem?_cons_zero, R.then_ok, ea, Es_nil, v_len, R.of_some, List.length_map]
/-! ### the pen in the store -/
structure PenS where
  left : Int
  row : Bool
  late : Bool
  evs : List Val
def penN : List Str := ["own_book", "left", "has_row", "is_late", "happened"]
def penO (b : Val) (h : Nat) (P : PenS) : SO := .ins "Pen" ["own_book", "left", "has_row", "is_late", "happened"] [b, .int P.left, .bl P.row, .bl P.late, .ref h]
def pst (st : Store) (p h : Nat) (b : Val) (P : PenS) : Store := (st.set p (penO b h P)).set h (.lst P.evs)
structure PH (st : Store) (p h : Nat) : Prop where
  lp : p < st.length
  lh : h < st.length
  ne : p ≠ h
section
variable {st : Store} {p h : Nat} {b : Val} {P : PenS} (H : PH st p h)
include H
theorem pst_p : (pst st p h b P)[p]? = some (penO b h P) := by
  unfold pst
  rw [List.getElem?_set_ne (Ne.symm H.ne), List.getElem?_set_self H.lp]
theorem pst_h : (pst st p h b P)[h]? = some (.lst P.evs) := by
  unfold pst
  rw [List.getElem?_set_self (by rw [List.length_set]; exact H.lh)]
theorem pst_setp (P' : PenS) (e : P'.evs = P.evs) : (pst st p h b P).set p (penO b h P') = pst st p h b P' := by
  unfold pst
  rw [List.set_comm _ _ (Ne.symm H.ne), List.set_set, e]
theorem pst_seth (es : List Val) : (pst st p h b P).set h (.lst es) = pst st p h b { P with evs := es } := by
  unfold pst
  rw [List.set_set]
  rfl
theorem pen_ins : insOf (pst st p h b P) (.ref p) = some (("Pen" : Str), penN, [b, .int P.left, .bl P.row, .bl P.late, .ref h]) := by
  unfold insOf
  simp only [pst_p H]
  rfl
theorem pen_left (Φ : Cal) : attrM T.prog Φ (.ref p) "left" (pst st p h b P) = .ok (.int P.left) (pst st p h b P) := by
  unfold attrM
  rw [pen_ins H]; rfl
theorem pen_book (Φ : Cal) : attrM T.prog Φ (.ref p) "own_book" (pst st p h b P) = .ok b (pst st p h b P) := by
  unfold attrM
  rw [pen_ins H]; rfl
theorem pen_row (Φ : Cal) : attrM T.prog Φ (.ref p) "has_row" (pst st p h b P) = .ok (.bl P.row) (pst st p h b P) := by
  unfold attrM
  rw [pen_ins H]; rfl
theorem pen_late (Φ : Cal) : attrM T.prog Φ (.ref p) "is_late" (pst st p h b P) = .ok (.bl P.late) (pst st p h b P) := by
  unfold attrM
  rw [pen_ins H]; rfl
theorem pen_hap (Φ : Cal) : attrM T.prog Φ (.ref p) "happened" (pst st p h b P) = .ok (.ref h) (pst st p h b P) := by
  unfold attrM
  rw [pen_ins H]; rfl
theorem set_left (i : Int) : fldSet T.prog (pst st p h b P) (.ref p) "left" (.int i) = some (pst st p h b { P with left := i }) := by
  unfold fldSet
  simp only [pst_p H]
  exact congrArg some (pst_setp H { P with left := i } rfl)
theorem set_row (v : Bool) : fldSet T.prog (pst st p h b P) (.ref p) "has_row" (.bl v) = some (pst st p h b { P with row := v }) := by
  unfold fldSet
  simp only [pst_p H]
  exact congrArg some (pst_setp H { P with row := v } rfl)
theorem set_late (v : Bool) : fldSet T.prog (pst st p h b P) (.ref p) "is_late" (.bl v) = some (pst st p h b { P with late := v }) := by
  unfold fldSet
  simp only [pst_p H]
  exact congrArg some (pst_setp H { P with late := v } rfl)
theorem get_left : fldGet T.prog (pst st p h b P) (.ref p) "left" = some (("Pen" : Str), P.left) := by
  unfold fldGet
  rw [pen_ins H]; rfl
theorem app_ty : bmTy (pst st p h b P) "append" (.ref h) = true := by
  unfold bmTy lstOf
  simp only [pst_h H]
  rfl
theorem app_h (v : Val) (hn : P.evs.length ≤ 100000) : bmV (pst st p h b P) "append" (.ref h) [v] = some (.non, pst st p h b { P with evs := P.evs ++ [v] }) := by
  have e : bmV (pst st p h b P) "append" (.ref h) [v] = appendV (pst st p h b P) (.ref h) [v] := rfl
  rw [e]
  unfold appendV
  simp only [pst_h H]
  rw [if_pos (by show _ < (2 ^ 24 : Nat); omega), pst_seth H]
theorem meth_g {f g : Str} {n : Nat} (h1 : T.prog.meth "Pen" f = some g) (h2 : (T.prog.bind g n []).isSome = true) (h3 : fld penN [b, .int P.left, .bl P.row, .bl P.late, .ref h] f = none) : methG T.prog (.ref p) f n (pst st p h b P) = some g := by
  obtain ⟨tp, e⟩ := Option.isSome_iff_exists.mp h2
  unfold methG
  rw [pen_ins H]
  simp only [show T.prog.isc "Pen" = true from rfl, h1, h3, e]
end
/-! ### bands -/
inductive Band where
  | head (i : Nat) | row (k : Nat) | foot (i : Nat)
def Band.val : Band → Val
  | .head i => .tup [.str "head", .int i]
  | .row k => .tup [.str "row", .int k]
  | .foot i => .tup [.str "foot", .int i]
def lev0 : Lev := ⟨0, 0, false, false⟩
def lv (s : Sp) (i : Nat) : Lev := s.ls.getD i lev0
def Band.lines (s : Sp) : Band → Int
  | .head i => (lv s i).h
  | .row k => s.ks.getD k 0
  | .foot i => (lv s i).f
def Band.ok (s : Sp) : Band → Prop
  | .head i | .foot i => i < s.ls.length
  | .row k => k < s.ks.length
def Band.fresh (s : Sp) : Band → Bool
  | .head i => (lv s i).b
  | _ => false
theorem at_lev {s : Sp} {i : Nat} (hi : i < s.ls.length) (st : Store) : ixV st (.lst (s.ls.map Lev.ins)) (.int i) = some (lv s i).ins := by
  have hk : i < (s.ls.map Lev.ins).length := by rw [List.length_map]; exact hi
  show L2.atI _ _ = _
  rw [at_nat i hk]
  unfold lv
  simp [List.getD, hi]
theorem at_kind {s : Sp} {i : Nat} (hi : i < s.ks.length) (st : Store) : ixV st (.lst (s.ks.map Val.int)) (.int i) = some (.int (s.ks.getD i 0)) := by
  have hk : i < (s.ks.map Val.int).length := by rw [List.length_map]; exact hi
  show L2.atI _ _ = _
  rw [at_nat i hk]
  simp [List.getD, hi]
theorem bk_levels (Φ : Cal) (s : Sp) (st : Store) : attrM T.prog Φ (bookI s) "own_levels" st = .ok (.lst (s.ls.map Lev.ins)) st := rfl
theorem bk_kinds (Φ : Cal) (s : Sp) (st : Store) : attrM T.prog Φ (bookI s) "own_kinds" st = .ok (.lst (s.ks.map Val.int)) st := rfl
theorem bk_h (Φ : Cal) (s : Sp) (st : Store) : attrM T.prog Φ (bookI s) "height" st = .ok (.int s.ht) st := rfl
theorem bk_t (Φ : Cal) (s : Sp) (st : Store) : attrM T.prog Φ (bookI s) "top" st = .ok (.int s.t) st := rfl
theorem bk_b (Φ : Cal) (s : Sp) (st : Store) : attrM T.prog Φ (bookI s) "bottom" st = .ok (.int s.b) st := rfl
theorem bk_lead (Φ : Cal) (s : Sp) (st : Store) : attrM T.prog Φ (bookI s) "lead" st = .ok (.int s.lead) st := rfl
theorem bk_hold (Φ : Cal) (s : Sp) (st : Store) : attrM T.prog Φ (bookI s) "hold" st = .ok (.int s.hold) st := rfl
theorem lv_head (Φ : Cal) (l : Lev) (st : Store) : attrM T.prog Φ l.ins "head" st = .ok (.int l.h) st := rfl
theorem lv_foot (Φ : Cal) (l : Lev) (st : Store) : attrM T.prog Φ l.ins "foot" st = .ok (.int l.f) st := rfl
theorem lv_again (Φ : Cal) (l : Lev) (st : Store) : attrM T.prog Φ l.ins "again" st = .ok (.bl l.a) st := rfl
theorem lv_fresh (Φ : Cal) (l : Lev) (st : Store) : attrM T.prog Φ l.ins "fresh" st = .ok (.bl l.b) st := rfl
theorem f_lines : T.prog.fn "band_lines" = some ⟨2, 3, b_band_lines⟩ := rfl
theorem c_lines (d : Nat) (s : Sp) (bd : Band) (ok : bd.ok s) (st : Store) : callM T.prog (call T.prog (d + 1)) .raw "band_lines" [] [bookI s, bd.val] [] st = .ok (.int (bd.lines s)) st := by
  refine call_raw (tp := [.pos 0, .pos 1]) rfl rfl ?_
  rw [unf f_lines]
  cases bd with
  | head i =>
    have a1 := fun st => at_lev (s := s) ok st
    have q0 : evalS T.prog (call T.prog d) b_band_lines_0 [some (bookI s), some (Band.head i).val, none] st = .ok (.next [some (bookI s), some (Band.head i).val, none]) st := rfl
    have x1 : ∀ st, ixV st (Band.head i).val (.int 1) = some (.int i) := fun _ => rfl
    refine run_ret rfl ((Ss_next q0).trans ((Ss_next (env' := [some (bookI s), some (Band.head i).val, some (lv s i).ins]) (st' := st) ?_).trans (Ss_ret rfl)))
    unfold b_band_lines_1
    simp only [E_var, E_non, E_bl, E_int, E_str, E_glob, E_bin, E_neg, E_cmp, E_chain, E_and, E_or, E_not, E_ite, E_tup, E_lstF, E_lstT, E_ix, E_slc, E_attr, E_call, E_make, E_meth, E_bcall, E_bmeth, E_isin, Es_nil, Es_cons, and_one, and_two, or_one, or_two, T_and, T_or, T_not, T_cmp, T_chain, T_var, T_bl, T_attr, T_call, T_bcall, T_ix, T_isin, andT_one, andT_two, orT_one, orT_two, test_nil, test_one, S_expr, S_set, S_sett, S_setc, S_par, S_fld, S_sub, S_ret, S_retN, S_ite, S_for, S_pass, Ss_nil, Ss_cons, R.then_ok, R.of_some, List.getElem?_cons_zero, List.getElem?_cons_succ, Option.map_some, asB, bk_levels, x1, a1]
    rfl
  | row k =>
    have a1 := fun st => at_kind (s := s) ok st
    have x1 : ∀ st, ixV st (Band.row k).val (.int 1) = some (.int k) := fun _ => rfl
    have x0 : ∀ st, ixV st (Band.row k).val (.int 0) = some (.str "row") := fun _ => rfl
    have c0 : ∀ st, cmpV st .eq (.str "row") (.str "row") = some true := fun _ => rfl
    refine run_ret rfl (Ss_ret ?_)
    unfold b_band_lines_0
    simp only [E_var, E_non, E_bl, E_int, E_str, E_glob, E_bin, E_neg, E_cmp, E_chain, E_and, E_or, E_not, E_ite, E_tup, E_lstF, E_lstT, E_ix, E_slc, E_attr, E_call, E_make, E_meth, E_bcall, E_bmeth, E_isin, Es_nil, Es_cons, and_one, and_two, or_one, or_two, T_and, T_or, T_not, T_cmp, T_chain, T_var, T_bl, T_attr, T_call, T_bcall, T_ix, T_isin, andT_one, andT_two, orT_one, orT_two, test_nil, test_one, S_expr, S_set, S_sett, S_setc, S_par, S_fld, S_sub, S_ret, S_retN, S_ite, S_for, S_pass, Ss_nil, Ss_cons, R.then_ok, R.of_some, List.getElem?_cons_zero, List.getElem?_cons_succ, Option.map_some, asB, List.map_cons, List.map_nil, List.cons_append, List.nil_append, List.replicate, List.length_cons, List.length_nil, Nat.reduceSub, Nat.reduceAdd, bk_kinds, x0, x1, c0, a1]
    rfl
  | foot i =>
    have a1 := fun st => at_lev (s := s) ok st
    have q0 : evalS T.prog (call T.prog d) b_band_lines_0 [some (bookI s), some (Band.foot i).val, none] st = .ok (.next [some (bookI s), some (Band.foot i).val, none]) st := rfl
    have x1 : ∀ st, ixV st (Band.foot i).val (.int 1) = some (.int i) := fun _ => rfl
    refine run_ret rfl ((Ss_next q0).trans ((Ss_next (env' := [some (bookI s), some (Band.foot i).val, some (lv s i).ins]) (st' := st) ?_).trans (Ss_ret rfl)))
    unfold b_band_lines_1
    simp only [E_var, E_non, E_bl, E_int, E_str, E_glob, E_bin, E_neg, E_cmp, E_chain, E_and, E_or, E_not, E_ite, E_tup, E_lstF, E_lstT, E_ix, E_slc, E_attr, E_call, E_make, E_meth, E_bcall, E_bmeth, E_isin, Es_nil, Es_cons, and_one, and_two, or_one, or_two, T_and, T_or, T_not, T_cmp, T_chain, T_var, T_bl, T_attr, T_call, T_bcall, T_ix, T_isin, andT_one, andT_two, orT_one, orT_two, test_nil, test_one, S_expr, S_set, S_sett, S_setc, S_par, S_fld, S_sub, S_ret, S_retN, S_ite, S_for, S_pass, Ss_nil, Ss_cons, R.then_ok, R.of_some, List.getElem?_cons_zero, List.getElem?_cons_succ, Option.map_some, asB, bk_levels, x1, a1]
    rfl
end L_k11
end

section
set_option Elab.async false
set_option linter.all false
set_option maxRecDepth 100000
set_option maxHeartbeats
                         1000000
namespace L_k11
open PySem Mp
theorem S_fldaug (P : Prog) (Φ : Cal) (env : Mp.Env) (st : Store) (o e : ME) (f : Str) (op : Bop) : evalS P Φ (.fldaug o f op e) env st = (evalE P Φ o env st).then_ fun x st => match fldGet P st x f with
    | none => .stuck
    | some (c, i) => (evalE P Φ e env st).then_ fun v st => match binJ op i v with
      | none => .stuck
      | some k => if (insOf st x).map (·.1) = some c then (match fldSet P st x f (.int k) with
          | some st' => .ok (.next env) st'
          | none => .stuck) else .stuck := rfl
theorem comp_list {f : Val → Store → R (Option Val)} {st : Store} {α : Type} (mk : α → Val) (g : α → Option Val) : ∀ (L : List α), (∀ a ∈ L, f (mk a) st = .ok (g a) st) → ∀ acc, compL f [] (L.map mk) acc st = .ok (acc ++ L.filterMap g) st
  | [], _, acc => by simp; rfl
  | x :: r, hs, acc => by
    have e := hs x (by simp)
    have ih := fun acc => comp_list mk g r (fun z hz => hs z (List.mem_cons_of_mem _ hz)) acc
    show (noErr (f (mk x) st)).then_ _ = _
    rw [e]
    cases hg : g x with
    | none =>
      show compL f [] (r.map mk) acc st = _
      rw [ih, List.filterMap_cons_none hg]
    | some y =>
      show compL f [] (r.map mk) (acc ++ [y]) st = _
      rw [ih, List.filterMap_cons_some hg, List.append_assoc]; rfl
theorem fm_map {α : Type} (L : List α) (g : α → Val) : L.filterMap (fun a => some (g a)) = L.map g := by
  induction L with
  | nil => rfl
  | cons a r ih => rw [List.filterMap_cons_some (f := fun a => some (g a)) (b := g a) rfl, ih, List.map_cons]
theorem fm_if {α : Type} (L : List α) (c : α → Bool) (g : α → Val) : L.filterMap (fun a => if c a = true then some (g a) else none) = (L.filter c).map g := by
  induction L with
  | nil => rfl
  | cons a r ih =>
    cases h : c a with
    | true => rw [List.filterMap_cons_some (by rw [h]; rfl), ih, List.filter_cons_of_pos h, List.map_cons]
    | false => rw [List.filterMap_cons_none (by rw [h]; rfl), ih, List.filter_cons_of_neg (by rw [h]; decide)]
theorem any_ok (bs : List Bool) (st : Store) : bV st "any" [.lst (bs.map Val.bl)] = some (.bl (bs.any id)) := by
  have h : ∀ l : List Bool, boolL (l.map Val.bl) = some l := by
    intro l
    induction l with
    | nil => rfl
    | cons a l ih =>
      show (boolL (l.map Val.bl)).map (a :: ·) = _
      rw [ih]; rfl
  show (boolL (bs.map Val.bl)).map (fun bs => Val.bl (bs.any id)) = _
  rw [h]; rfl
/-! ### levels whose heads are repeated -/
def againL (s : Sp) (n : Nat) : List Nat := (List.range n).filter fun i => (lv s i).a && decide (0 < (lv s i).h)
def Band.cut (s : Sp) : Band → Nat
  | .head i => i
  | .foot i => i + 1
  | .row _ => s.ls.length
theorem cut_le {s : Sp} {bd : Band} (ok : bd.ok s) : bd.cut s ≤ s.ls.length := by
  cases bd with
  | head i => exact Nat.le_of_lt ok
  | row k => exact Nat.le_refl _
  | foot i => exact ok
theorem f_rep : T.prog.fn "repeated_levels" = some ⟨2, 4, b_repeated_levels⟩ := rfl
theorem c_rep (d : Nat) (s : Sp) (sok : s.ok) (bd : Band) (ok : bd.ok s) (st : Store) : callM T.prog (call T.prog (d + 2)) .raw "repeated_levels" [] [bookI s, bd.val] [] st = .ok (.tup ((againL s (bd.cut s)).map fun (i : Nat) => Val.int (0 + (i : Int)))) st := by
  have l4 := sok.l4
  have hc := cut_le ok
  refine call_raw (tp := [.pos 0, .pos 1]) rfl rfl ?_
  rw [unf f_rep]
  have hl := fun st => book_len d s sok st
  have q0 : evalS T.prog (call T.prog (d + 1)) b_repeated_levels_0 [some (bookI s), some bd.val, none, none] st = .ok (.next [some (bookI s), some bd.val, some (.int s.ls.length), none]) st := by
    unfold b_repeated_levels_0
    simp only [E_var, E_non, E_bl, E_int, E_str, E_glob, E_bin, E_neg, E_cmp, E_chain, E_and, E_or, E_not, E_ite, E_tup, E_lstF, E_lstT, E_ix, E_slc, E_attr, E_call, E_make, E_meth, E_bcall, E_bmeth, E_isin, Es_nil, Es_cons, and_one, and_two, or_one, or_two, T_and, T_or, T_not, T_cmp, T_chain, T_var, T_bl, T_attr, T_call, T_bcall, T_ix, T_isin, andT_one, andT_two, orT_one, orT_two, test_nil, test_one, S_expr, S_set, S_sett, S_setc, S_par, S_fld, S_sub, S_ret, S_retN, S_ite, S_for, S_pass, Ss_nil, Ss_cons, R.then_ok, R.of_some, List.getElem?_cons_zero, List.getElem?_cons_succ, Option.map_some, asB, E_own1, hl]
    rfl
  have q1 : evalS T.prog (call T.prog (d + 1)) b_repeated_levels_1 [some (bookI s), some bd.val, some (.int s.ls.length), none] st = .ok (.next [some (bookI s), some bd.val, some (.int (bd.cut s)), none]) st := by
    cases bd <;> rfl
  have turn : ∀ i ∈ List.range (bd.cut s), turnF T.prog (call T.prog (d + 1)) (.v 3) (.var 3) [(.and [(.attr (.ix (.attr (.var 0) "own_levels") (.var 3)) "again"), (.cmp .gt (.attr (.ix (.attr (.var 0) "own_levels") (.var 3)) "head") (.int 0))])] [some (bookI s), some bd.val, some (.int (bd.cut s)), none] (Val.int (0 + (i : Int))) st = .ok (if ((lv s i).a && decide (0 < (lv s i).h)) = true then some (Val.int (0 + (i : Int))) else none) st := by
    intro i hi
    have hi' := List.mem_range.mp
                                  hi
    have a1 : ∀ st, ixV st (.lst (s.ls.map Lev.ins)) (.int (0 + (i : Int))) = some (lv s i).ins := fun st => by rw [Int.zero_add]; exact at_lev (by omega) st
    have tb : ∀ b st, truV st (.bl b) = some b := fun _ _ => rfl
    unfold turnF
    cases h1 : (lv s i).a <;> cases h2 : decide (0 < (lv s i).h) <;>
      simp only [E_var, E_non, E_bl, E_int, E_str, E_glob, E_bin, E_neg, E_cmp, E_chain, E_and, E_or, E_not, E_ite, E_tup, E_lstF, E_lstT, E_ix, E_slc, E_attr, E_call, E_make, E_meth, E_bcall, E_bmeth, E_isin, Es_nil, Es_cons, and_one, and_two, or_one, or_two, T_and, T_or, T_not, T_cmp, T_chain, T_var, T_bl, T_attr, T_call, T_bcall, T_ix, T_isin, andT_one, andT_two, orT_one, orT_two, test_nil, test_one, S_expr, S_set, S_sett, S_setc, S_par, S_fld, S_sub, S_ret, S_retN, S_ite, S_for, S_pass, Ss_nil, Ss_cons, R.then_ok, R.of_some, List.getElem?_cons_zero, List.getElem?_cons_succ, Option.map_some, asB, bindT, slots, wipeE, List.length_cons, List.length_nil, List.set_cons_succ, List.set_cons_zero, Nat.reduceAdd, Nat.reduceLT, if_true, bk_levels, a1, lv_again, lv_head, tb, c_gt, h1, h2] <;> rfl
  have hcomp := comp_ok (P := T.prog) (by rw [List.length_map, List.length_range]; show _ ≤ (2 ^ 24 : Nat); omega) (comp_list (fun i : Nat => Val.int (0 + (i : Int))) _ (List.range (bd.cut s)) turn [])
  rw [List.nil_append, fm_if] at hcomp
  refine run_ret rfl ((Ss_next q0).trans ((Ss_next q1).trans (Ss_ret ?_)))
  have hsrc : srcE T.prog (call T.prog (d + 1)) .range1 [(.var 2)] [some (bookI s), some bd.val, some (.int (bd.cut s)), none] st = .ok ((List.range (bd.cut s)).map fun (k : Nat) => Val.int (0 + (k : Int)), []) st := by
    unfold srcE
    simp only [Es_cons, Es_nil, E_var, R.then_ok, R.of_some, List.getElem?_cons_zero, List.getElem?_cons_succ]
    show R.of (if _ then _ else none) st = _
    rw [if_pos (by omega)]; rfl
  unfold b_repeated_levels_2
  rw [S_ret, E_bcall, Es_cons, E_comp, hsrc, R.then_ok, hcomp]
  rfl
/-! ### one page ends, another begins -/
def endP (P : PenS) : PenS := { P with left := -1, evs := P.evs ++ [.tup [.str "end", .int P.left]] }
def againV (s : Sp) (bd : Band) : Val := .tup ((againL s (bd.cut s)).map fun (i : Nat) => Val.int (0 + (i : Int)))
def beginP (s : Sp) (bd : Band) (P : PenS) : PenS := ⟨s.ht - s.t - s.b - ((againL s (bd.cut s)).map fun i => (lv s i).h).sum, false, false, P.evs ++ [.tup [.str "begin", againV s bd]]⟩
def setP (s : Sp) (bd : Band) (P : PenS) : PenS := match bd with
  | .head _ => { P with left := P.left - bd.lines s, late := true, evs := P.evs ++ [bd.val] }
  | .row _ => ⟨P.left - bd.lines s, true, false, P.evs ++ [bd.val]⟩
  | .foot _ => { P with left := P.left - bd.lines s, evs := P.evs ++ [bd.val] }
theorem f_end : T.prog.fn "Pen.end_page" = some ⟨1, 1, b_Pen_end_page⟩ := rfl
theorem f_begin : T.prog.fn "Pen.begin_page" = some ⟨2, 6, b_Pen_begin_page⟩ := rfl
theorem f_band : T.prog.fn "Pen.set_band" = some ⟨2, 2, b_Pen_set_band⟩ := rfl
section
variable {st : Store} {p h : Nat} (H : PH st p h)
include H
theorem end_ok (d : Nat) (b : Val) (P : PenS) (hn : P.evs.length ≤ 100000) : call T.prog (d + 1) "Pen.end_page" [.ref p] (pst st p h b P) = .ok .non (pst st p h b (endP P)) := by
  rw [unf f_end]
  have q0 : evalS T.prog (call T.prog d) b_Pen_end_page_0 [some (.ref p)] (pst st p h b P) = .ok (.next [some (.ref p)]) (pst st p h b { P with evs := P.evs ++ [.tup [.str "end", .int P.left]] }) := by
    unfold b_Pen_end_page_0
    simp only [E_var, E_non, E_bl, E_int, E_str, E_glob, E_bin, E_neg, E_cmp, E_chain, E_and, E_or, E_not, E_ite, E_tup, E_lstF, E_lstT, E_ix, E_slc, E_attr, E_call, E_make, E_meth, E_bcall, E_bmeth, E_isin, Es_nil, Es_cons, and_one, and_two, or_one, or_two, T_and, T_or, T_not, T_cmp, T_chain, T_var, T_bl, T_attr, T_call, T_bcall, T_ix, T_isin, andT_one, andT_two, orT_one, orT_two, test_nil, test_one, S_expr, S_set, S_sett, S_setc, S_par, S_fld, S_sub, S_ret, S_retN, S_ite, S_for, S_pass, Ss_nil, Ss_cons, R.then_ok, R.of_some, List.getElem?_cons_zero, List.getElem?_cons_succ, Option.map_some, asB, pen_hap H, app_ty H, pen_left H, app_h H _ hn]
  have q1 : evalS T.prog (call T.prog d) b_Pen_end_page_1 [some (.ref p)] (pst st p h b { P with evs := P.evs ++ [.tup [.str "end", .int P.left]] }) = .ok (.next [some (.ref p)]) (pst st p h b (endP P)) := by
    unfold b_Pen_end_page_1
    simp only [E_var, E_non, E_bl, E_int, E_str, E_glob, E_bin, E_neg, E_cmp, E_chain, E_and, E_or, E_not, E_ite, E_tup, E_lstF, E_lstT, E_ix, E_slc, E_attr, E_call, E_make, E_meth, E_bcall, E_bmeth, E_isin, Es_nil, Es_cons, and_one, and_two, or_one, or_two, T_and, T_or, T_not, T_cmp, T_chain, T_var, T_bl, T_attr, T_call, T_bcall, T_ix, T_isin, andT_one, andT_two, orT_one, orT_two, test_nil, test_one, S_expr, S_set, S_sett, S_setc, S_par, S_fld, S_sub, S_ret, S_retN, S_ite, S_for, S_pass, Ss_nil, Ss_cons, R.then_ok, R.of_some, List.getElem?_cons_zero, List.getElem?_cons_succ, Option.map_some, asB, set_left H]
    rfl
  exact run_next rfl ((Ss_next q0).trans ((Ss_next q1).trans rfl))
theorem begin_ok (d : Nat) (s : Sp) (sok : s.ok) (bd : Band) (ok : bd.ok s) (P : PenS) (hn : P.evs.length ≤ 100000) : call T.prog (d + 3) "Pen.begin_page" [.ref p, bd.val] (pst st p h (bookI s) P) = .ok .non (pst st p h (bookI s) (beginP s bd P)) := by
  have l4 := sok.l4
  have hc := cut_le ok
  rw [unf f_begin]
  have hr := fun st => c_rep d s sok bd ok st
  have q0 : evalS T.prog (call T.prog (d + 2)) b_Pen_begin_page_0 [some (.ref p), some bd.val, none, none, none, none] (pst st p h (bookI s) P) = .ok (.next [some (.ref p), some bd.val, some (bookI s), some (againV s bd), none, none]) (pst st p h (bookI s) P) := by
    unfold b_Pen_begin_page_0
    simp only [E_var, E_non, E_bl, E_int, E_str, E_glob, E_bin, E_neg, E_cmp, E_chain, E_and, E_or, E_not, E_ite, E_tup, E_lstF, E_lstT, E_ix, E_slc, E_attr, E_call, E_make, E_meth, E_bcall, E_bmeth, E_isin, Es_nil, Es_cons, and_one, and_two, or_one, or_two, T_and, T_or, T_not, T_cmp, T_chain, T_var, T_bl, T_attr, T_call, T_bcall, T_ix, T_isin, andT_one, andT_two, orT_one, orT_two, test_nil, test_one, S_expr, S_set, S_sett, S_setc, S_par, S_fld, S_sub, S_ret, S_retN, S_ite, S_for, S_pass, Ss_nil, Ss_cons, R.then_ok, R.of_some, List.getElem?_cons_zero, List.getElem?_cons_succ, Option.map_some, asB, pen_book H, hr]
    rfl
  have hlt : ∀ i ∈ againL s (bd.cut s), i < s.ls.length := fun i hi => by
    have := List.mem_range.mp (List.mem_filter.mp hi).1
    omega
  have turn : ∀ i ∈ againL s (bd.cut s), turnF T.prog (call T.prog (d + 2)) (.v 5) (.attr (.ix (.attr (.var 2) "own_levels") (.var 5)) "head") [] [some (.ref p), some bd.val, some (bookI s), some (againV s bd), none, none] (Val.int (0 + (i : Int))) (pst st p h (bookI s) P) = .ok (some (Val.int (lv s i).h)) (pst st p h (bookI s) P) := by
    intro i hi
    have a1 : ∀ st, ixV st (.lst (s.ls.map Lev.ins)) (.int (0 + (i : Int))) = some (lv s i).ins := fun st => by rw [Int.zero_add]; exact at_lev (hlt i hi) st
    unfold turnF
    simp only [E_var, E_non, E_bl, E_int, E_str, E_glob, E_bin, E_neg, E_cmp, E_chain, E_and, E_or, E_not, E_ite, E_tup, E_lstF, E_lstT, E_ix, E_slc, E_attr, E_call, E_make, E_meth, E_bcall, E_bmeth, E_isin, Es_nil, Es_cons, and_one, and_two, or_one, or_two, T_and, T_or, T_not, T_cmp, T_chain, T_var, T_bl, T_attr, T_call, T_bcall, T_ix, T_isin, andT_one, andT_two, orT_one, orT_two, test_nil, test_one, S_expr, S_set, S_sett, S_setc, S_par, S_fld, S_sub, S_ret, S_retN, S_ite, S_for, S_pass, Ss_nil, Ss_cons, R.then_ok, R.of_some, List.getElem?_cons_zero, List.getElem?_cons_succ, Option.map_some, asB, bindT, slots, wipeE, List.length_cons, List.length_nil, List.set_cons_succ, List.set_cons_zero, Nat.reduceAdd, Nat.reduceLT, if_true, bk_levels, a1, lv_head]
  have hlen : (againL s (bd.cut s)).length ≤ 4 := by
    have := List.length_filter_le (fun i => (lv s i).a && decide (0 < (lv s i).h)) (List.range (bd.cut s))
    rw [List.length_range] at this
    unfold againL
    omega
  have hcomp := comp_ok (P := T.prog) (by rw [List.length_map]; show _ ≤ (2 ^ 24 : Nat); omega) (comp_list (fun i : Nat => Val.int (0 + (i : Int))) _ (againL s (bd.cut s)) turn [])
  rw [List.nil_append, fm_map] at hcomp
  have q1 : evalS T.prog (call T.prog (d + 2)) b_Pen_begin_page_1 [some (.ref p), some bd.val, some (bookI s), some (againV s bd), none, none] (pst st p h (bookI s) P) = .ok (.next [some (.ref p), some bd.val, some (bookI s), some (againV s bd), some (.int ((againL s (bd.cut s)).map fun i => (lv s i).h).sum), none]) (pst st p h (bookI s) P) := by
    have hsrc : srcE T.prog (call T.prog (d + 2)) .seq [(.var 3)] [some (.ref p), some bd.val, some (bookI s), some (againV s bd), none, none] (pst st p h (bookI s) P) = .ok ((againL s (bd.cut s)).map fun (i : Nat) => Val.int (0 + (i : Int)), []) (pst st p h (bookI s) P) := rfl
    have hsum := v_sum ((againL s (bd.cut s)).map fun i => (lv s i).h) (pst st p h (bookI s) P)
    rw [List.map_map] at hsum
    unfold b_Pen_begin_page_1
    rw [S_set, E_bcall, Es_cons, E_comp, hsrc, R.then_ok, hcomp, R.then_ok, Es_nil, R.then_ok, R.then_ok]
    show (R.of (bV _ "sum" [.lst ((againL s (bd.cut s)).map (Val.int ∘ fun i => (lv s i).h))]) _).then_ _ = _
    rw [hsum]
    rfl
  have q2 : evalS T.prog (call T.prog (d + 2)) b_Pen_begin_page_2 [some (.ref p), some bd.val, some (bookI s), some (againV s bd), some (.int ((againL s (bd.cut s)).map fun i => (lv s i).h).sum), none] (pst st p h (bookI s) P) = .ok (.next [some (.ref p), some bd.val, some (bookI s), some (againV s bd), some (.int ((againL s (bd.cut s)).map fun i => (lv s i).h).sum), none]) (pst st p h (bookI s) { P with left := s.ht - s.t - s.b - ((againL s (bd.cut s)).map fun i => (lv s i).h).sum }) := by
    unfold b_Pen_begin_page_2
    simp only [E_var, E_non, E_bl, E_int, E_str, E_glob, E_bin, E_neg, E_cmp, E_chain, E_and, E_or, E_not, E_ite, E_tup, E_lstF, E_lstT, E_ix, E_slc, E_attr, E_call, E_make, E_meth, E_bcall, E_bmeth, E_isin, Es_nil, Es_cons, and_one, and_two, or_one, or_two, T_and, T_or, T_not, T_cmp, T_chain, T_var, T_bl, T_attr, T_call, T_bcall, T_ix, T_isin, andT_one, andT_two, orT_one, orT_two, test_nil, test_one, S_expr, S_set, S_sett, S_setc, S_par, S_fld, S_sub, S_ret, S_retN, S_ite, S_for, S_pass, Ss_nil, Ss_cons, R.then_ok, R.of_some, List.getElem?_cons_zero, List.getElem?_cons_succ, Option.map_some, asB, bk_h, bk_t, bk_b, b_sub, set_left H]
  generalize hz : s.ht - s.t - s.b - ((againL s (bd.cut s)).map fun i => (lv s i).h).sum = z at *
  generalize hy : ((againL s (bd.cut s)).map fun i => (lv s i).h).sum = y at *
  have q3 : evalS T.prog (call T.prog (d + 2)) b_Pen_begin_page_3 [some (.ref p), some bd.val, some (bookI s), some (againV s bd), some (.int y), none] (pst st p h (bookI s) { P with left := z }) = .ok (.next [some (.ref p), some bd.val, some (bookI s), some (againV s bd), some (.int y), none]) (pst st p h (bookI s) { P with left := z, row := false }) := by
    unfold b_Pen_begin_page_3
    simp only [E_var, E_non, E_bl, E_int, E_str, E_glob, E_bin, E_neg, E_cmp, E_chain, E_and, E_or, E_not, E_ite, E_tup, E_lstF, E_lstT, E_ix, E_slc, E_attr, E_call, E_make, E_meth, E_bcall, E_bmeth, E_isin, Es_nil, Es_cons, and_one, and_two, or_one, or_two, T_and, T_or, T_not, T_cmp, T_chain, T_var, T_bl, T_attr, T_call, T_bcall, T_ix, T_isin, andT_one, andT_two, orT_one, orT_two, test_nil, test_one, S_expr, S_set, S_sett, S_setc, S_par, S_fld, S_sub, S_ret, S_retN, S_ite, S_for, S_pass, Ss_nil, Ss_cons, R.then_ok, R.of_some, List.getElem?_cons_zero, List.getElem?_cons_succ, Option.map_some, asB, set_row H]
  have q4 : evalS T.prog (call T.prog (d + 2)) b_Pen_begin_page_4 [some (.ref p), some bd.val, some (bookI s), some (againV s bd), some (.int y), none] (pst st p h (bookI s) { P with left := z, row := false }) = .ok (.next [some (.ref p), some bd.val, some (bookI s), some (againV s bd), some (.int y), none]) (pst st p h (bookI s) { P with left := z, row := false, late := false }) := by
    unfold b_Pen_begin_page_4
    simp only [E_var, E_non, E_bl, E_int, E_str, E_glob, E_bin, E_neg, E_cmp, E_chain, E_and, E_or, E_not, E_ite, E_tup, E_lstF, E_lstT, E_ix, E_slc, E_attr, E_call, E_make, E_meth, E_bcall, E_bmeth, E_isin, Es_nil, Es_cons, and_one, and_two, or_one, or_two, T_and, T_or, T_not, T_cmp, T_chain, T_var, T_bl, T_attr, T_call, T_bcall, T_ix, T_isin, andT_one, andT_two, orT_one, orT_two, test_nil, test_one, S_expr, S_set, S_sett, S_setc, S_par, S_fld, S_sub, S_ret, S_retN, S_ite, S_for, S_pass, Ss_nil, Ss_cons, R.then_ok, R.of_some, List.getElem?_cons_zero, List.getElem?_cons_succ, Option.map_some, asB, set_late H]
  have q5 : evalS T.prog (call T.prog (d + 2)) b_Pen_begin_page_5 [some (.ref p), some bd.val, some (bookI s), some (againV s bd), some (.int y), none] (pst st p h (bookI s) { P with left := z, row := false, late := false }) = .ok (.next [some (.ref p), some bd.val, some (bookI s), some (againV s bd), some (.int y), none]) (pst st p h (bookI s) (beginP s bd P)) := by
    have e : beginP s bd P = ⟨z, false, false, P.evs ++ [.tup [.str "begin", againV s bd]]⟩ := by
      unfold beginP
      rw [hy, hz]
    rw [e]
    have ha := app_h (b := bookI s) (P := ⟨z, false, false, P.evs⟩) H (.tup [.str "begin", againV s bd]) hn
    unfold b_Pen_begin_page_5
    simp only [E_var, E_non, E_bl, E_int, E_str, E_glob, E_bin, E_neg, E_cmp, E_chain, E_and, E_or, E_not, E_ite, E_tup, E_lstF, E_lstT, E_ix, E_slc, E_attr, E_call, E_make, E_meth, E_bcall, E_bmeth, E_isin, Es_nil, Es_cons, and_one, and_two, or_one, or_two, T_and, T_or, T_not, T_cmp, T_chain, T_var, T_bl, T_attr, T_call, T_bcall, T_ix, T_isin, andT_one, andT_two, orT_one, orT_two, test_nil, test_one, S_expr, S_set, S_sett, S_setc, S_par, S_fld, S_sub, S_ret, S_retN, S_ite, S_for, S_pass, Ss_nil, Ss_cons, R.then_ok, R.of_some, List.getElem?_cons_zero, List.getElem?_cons_succ, Option.map_some, asB, pen_hap H, app_ty H, ha]
  exact run_next rfl ((Ss_next q0).trans ((Ss_next q1).trans ((Ss_next q2).trans ((Ss_next q3).trans ((Ss_next q4).trans ((Ss_next q5).trans rfl))))))
theorem band_ok (d : Nat) (s : Sp) (bd : Band) (ok : bd.ok s) (P : PenS) (hn : P.evs.length ≤ 100000) : call T.prog (d + 2) "Pen.set_band" [.ref p, bd.val] (pst st p h (bookI s) P) = .ok .non (pst st p h (bookI s) (setP s bd P)) := by
  rw [unf f_band]
  have hl := fun st => c_lines d s bd ok st
  have q0 : evalS T.prog (call T.prog (d + 1)) b_Pen_set_band_0 [some (.ref p), some bd.val] (pst st p h (bookI s) P) = .ok (.next [some (.ref p), some bd.val]) (pst st p h (bookI s) { P with left := P.left - bd.lines s }) := by
    unfold b_Pen_set_band_0
    rw [S_fldaug]
    simp only [E_var, E_non, E_bl, E_int, E_str, E_glob, E_bin, E_neg, E_cmp, E_chain, E_and, E_or, E_not, E_ite, E_tup, E_lstF, E_lstT, E_ix, E_slc, E_attr, E_call, E_make, E_meth, E_bcall, E_bmeth, E_isin, Es_nil, Es_cons, and_one, and_two, or_one, or_two, T_and, T_or, T_not, T_cmp, T_chain, T_var, T_bl, T_attr, T_call, T_bcall, T_ix, T_isin, andT_one, andT_two, orT_one, orT_two, test_nil, test_one, S_expr, S_set, S_sett, S_setc, S_par, S_fld, S_sub, S_ret, S_retN, S_ite, S_for, S_pass, Ss_nil, Ss_cons, R.then_ok, R.of_some, List.getElem?_cons_zero, List.getElem?_cons_succ, Option.map_some, asB, get_left H, pen_book H, hl, binJ, pen_ins H, set_left H, if_true]
  have x0 : ∀ st, ixV st bd.val (.int 0) = some (.str (match bd with | .head _ => "head" | .row _ => "row" | .foot _ => "foot")) := fun _ => by cases bd <;> rfl
  have q2 : ∀ P : PenS, P.evs.length ≤ 100000 → evalS T.prog (call T.prog (d + 1)) b_Pen_set_band_2 [some (.ref p), some bd.val] (pst st p h (bookI s) P) = .ok (.next [some (.ref p), some bd.val]) (pst st p h (bookI s) { P with evs := P.evs ++ [bd.val] }) := fun P hn => by
    unfold b_Pen_set_band_2
    simp only [E_var, E_non, E_bl, E_int, E_str, E_glob, E_bin, E_neg, E_cmp, E_chain, E_and, E_or, E_not, E_ite, E_tup, E_lstF, E_lstT, E_ix, E_slc, E_attr, E_call, E_make, E_meth, E_bcall, E_bmeth, E_isin, Es_nil, Es_cons, and_one, and_two, or_one, or_two, T_and, T_or, T_not, T_cmp, T_chain, T_var, T_bl, T_attr, T_call, T_bcall, T_ix, T_isin, andT_one, andT_two, orT_one, orT_two, test_nil, test_one, S_expr, S_set, S_sett, S_setc, S_par, S_fld, S_sub, S_ret, S_retN, S_ite, S_for, S_pass, Ss_nil, Ss_cons, R.then_ok, R.of_some, List.getElem?_cons_zero, List.getElem?_cons_succ, Option.map_some, asB, pen_hap H, app_ty H, app_h H _ hn]
  cases bd with
  | head i =>
    have c1 : ∀ st, cmpV st .eq (.str "head") (.str "row") = some false := fun _ => rfl
    have c2 : ∀ st, cmpV st .eq (.str "head") (.str "head") = some true := fun _ => rfl
    have q1 : evalS T.prog (call T.prog (d + 1)) b_Pen_set_band_1 [some (.ref p), some (Band.head i).val] (pst st p h (bookI s) { P with left := P.left - (Band.head i).lines s }) = .ok (.next [some (.ref p), some (Band.head i).val]) (pst st p h (bookI s) { P with left := P.left - (Band.head i).lines s, late := true }) := by
      unfold b_Pen_set_band_1
      simp only [E_var, E_non, E_bl, E_int, E_str, E_glob, E_bin, E_neg, E_cmp, E_chain, E_and, E_or, E_not, E_ite, E_tup, E_lstF, E_lstT, E_ix, E_slc, E_attr, E_call, E_make, E_meth, E_bcall, E_bmeth, E_isin, Es_nil, Es_cons, and_one, and_two, or_one, or_two, T_and, T_or, T_not, T_cmp, T_chain, T_var, T_bl, T_attr, T_call, T_bcall, T_ix, T_isin, andT_one, andT_two, orT_one, orT_two, test_nil, test_one, S_expr, S_set, S_sett, S_setc, S_par, S_fld, S_sub, S_ret, S_retN, S_ite, S_for, S_pass, Ss_nil, Ss_cons, R.then_ok, R.of_some, List.getElem?_cons_zero, List.getElem?_cons_succ, Option.map_some, asB, x0, c1, c2, set_late H]
    exact run_next rfl ((Ss_next q0).trans ((Ss_next q1).trans ((Ss_next (q2 { P with left := P.left - (Band.head i).lines s, late := true } hn)).trans rfl)))
  | row k =>
    have c1 : ∀ st, cmpV st .eq (.str "row") (.str "row") = some true := fun _ => rfl
    have q1 : evalS T.prog (call T.prog (d + 1)) b_Pen_set_band_1 [some (.ref p), some (Band.row k).val] (pst st p h (bookI s) { P with left := P.left - (Band.row k).lines s }) = .ok (.next [some (.ref p), some (Band.row k).val]) (pst st p h (bookI s) { P with left := P.left - (Band.row k).lines s, row := true, late := false }) := by
      unfold b_Pen_set_band_1
      simp only [E_var, E_non, E_bl, E_int, E_str, E_glob, E_bin, E_neg, E_cmp, E_chain, E_and, E_or, E_not, E_ite, E_tup, E_lstF, E_lstT, E_ix, E_slc, E_attr, E_call, E_make, E_meth, E_bcall, E_bmeth, E_isin, Es_nil, Es_cons, and_one, and_two, or_one, or_two, T_and, T_or, T_not, T_cmp, T_chain, T_var, T_bl, T_attr, T_call, T_bcall, T_ix, T_isin, andT_one, andT_two, orT_one, orT_two, test_nil, test_one, S_expr, S_set, S_sett, S_setc, S_par, S_fld, S_sub, S_ret, S_retN, S_ite, S_for, S_pass, Ss_nil, Ss_cons, R.then_ok, R.of_some, List.getElem?_cons_zero, List.getElem?_cons_succ, Option.map_some, asB, x0, c1, set_row H, set_late H]
    exact run_next rfl ((Ss_next q0).trans ((Ss_next q1).trans ((Ss_next (q2 ⟨P.left - (Band.row k).lines s, true, false, P.evs⟩ hn)).trans rfl)))
  | foot i =>
    have c1 : ∀ st, cmpV st .eq (.str "foot") (.str "row") = some false := fun _ => rfl
    have c2 : ∀ st, cmpV st .eq (.str "foot") (.str "head") = some false := fun _ => rfl
    have q1 : evalS T.prog (call T.prog (d + 1)) b_Pen_set_band_1 [some (.ref p), some (Band.foot i).val] (pst st p h (bookI s) { P with left := P.left - (Band.foot i).lines s }) = .ok (.next [some (.ref p), some (Band.foot i).val]) (pst st p h (bookI s) { P with left := P.left - (Band.foot i).lines s }) := by
      unfold b_Pen_set_band_1
      simp only [E_var, E_non, E_bl, E_int, E_str, E_glob, E_bin, E_neg, E_cmp, E_chain, E_and, E_or, E_not, E_ite, E_tup, E_lstF, E_lstT, E_ix, E_slc, E_attr, E_call, E_make, E_meth, E_bcall, E_bmeth, E_isin, Es_nil, Es_cons, and_one, and_two, or_one, or_two, T_and, T_or, T_not, T_cmp, T_chain, T_var, T_bl, T_attr, T_call, T_bcall, T_ix, T_isin, andT_one, andT_two, orT_one, orT_two, test_nil, test_one, S_expr, S_set, S_sett, S_setc, S_par, S_fld, S_sub, S_ret, S_retN, S_ite, S_for, S_pass, Ss_nil, Ss_cons, R.then_ok, R.of_some, List.getElem?_cons_zero, List.getElem?_cons_succ, Option.map_some, asB, x0, c1, c2]
    exact run_next rfl ((Ss_next q0).trans ((Ss_next q1).trans ((Ss_next (q2 { P with left := P.left - (Band.foot i).lines s } hn)).trans rfl)))
end
end L_k11
end

section
set_option Elab.async false
set_option linter.all false
set_option maxRecDepth 100000
set_option maxHeartbeats
                         1000000
namespace L_k11
open PySem Mp
theorem f_needs : T.prog.fn "Pen.needs_page" = some ⟨3, 4, b_Pen_needs_page⟩ := rfl
theorem f_lot : T.prog.fn "Pen.set_lot" = some ⟨2, 4, b_Pen_set_lot⟩ := rfl
theorem t_bl (b : Bool) (st : Store) : truV st (.bl b) = some b := rfl
section
variable {st : Store} {p h : Nat} (H : PH st p h)
include H
theorem m_end (d : Nat) (b : Val) (P : PenS) (hn : P.evs.length ≤ 100000) : callM T.prog (call T.prog (d + 1)) .raw "Pen.end_page" [] [.ref p] [] (pst st p h b P) = .ok .non (pst st p h b (endP P)) := call_raw (tp := [.pos 0]) rfl rfl (end_ok H d b P hn)
theorem m_begin (d : Nat) (s : Sp) (sok : s.ok) (bd : Band) (ok : bd.ok s) (P : PenS) (hn : P.evs.length ≤ 100000) : callM T.prog (call T.prog (d + 3)) .raw "Pen.begin_page" [] [.ref p, bd.val] [] (pst st p h (bookI s) P) = .ok .non (pst st p h (bookI s) (beginP s bd P)) := call_raw (tp := [.pos 0, .pos 1]) rfl rfl (begin_ok H d s sok bd ok P hn)
theorem m_band (d : Nat) (s : Sp) (bd : Band) (ok : bd.ok s) (P : PenS) (hn : P.evs.length ≤ 100000) : callM T.prog (call T.prog (d + 2)) .raw "Pen.set_band" [] [.ref p, bd.val] [] (pst st p h (bookI s) P) = .ok .non (pst st p h (bookI s) (setP s bd P)) := call_raw (tp := [.pos 0, .pos 1]) rfl rfl (band_ok H d s bd ok P hn)
theorem g_end (b : Val) (P : PenS) : methG T.prog (.ref p) "end_page" 1 (pst st p h b P) = some ("Pen.end_page" : Str) := meth_g H rfl rfl rfl
theorem g_begin (b : Val) (P : PenS) : methG T.prog (.ref p) "begin_page" 2 (pst st p h b P) = some ("Pen.begin_page" : Str) := meth_g H rfl rfl rfl
theorem g_band (b : Val) (P : PenS) : methG T.prog (.ref p) "set_band" 2 (pst st p h b P) = some ("Pen.set_band" : Str) := meth_g H rfl rfl rfl
theorem g_needs (b : Val) (P : PenS) : methG T.prog (.ref p) "needs_page" 3 (pst st p h b P) = some ("Pen.needs_page" : Str) := meth_g H rfl rfl rfl
theorem g_lot (b : Val) (P : PenS) : methG T.prog (.ref p) "set_lot" 2 (pst st p h b P) = some ("Pen.set_lot" : Str) := meth_g H rfl rfl rfl
theorem needs_ok (d : Nat) (s : Sp) (bds : List Band) (ok : ∀ bd ∈ bds, bd.ok s) (hl : bds.length ≤ 1000) (n : Int) (P : PenS) : callM T.prog (call T.prog (d + 1)) .raw "Pen.needs_page" [] [.ref p, .lst (bds.map Band.val), .int n] [] (pst st p h (bookI s) P) = .ok (.bl (decide (P.left < n) || bds.any (Band.fresh s))) (pst st p h (bookI s) P) := by
  refine call_raw (tp := [.pos 0, .pos 1, .pos 2]) rfl rfl ?_
  rw [unf f_needs]
  cases hd : decide (P.left < n) with
  | true =>
    refine run_ret rfl (Ss_ret ?_)
    unfold b_Pen_needs_page_0
    rw [S_ite, T_cmp]
    simp only [E_var, E_non, E_bl, E_int, E_str, E_glob, E_bin, E_neg, E_cmp, E_chain, E_and, E_or, E_not, E_ite, E_tup, E_lstF, E_lstT, E_ix, E_slc, E_attr, E_call, E_make, E_meth, E_bcall, E_bmeth, E_isin, Es_nil, Es_cons, and_one, and_two, or_one, or_two, T_and, T_or, T_not, T_cmp, T_chain, T_var, T_bl, T_attr, T_call, T_bcall, T_ix, T_isin, andT_one, andT_two, orT_one, orT_two, test_nil, test_one, S_expr, S_set, S_sett, S_setc, S_par, S_fld, S_sub, S_ret, S_retN, S_ite, S_for, S_pass, Ss_nil, Ss_cons, R.then_ok, R.of_some, List.getElem?_cons_zero, List.getElem?_cons_succ, Option.map_some, asB, List.map_cons, List.map_nil, List.cons_append, List.nil_append, List.replicate, List.length_cons, List.length_nil, Nat.reduceSub, Nat.reduceAdd, pen_left H, c_lt, hd]
    rfl
  | false =>
    have q0 : evalS T.prog (call T.prog d) b_Pen_needs_page_0 [some (.ref p), some (.lst (bds.map Band.val)), some (.int n), none] (pst st p h (bookI s) P) = .ok (.next [some (.ref p), some (.lst (bds.map Band.val)), some (.int n), none]) (pst st p h (bookI s) P) := by
      refine ite_next ?_
      simp only [E_var, E_non, E_bl, E_int, E_str, E_glob, E_bin, E_neg, E_cmp, E_chain, E_and, E_or, E_not, E_ite, E_tup, E_lstF, E_lstT, E_ix, E_slc, E_attr, E_call, E_make, E_meth, E_bcall, E_bmeth, E_isin, Es_nil, Es_cons, and_one, and_two, or_one, or_two, T_and, T_or, T_not, T_cmp, T_chain, T_var, T_bl, T_attr, T_call, T_bcall, T_ix, T_isin, andT_one, andT_two, orT_one, orT_two, test_nil, test_one, S_expr, S_set, S_sett, S_setc, S_par, S_fld, S_sub, S_ret, S_retN, S_ite, S_for, S_pass, Ss_nil, Ss_cons, R.then_ok, R.of_some, List.getElem?_cons_zero, List.getElem?_cons_succ, Option.map_some, asB, pen_left H, c_lt, hd]
    have turn : ∀ bd ∈ bds, turnF T.prog (call T.prog d) (.v 3) (.and [(.cmp .eq (.ix (.var 3) (.int 0)) (.str "head")), (.attr (.ix (.attr (.attr (.var 0) "own_book") "own_levels") (.ix (.var 3) (.int 1))) "fresh")]) [] [some (.ref p), some (.lst (bds.map Band.val)), some (.int n), none] (Band.val bd) (pst st p h (bookI s) P) = .ok (some (Val.bl (bd.fresh s))) (pst st p h (bookI s) P) := by
      intro bd hb
      unfold turnF
      cases bd with
      | head i =>
        have x0 : ∀ st, ixV st (Band.head i).val (.int 0) = some (.str "head") := fun _ => rfl
        have x1 : ∀ st, ixV st (Band.head i).val (.int 1) = some (.int i) := fun _ => rfl
        have c1 : ∀ st, cmpV st .eq (.str "head") (.str "head") = some true := fun _ => rfl
        have a1 := fun st => at_lev (s := s) (ok _ hb) st
        simp only [E_var, E_non, E_bl, E_int, E_str, E_glob, E_bin, E_neg, E_cmp, E_chain, E_and, E_or, E_not, E_ite, E_tup, E_lstF, E_lstT, E_ix, E_slc, E_attr, E_call, E_make, E_meth, E_bcall, E_bmeth, E_isin, Es_nil, Es_cons, and_one, and_two, or_one, or_two, T_and, T_or, T_not, T_cmp, T_chain, T_var, T_bl, T_attr, T_call, T_bcall, T_ix, T_isin, andT_one, andT_two, orT_one, orT_two, test_nil, test_one, S_expr, S_set, S_sett, S_setc, S_par, S_fld, S_sub, S_ret, S_retN, S_ite, S_for, S_pass, Ss_nil, Ss_cons, R.then_ok, R.of_some, List.getElem?_cons_zero, List.getElem?_cons_succ, Option.map_some, asB, bindT, slots, wipeE, List.length_cons, List.length_nil, List.set_cons_succ, List.set_cons_zero, Nat.reduceAdd, Nat.reduceLT, if_true, x0, x1, c1, pen_book H, bk_levels, a1, lv_fresh]
        rfl
      | row k =>
        have x0 : ∀ st, ixV st (Band.row k).val (.int 0) = some (.str "row") := fun _ => rfl
        have c1 : ∀ st, cmpV st .eq (.str "row") (.str "head") = some false := fun _ => rfl
        simp only [E_var, E_non, E_bl, E_int, E_str, E_glob, E_bin, E_neg, E_cmp, E_chain, E_and, E_or, E_not, E_ite, E_tup, E_lstF, E_lstT, E_ix, E_slc, E_attr, E_call, E_make, E_meth, E_bcall, E_bmeth, E_isin, Es_nil, Es_cons, and_one, and_two, or_one, or_two, T_and, T_or, T_not, T_cmp, T_chain, T_var, T_bl, T_attr, T_call, T_bcall, T_ix, T_isin, andT_one, andT_two, orT_one, orT_two, test_nil, test_one, S_expr, S_set, S_sett, S_setc, S_par, S_fld, S_sub, S_ret, S_retN, S_ite, S_for, S_pass, Ss_nil, Ss_cons, R.then_ok, R.of_some, List.getElem?_cons_zero, List.getElem?_cons_succ, Option.map_some, asB, bindT, slots, wipeE, List.length_cons, List.length_nil, List.set_cons_succ, List.set_cons_zero, Nat.reduceAdd, Nat.reduceLT, if_true, x0, c1]
        rfl
      | foot i =>
        have x0 : ∀ st, ixV st (Band.foot i).val (.int 0) = some (.str "foot") := fun _ => rfl
        have c1 : ∀ st, cmpV st .eq (.str "foot") (.str "head") = some false := fun _ => rfl
        simp only [E_var, E_non, E_bl, E_int, E_str, E_glob, E_bin, E_neg, E_cmp, E_chain, E_and, E_or, E_not, E_ite, E_tup, E_lstF, E_lstT, E_ix, E_slc, E_attr, E_call, E_make, E_meth, E_bcall, E_bmeth, E_isin, Es_nil, Es_cons, and_one, and_two, or_one, or_two, T_and, T_or, T_not, T_cmp, T_chain, T_var, T_bl, T_attr, T_call, T_bcall, T_ix, T_isin, andT_one, andT_two, orT_one, orT_two, test_nil, test_one, S_expr, S_set, S_sett, S_setc, S_par, S_fld, S_sub, S_ret, S_retN, S_ite, S_for, S_pass, Ss_nil, Ss_cons, R.then_ok, R.of_some, List.getElem?_cons_zero, List.getElem?_cons_succ, Option.map_some, asB, bindT, slots, wipeE, List.length_cons, List.length_nil, List.set_cons_succ, List.set_cons_zero, Nat.reduceAdd, Nat.reduceLT, if_true, x0, c1]
        rfl
    have hcomp := comp_ok (P := T.prog) (by rw [List.length_map]; show _ ≤ (2 ^ 24 : Nat); omega) (comp_list Band.val _ bds turn [])
    rw [List.nil_append, fm_map] at hcomp
    have hany := any_ok (bds.map (Band.fresh s)) (pst st p h (bookI s) P)
    rw [List.map_map] at hany
    have hsrc : srcE T.prog (call T.prog d) .seq [(.var 1)] [some (.ref p), some (.lst (bds.map Band.val)), some (.int n), none] (pst st p h (bookI s) P) = .ok (bds.map Band.val, []) (pst st p h (bookI s) P) := rfl
    refine run_ret rfl ((Ss_next q0).trans (Ss_ret ?_))
    unfold b_Pen_needs_page_1
    rw [S_ret, E_bcall, Es_cons, E_comp, hsrc, R.then_ok, hcomp, R.then_ok, Es_nil, R.then_ok, R.then_ok]
    show (R.of (bV _ "any" [.lst (bds.map (Val.bl ∘ Band.fresh s))]) _).then_ _ = _
    rw [hany, Bool.false_or, List.any_map]
    rfl
end
/-! ### a lot -/
def lotStep (s : Sp) (P : PenS) (bd : Band) : PenS := setP s bd (if P.left < bd.lines s then beginP s bd (endP P) else P)
def tornP (P : PenS) : PenS := { P with evs := P.evs ++ [.tup [.str "torn"]] }
def linesOf (s : Sp) (bds : List Band) : Int := (bds.map (Band.lines s)).sum
def lotA (s : Sp) (b0 : Band) (bds : List Band) (P : PenS) : PenS := if (decide (P.left < linesOf s bds) || bds.any (Band.fresh s)) = true then beginP s b0 (if 0 ≤ P.left then endP P else P) else P
def lotB (s : Sp) (bds : List Band) (P : PenS) : PenS := if P.left < linesOf s bds then tornP P else P
def lotP (s : Sp) (bds : List Band) (P : PenS) : PenS := match bds with
  | [] => P
  | b0 :: _ => bds.foldl (lotStep s) (lotB s bds (lotA s b0 bds P))
theorem setP_len (s : Sp) (bd : Band) (P : PenS) : (setP s bd P).evs.length = P.evs.length + 1 := by
  cases bd <;> simp [setP]
theorem beginP_len (s : Sp) (bd : Band) (P : PenS) : (beginP s bd P).evs.length = P.evs.length + 1 := by simp [beginP]
theorem endP_len (P : PenS) : (endP P).evs.length = P.evs.length + 1 := by simp [endP]
theorem step_len (s : Sp) (P : PenS) (bd : Band) : (lotStep s P bd).evs.length ≤ P.evs.length + 3 := by
  unfold lotStep
  rw [setP_len]
  split
  · rw [beginP_len, endP_len]; omega
  · omega
theorem fold_len (s : Sp) : ∀ (bds : List Band) (P : PenS), (bds.foldl (lotStep s) P).evs.length ≤ P.evs.length + 3 * bds.length
  | [], P => Nat.le_refl _
  | b :: r, P => by
    have h1 := fold_len s r (lotStep s P b)
    have h2 := step_len s P b
    rw [List.foldl_cons,
                         List.length_cons]
    omega
theorem lotA_len (s : Sp) (b0 : Band) (bds : List Band) (P : PenS) : (lotA s b0 bds P).evs.length ≤ P.evs.length + 2 := by
  unfold lotA
  split
  · rw [beginP_len]
    split
    · rw [endP_len]; omega
    · omega
  · omega
theorem lotB_len (s : Sp) (bds : List Band) (P : PenS) : (lotB s bds P).evs.length ≤ P.evs.length + 1 := by
  unfold lotB
  split
  · simp [tornP]
  · omega
theorem lotP_len (s : Sp) (bds : List Band) (P : PenS) : (lotP s bds P).evs.length ≤ P.evs.length + 3 + 3 * bds.length := by
  unfold lotP
  cases bds with
  | nil => simp only; omega
  | cons b r =>
    have h1 := fold_len s (b :: r) (lotB s (b :: r) (lotA s b (b :: r) P))
    have h2 := lotB_len s (b :: r) (lotA s b (b :: r) P)
    have h3 := lotA_len s b (b :: r) P
    simp only
    omega
def lotBody : List MS := [.ite (.cmp .lt (.attr (.var 0) "left") (.call .raw "band_lines" [(.attr (.var 0) "own_book"), (.var 3)] [] [])) [.expr (.meth .raw (.var 0) "end_page" []), .expr (.meth .raw (.var 0) "begin_page" [(.var 3)])] [], .expr (.meth .raw (.var 0) "set_band" [(.var 3)])]
section
variable {st : Store} {p h : Nat} (H : PH st p h)
include H
theorem lot_step (d : Nat) (s : Sp) (sok : s.ok) (v n : Val) (o : Option Val) (bd : Band) (ok : bd.ok s) (P : PenS) (hn : P.evs.length ≤ 90000) : forF T.prog (call T.prog (d + 3)) (.v 3) lotBody bd.val [some (.ref p), some v, some n, o] (pst st p h (bookI s) P) = .ok (.next [some (.ref p), some v, some n, some bd.val]) (pst st p h (bookI s) (lotStep s P bd)) := by
  have hl := fun st => c_lines (d + 2) s bd ok st
  show evalSs T.prog (call T.prog (d + 3)) lotBody [some (.ref p), some v, some n, some bd.val] (pst st p h (bookI s) P) = _
  have last : ∀ P : PenS, P.evs.length ≤ 100000 → evalS T.prog (call T.prog (d + 3)) (.expr (.meth .raw (.var 0) "set_band" [(.var 3)])) [some (.ref p), some v, some n, some bd.val] (pst st p h (bookI s) P) = .ok (.next [some (.ref p), some v, some n, some bd.val]) (pst st p h (bookI s) (setP s bd P)) := fun P hn => by
    simp only [E_var, E_non, E_bl, E_int, E_str, E_glob, E_bin, E_neg, E_cmp, E_chain, E_and, E_or, E_not, E_ite, E_tup, E_lstF, E_lstT, E_ix, E_slc, E_attr, E_call, E_make, E_meth, E_bcall, E_bmeth, E_isin, Es_nil, Es_cons, and_one, and_two, or_one, or_two, T_and, T_or, T_not, T_cmp, T_chain, T_var, T_bl, T_attr, T_call, T_bcall, T_ix, T_isin, andT_one, andT_two, orT_one, orT_two, test_nil, test_one, S_expr, S_set, S_sett, S_setc, S_par, S_fld, S_sub, S_ret, S_retN, S_ite, S_for, S_pass, Ss_nil, Ss_cons, R.then_ok, R.of_some, List.getElem?_cons_zero, List.getElem?_cons_succ, Option.map_some, asB, List.length_cons, List.length_nil, Nat.reduceAdd, g_band H, m_band H (d + 1) s bd ok P hn]
  have tst : evalT T.prog (call T.prog (d + 3)) (.cmp .lt (.attr (.var 0) "left") (.call .raw "band_lines" [(.attr (.var 0) "own_book"), (.var 3)] [] [])) [some (.ref p), some v, some n, some bd.val] (pst st p h (bookI s) P) = .ok (decide (P.left < bd.lines s)) (pst st p h (bookI s) P) := by
    simp only [E_var, E_non, E_bl, E_int, E_str, E_glob, E_bin, E_neg, E_cmp, E_chain, E_and, E_or, E_not, E_ite, E_tup, E_lstF, E_lstT, E_ix, E_slc, E_attr, E_call, E_make, E_meth, E_bcall, E_bmeth, E_isin, Es_nil, Es_cons, and_one, and_two, or_one, or_two, T_and, T_or, T_not, T_cmp, T_chain, T_var, T_bl, T_attr, T_call, T_bcall, T_ix, T_isin, andT_one, andT_two, orT_one, orT_two, test_nil, test_one, S_expr, S_set, S_sett, S_setc, S_par, S_fld, S_sub, S_ret, S_retN, S_ite, S_for, S_pass, Ss_nil, Ss_cons, R.then_ok, R.of_some, List.getElem?_cons_zero, List.getElem?_cons_succ, Option.map_some, asB, pen_left H, pen_book H, hl, c_lt]
  unfold lotStep
  by_cases hd : P.left < bd.lines s
  · rw [if_pos hd]
    have l1 : (endP P).evs.length ≤ 100000 := by rw [endP_len]; omega
    have l2 : (beginP s bd (endP P)).evs.length ≤ 100000 := by rw [beginP_len, endP_len]; omega
    have q0 : evalS T.prog (call T.prog (d + 3)) (.ite (.cmp .lt (.attr (.var 0) "left") (.call .raw "band_lines" [(.attr (.var 0) "own_book"), (.var 3)] [] [])) [.expr (.meth .raw (.var 0) "end_page" []), .expr (.meth .raw (.var 0) "begin_page" [(.var 3)])] []) [some (.ref p), some v, some n, some bd.val] (pst st p h (bookI s) P) = .ok (.next [some (.ref p), some v, some n, some bd.val]) (pst st p h (bookI s) (beginP s bd (endP P))) := by
      rw [S_ite, tst, decide_eq_true hd]
      simp only [E_var, E_non, E_bl, E_int, E_str, E_glob, E_bin, E_neg, E_cmp, E_chain, E_and, E_or, E_not, E_ite, E_tup, E_lstF, E_lstT, E_ix, E_slc, E_attr, E_call, E_make, E_meth, E_bcall, E_bmeth, E_isin, Es_nil, Es_cons, and_one, and_two, or_one, or_two, T_and, T_or, T_not, T_cmp, T_chain, T_var, T_bl, T_attr, T_call, T_bcall, T_ix, T_isin, andT_one, andT_two, orT_one, orT_two, test_nil, test_one, S_expr, S_set, S_sett, S_setc, S_par, S_fld, S_sub, S_ret, S_retN, S_ite, S_for, S_pass, Ss_nil, Ss_cons, R.then_ok, R.of_some, List.getElem?_cons_zero, List.getElem?_cons_succ, Option.map_some, asB, List.length_cons, List.length_nil, Nat.reduceAdd, g_end H, g_begin H, m_end H (d + 2) (bookI s) P (by omega), m_begin H d s sok bd ok (endP P) l1]
    exact (Ss_next q0).trans ((Ss_next (last _ l2)).trans rfl)
  · rw [if_neg hd]
    have q0 := ite_next (a := [.expr (.meth .raw (.var 0) "end_page" []), .expr (.meth .raw (.var 0) "begin_page" [(.var 3)])]) (tst.trans (by rw [decide_eq_false hd]))
    exact (Ss_next q0).trans ((Ss_next (last _ (by omega))).trans rfl)
theorem lot_loop (d : Nat) (s : Sp) (sok : s.ok) (v n : Val) : ∀ (bds : List Band), (∀ bd ∈ bds, bd.ok s) → ∀ (o : Option Val) (P : PenS), P.evs.length + 3 * bds.length ≤ 90000 → ∃ o', loopF (forF T.prog (call T.prog (d + 3)) (.v 3) lotBody) [] (bds.map Band.val) [some (.ref p), some v, some n, o] (pst st p h (bookI s) P) = .ok (.next [some (.ref p), some v, some n, o']) (pst st p h (bookI s) (bds.foldl (lotStep s) P))
  | [], _, o, P, _ => ⟨o, rfl⟩
  | b :: r, ok, o, P, hn => by
    rw [List.length_cons] at hn
    have h2 := step_len s P b
    obtain ⟨o', e⟩ := lot_loop d s sok v n r (fun z hz => ok z (List.mem_cons_of_mem _ hz)) (some b.val) (lotStep s P b) (by omega)
    refine ⟨o', ?_⟩
    show (forF T.prog (call T.prog (d + 3)) (.v 3) lotBody b.val [some (.ref p), some v, some n, o] (pst st p h (bookI s) P)).then_ _ = _
    rw [lot_step H d s sok v n o b (ok b (by simp)) P (by omega)]
    exact e
theorem lot_ok (d : Nat) (s : Sp) (sok : s.ok) (bds : List Band) (ok : ∀ bd ∈ bds, bd.ok s) (hl : bds.length ≤ 1000) (P : PenS) (hn : P.evs.length ≤ 80000) : callM T.prog (call T.prog (d + 4)) .raw "Pen.set_lot" [] [.ref p, .lst (bds.map Band.val)] [] (pst st p h (bookI s) P) = .ok .non (pst st p h (bookI s) (lotP s bds P)) := by
  refine call_raw (tp := [.pos 0, .pos 1]) rfl rfl ?_
  rw [unf f_lot]
  cases bds with
  | nil => exact run_ret rfl (Ss_ret rfl)
  | cons b0 r =>
    generalize hbs : b0 :: r = bds at *
    have hb0 : bds.map Band.val = b0.val :: r.map Band.val := by rw [← hbs]; rfl
    have e0 : lotP s bds P = bds.foldl (lotStep s) (lotB s bds (lotA s b0 bds P)) := by rw [← hbs]; rfl
    have ok0 : b0.ok s := ok b0 (by rw [← hbs]; simp)
    have lA := lotA_len s b0 bds P
    have lB := lotB_len s bds (lotA s b0 bds P)
    have q0 : evalS T.prog (call T.prog (d + 3)) b_Pen_set_lot_0 [some (.ref p), some (.lst (bds.map Band.val)), none, none] (pst st p h (bookI s) P) = .ok (.next [some (.ref p), some (.lst (bds.map Band.val)), none, none]) (pst st p h (bookI s) P) := by
      refine ite_next ?_
      have hz : (((bds.map Band.val).length : Int) == 0) = false := by
        rw [hb0, List.length_cons]
        simp only [beq_eq_false_iff_ne, ne_eq]
        omega
      simp only [E_var, E_non, E_bl, E_int, E_str, E_glob, E_bin, E_neg, E_cmp, E_chain, E_and, E_or, E_not, E_ite, E_tup, E_lstF, E_lstT, E_ix, E_slc, E_attr, E_call, E_make, E_meth, E_bcall, E_bmeth, E_isin, Es_nil, Es_cons, and_one, and_two, or_one, or_two, T_and, T_or, T_not, T_cmp, T_chain, T_var, T_bl, T_attr, T_call, T_bcall, T_ix, T_isin, andT_one, andT_two, orT_one, orT_two, test_nil, test_one, S_expr, S_set, S_sett, S_setc, S_par, S_fld, S_sub, S_ret, S_retN, S_ite, S_for, S_pass, Ss_nil, Ss_cons, R.then_ok, R.of_some, List.getElem?_cons_zero, List.getElem?_cons_succ, Option.map_some, asB, v_len, c_eq, hz]
    have turn : ∀ bd ∈ bds, turnF T.prog (call T.prog (d + 3)) (.v 3) (.call .raw "band_lines" [(.attr (.var 0) "own_book"), (.var 3)] [] []) [] [some (.ref p), some (.lst (bds.map Band.val)), none, none] (Band.val bd) (pst st p h (bookI s) P) = .ok (some (Val.int (bd.lines s))) (pst st p h (bookI s) P) := by
      intro bd hb
      have hl := fun st => c_lines (d + 2) s bd (ok bd hb) st
      unfold turnF
      simp only [E_var, E_non, E_bl, E_int, E_str, E_glob, E_bin, E_neg, E_cmp, E_chain, E_and, E_or, E_not, E_ite, E_tup, E_lstF, E_lstT, E_ix, E_slc, E_attr, E_call, E_make, E_meth, E_bcall, E_bmeth, E_isin, Es_nil, Es_cons, and_one, and_two, or_one, or_two, T_and, T_or, T_not, T_cmp, T_chain, T_var, T_bl, T_attr, T_call, T_bcall, T_ix, T_isin, andT_one, andT_two, orT_one, orT_two, test_nil, test_one, S_expr, S_set, S_sett, S_setc, S_par, S_fld, S_sub, S_ret, S_retN, S_ite, S_for, S_pass, Ss_nil, Ss_cons, R.then_ok, R.of_some, List.getElem?_cons_zero, List.getElem?_cons_succ, Option.map_some, asB, bindT, slots, wipeE, List.length_cons, List.length_nil, List.set_cons_succ, List.set_cons_zero, Nat.reduceAdd, Nat.reduceLT, if_true, pen_book H, hl]
    have hcomp := comp_ok (P := T.prog) (by rw [List.length_map]; show _ ≤ (2 ^ 24 : Nat); omega) (comp_list Band.val _ bds turn [])
    rw [List.nil_append, fm_map] at hcomp
    have q1 : evalS T.prog (call T.prog (d + 3)) b_Pen_set_lot_1 [some (.ref p), some (.lst (bds.map Band.val)), none, none] (pst st p h (bookI s) P) = .ok (.next [some (.ref p), some (.lst (bds.map Band.val)), some (.int (linesOf s bds)), none]) (pst st p h (bookI s) P) := by
      have hsrc : srcE T.prog (call T.prog (d + 3)) .seq [(.var 1)] [some (.ref p), some (.lst (bds.map Band.val)), none, none] (pst st p h (bookI s) P) = .ok (bds.map Band.val, []) (pst st p h (bookI s) P) := rfl
      have hsum := v_sum (bds.map (Band.lines s)) (pst st p h (bookI s) P)
      rw [List.map_map] at hsum
      unfold b_Pen_set_lot_1
      rw [S_set, E_bcall, Es_cons, E_comp, hsrc, R.then_ok, hcomp, R.then_ok, Es_nil, R.then_ok, R.then_ok]
      show (R.of (bV _ "sum" [.lst (bds.map (Val.int ∘ Band.lines s))]) _).then_ _ = _
      rw [hsum]
      rfl
    have hneeds := needs_ok H (d + 2) s bds ok hl (linesOf s bds) P
    have i0 : ∀ st, ixV st (.lst (bds.map Band.val)) (.int 0) = some b0.val := fun _ => by
      rw [hb0]
      exact at_nat (xs := b0.val :: r.map Band.val) 0 (Nat.succ_pos _)
    have q2 : evalS T.prog (call T.prog (d + 3)) b_Pen_set_lot_2 [some (.ref p), some (.lst (bds.map Band.val)), some (.int (linesOf s bds)), none] (pst st p h (bookI s) P) = .ok (.next [some (.ref p), some (.lst (bds.map Band.val)), some (.int (linesOf s bds)), none]) (pst st p h (bookI s) (lotA s b0 bds P)) := by
      have tm : evalT T.prog (call T.prog (d + 3)) (.meth .raw (.var 0) "needs_page" [(.var 1), (.var 2)]) [some (.ref p), some (.lst (bds.map Band.val)), some (.int (linesOf s bds)), none] (pst st p h (bookI s) P) = .ok (decide (P.left < linesOf s bds) || bds.any (Band.fresh s)) (pst st p h (bookI s) P) := by
        show ((evalE T.prog (call T.prog (d + 3)) (.meth .raw (.var 0) "needs_page" [(.var 1), (.var 2)]) [some (.ref p), some (.lst (bds.map Band.val)), some (.int (linesOf s bds)), none] (pst st p h (bookI s) P)).then_ fun v st => R.of (truV st v) st) = _
        simp only [E_var, E_non, E_bl, E_int, E_str, E_glob, E_bin, E_neg, E_cmp, E_chain, E_and, E_or, E_not, E_ite, E_tup, E_lstF, E_lstT, E_ix, E_slc, E_attr, E_call, E_make, E_meth, E_bcall, E_bmeth, E_isin, Es_nil, Es_cons, and_one, and_two, or_one, or_two, T_and, T_or, T_not, T_cmp, T_chain, T_var, T_bl, T_attr, T_call, T_bcall, T_ix, T_isin, andT_one, andT_two, orT_one, orT_two, test_nil, test_one, S_expr, S_set, S_sett, S_setc, S_par, S_fld, S_sub, S_ret, S_retN, S_ite, S_for, S_pass, Ss_nil, Ss_cons, R.then_ok, R.of_some, List.getElem?_cons_zero, List.getElem?_cons_succ, Option.map_some, asB, List.length_cons, List.length_nil, Nat.reduceAdd, g_needs H, hneeds, t_bl]
      unfold b_Pen_set_lot_2
      rw [S_ite, tm]
      unfold lotA
      cases hd : (decide (P.left < linesOf s bds) || bds.any (Band.fresh s)) with
      | false => rfl
      | true =>
        rw [if_pos rfl]
        by_cases hz : 0 ≤ P.left
        · rw [if_pos hz]
          have l1 : (endP P).evs.length ≤ 100000 := by rw [endP_len]; omega
          simp only [E_var, E_non, E_bl, E_int, E_str, E_glob, E_bin, E_neg, E_cmp, E_chain, E_and, E_or, E_not, E_ite, E_tup, E_lstF, E_lstT, E_ix, E_slc, E_attr, E_call, E_make, E_meth, E_bcall, E_bmeth, E_isin, Es_nil, Es_cons, and_one, and_two, or_one, or_two, T_and, T_or, T_not, T_cmp, T_chain, T_var, T_bl, T_attr, T_call, T_bcall, T_ix, T_isin, andT_one, andT_two, orT_one, orT_two, test_nil, test_one, S_expr, S_set, S_sett, S_setc, S_par, S_fld, S_sub, S_ret, S_retN, S_ite, S_for, S_pass, Ss_nil, Ss_cons, R.then_ok, R.of_some, List.getElem?_cons_zero, List.getElem?_cons_succ, Option.map_some, asB, List.length_cons, List.length_nil, Nat.reduceAdd, pen_left H, c_ge, decide_eq_true hz, g_end H, g_begin H, i0, m_end H (d + 2) (bookI s) P (by omega), m_begin H d s sok b0 ok0 (endP P) l1]
        · rw [if_neg hz]
          simp only [E_var, E_non, E_bl, E_int, E_str, E_glob, E_bin, E_neg, E_cmp, E_chain, E_and, E_or, E_not, E_ite, E_tup, E_lstF, E_lstT, E_ix, E_slc, E_attr, E_call, E_make, E_meth, E_bcall, E_bmeth, E_isin, Es_nil, Es_cons, and_one, and_two, or_one, or_two, T_and, T_or, T_not, T_cmp, T_chain, T_var, T_bl, T_attr, T_call, T_bcall, T_ix, T_isin, andT_one, andT_two, orT_one, orT_two, test_nil, test_one, S_expr, S_set, S_sett, S_setc, S_par, S_fld, S_sub, S_ret, S_retN, S_ite, S_for, S_pass, Ss_nil, Ss_cons, R.then_ok, R.of_some, List.getElem?_cons_zero, List.getElem?_cons_succ, Option.map_some, asB, List.length_cons, List.length_nil, Nat.reduceAdd, pen_left H, c_ge, decide_eq_false hz, g_begin H, i0, m_begin H d s sok b0 ok0 P (by omega)]
    have q3 : evalS T.prog (call T.prog (d + 3)) b_Pen_set_lot_3 [some (.ref p), some (.lst (bds.map Band.val)), some (.int (linesOf s bds)), none] (pst st p h (bookI s) (lotA s b0 bds P)) = .ok (.next [some (.ref p), some (.lst (bds.map Band.val)), some (.int (linesOf s bds)), none]) (pst st p h (bookI s) (lotB s bds (lotA s b0 bds P))) := by
      have ha := app_h (b := bookI s) (P := lotA s b0 bds P) H (.tup [.str "torn"]) (by omega)
      unfold b_Pen_set_lot_3 lotB
      by_cases hz : (lotA s b0 bds P).left < linesOf s bds
      · rw [if_pos hz]
        simp only [E_var, E_non, E_bl, E_int, E_str, E_glob, E_bin, E_neg, E_cmp, E_chain, E_and, E_or, E_not, E_ite, E_tup, E_lstF, E_lstT, E_ix, E_slc, E_attr, E_call, E_make, E_meth, E_bcall, E_bmeth, E_isin, Es_nil, Es_cons, and_one, and_two, or_one, or_two, T_and, T_or, T_not, T_cmp, T_chain, T_var, T_bl, T_attr, T_call, T_bcall, T_ix, T_isin, andT_one, andT_two, orT_one, orT_two, test_nil, test_one, S_expr, S_set, S_sett, S_setc, S_par, S_fld, S_sub, S_ret, S_retN, S_ite, S_for, S_pass, Ss_nil, Ss_cons, R.then_ok, R.of_some, List.getElem?_cons_zero, List.getElem?_cons_succ, Option.map_some, asB, pen_left H, c_lt, decide_eq_true hz, pen_hap H, app_ty H, ha]
        rfl
      · rw [if_neg hz]
        refine ite_next ?_
        simp only [E_var, E_non, E_bl, E_int, E_str, E_glob, E_bin, E_neg, E_cmp, E_chain, E_and, E_or, E_not, E_ite, E_tup, E_lstF, E_lstT, E_ix, E_slc, E_attr, E_call, E_make, E_meth, E_bcall, E_bmeth, E_isin, Es_nil, Es_cons, and_one, and_two, or_one, or_two, T_and, T_or, T_not, T_cmp, T_chain, T_var, T_bl, T_attr, T_call, T_bcall, T_ix, T_isin, andT_one, andT_two, orT_one, orT_two, test_nil, test_one, S_expr, S_set, S_sett, S_setc, S_par, S_fld, S_sub, S_ret, S_retN, S_ite, S_for, S_pass, Ss_nil, Ss_cons, R.then_ok, R.of_some, List.getElem?_cons_zero, List.getElem?_cons_succ, Option.map_some, asB, pen_left H, c_lt, decide_eq_false hz]
    obtain ⟨o', e4⟩ := lot_loop H d s sok (.lst (bds.map Band.val)) (.int (linesOf s bds)) bds ok none (lotB s bds (lotA s b0 bds P)) (by omega)
    have q4 : evalS T.prog (call T.prog (d + 3)) b_Pen_set_lot_4 [some (.ref p), some (.lst (bds.map Band.val)), some (.int (linesOf s bds)), none] (pst st p h (bookI s) (lotB s bds (lotA s b0 bds P))) = .ok (.next [some (.ref p), some (.lst (bds.map Band.val)), some (.int (linesOf s bds)), o']) (pst st p h (bookI s) (lotP s bds P)) := by
      unfold b_Pen_set_lot_4
      rw [S_for, e0]
      exact e4
    exact run_next rfl ((Ss_next q0).trans ((Ss_next q1).trans ((Ss_next q2).trans ((Ss_next q3).trans ((Ss_next q4).trans rfl)))))
end
end L_k11
end

section
set_option Elab.async false
set_option linter.all false
set_option maxRecDepth 100000
set_option maxHeartbeats
                         1000000
namespace L_k11
open PySem Mp
theorem b_cat (xs ys : List Val) (h : xs.length + ys.length ≤ 1000) (st : Store) : binV st .add (.lst xs) (.lst ys) = some (.lst (xs ++ ys)) := by
  have h' : xs.length + ys.length ≤ sizeLine := by show _ ≤ (2 ^ 24 : Nat); omega
  show (if _ then some (Val.lst (xs ++ ys)) else none : Option Val) = _
  rw [if_pos ⟨rfl, h'⟩]
/-! ### heads and feet -/
def headL (s : Sp) (a : Nat) : List Band := ((List.range (s.ls.length - a)).filter fun k => decide (0 < (lv s (a + k)).h)).map fun k => .head (a + k)
def footL (s : Sp) (t : Nat) : List Band := ((List.range (s.ls.length - t)).filter fun k => decide (0 < (lv s (s.ls.length - 1 - k)).f)).map fun k => .foot (s.ls.length - 1 - k)
def rowL (ks : List Nat) : List Band := ks.map .row
theorem headL_ok (s : Sp) (a : Nat) : ∀ bd ∈ headL s a, bd.ok s := by
  intro bd hb
  obtain ⟨k, hk, rfl⟩ := List.mem_map.mp hb
  have := List.mem_range.mp (List.mem_filter.mp hk).1
  show a + k < s.ls.length
  omega
theorem footL_ok (s : Sp) (t : Nat) : ∀ bd ∈ footL s t, bd.ok s := by
  intro bd hb
  obtain ⟨k, hk, rfl⟩ := List.mem_map.mp hb
  have := List.mem_range.mp (List.mem_filter.mp hk).1
  show s.ls.length - 1 - k < s.ls.length
  omega
theorem headL_len (s : Sp) (a : Nat) : (headL s a).length ≤ s.ls.length := by
  unfold headL
  rw [List.length_map]
  have := List.length_filter_le (fun k => decide (0 < (lv s (a + k)).h)) (List.range (s.ls.length - a))
  rw [List.length_range] at this
  omega
theorem footL_len (s : Sp) (t : Nat) : (footL s t).length ≤ s.ls.length := by
  unfold footL
  rw [List.length_map]
  have := List.length_filter_le (fun k => decide (0 < (lv s (s.ls.length - 1 - k)).f)) (List.range (s.ls.length - t))
  rw [List.length_range] at this
  omega
theorem f_heads : T.prog.fn "head_bands" = some ⟨2, 3, b_head_bands⟩ := rfl
theorem c_heads (d : Nat) (s : Sp) (sok : s.ok) (a : Nat) (ha : a ≤ s.ls.length) (st : Store) : callM T.prog (call T.prog (d + 2)) .raw "head_bands" [] [bookI s, .int a] [] st = .ok (.lst ((headL s a).map Band.val)) st := by
  have l4 := sok.l4
  have hl := fun st => book_len d s sok st
  refine call_raw (tp := [.pos 0, .pos 1]) rfl rfl ?_
  rw [unf f_heads]
  have turn : ∀ k ∈ List.range (s.ls.length - a), turnF T.prog (call T.prog (d + 1)) (.v 2) (.tup [(.str "head"), (.var 2)]) [(.cmp .gt (.attr (.ix (.attr (.var 0) "own_levels") (.var 2)) "head") (.int 0))] [some (bookI s), some (.int a), none] (Val.int ((a : Int) + (k : Int))) st = .ok (if (decide (0 < (lv s (a + k)).h)) = true then some (Band.head (a + k)).val else none) st := by
    intro k hk
    have hk' := List.mem_range.mp hk
    have a1 : ∀ st, ixV st (.lst (s.ls.map Lev.ins)) (.int ((a : Int) + (k : Int))) = some (lv s (a + k)).ins := fun st => at_lev (i := a + k) (by omega) st
    unfold turnF
    cases h2 : decide (0 < (lv s (a + k)).h) <;>
      simp only [E_var, E_non, E_bl, E_int, E_str, E_glob, E_bin, E_neg, E_cmp, E_chain, E_and, E_or, E_not, E_ite, E_tup, E_lstF, E_lstT, E_ix, E_slc, E_attr, E_call, E_make, E_meth, E_bcall, E_bmeth, E_isin, Es_nil, Es_cons, and_one, and_two, or_one, or_two, T_and, T_or, T_not, T_cmp, T_chain, T_var, T_bl, T_attr, T_call, T_bcall, T_ix, T_isin, andT_one, andT_two, orT_one, orT_two, test_nil, test_one, S_expr, S_set, S_sett, S_setc, S_par, S_fld, S_sub, S_ret, S_retN, S_ite, S_for, S_pass, Ss_nil, Ss_cons, R.then_ok, R.of_some, List.getElem?_cons_zero, List.getElem?_cons_succ, Option.map_some, asB, bindT, slots, wipeE, List.length_cons, List.length_nil, List.set_cons_succ, List.set_cons_zero, Nat.reduceAdd, Nat.reduceLT, if_true, bk_levels, a1, lv_head, c_gt, h2] <;> rfl
  have hcomp := comp_ok (P := T.prog) (by rw [List.length_map, List.length_range]; show _ ≤ (2 ^ 24 : Nat); omega) (comp_list (fun k : Nat => Val.int ((a : Int) + (k : Int))) _ (List.range (s.ls.length - a)) turn [])
  rw [List.nil_append, fm_if] at hcomp
  have hsrc : srcE T.prog (call T.prog (d + 1)) .range2 [(.var 1), (.own1 true (.var 0))] [some (bookI s), some (.int a), none] st = .ok ((List.range (s.ls.length - a)).map fun (k : Nat) => Val.int ((a : Int) + (k : Int)), []) st := by
    unfold srcE
    simp only [Es_cons, Es_nil, E_var, E_own1, R.then_ok, R.of_some, List.getElem?_cons_zero, List.getElem?_cons_succ, hl]
    show R.of (if _ then _ else none) st = _
    rw [if_pos (by omega), show ((s.ls.length : Int) - (a : Int)).toNat = s.ls.length - a by omega]
    rfl
  refine run_ret rfl (Ss_ret ?_)
  unfold b_head_bands_0
  rw [S_ret, E_comp]
  show ((srcE T.prog (call T.prog (d + 1)) .range2 [(.var 1), (.own1 true (.var 0))] [some (bookI s), some (.int a), none] st).then_ _).then_ _ = _
  rw [hsrc, R.then_ok]
  show (compE _ _ _ _ _ _ [some (bookI s), some (.int a), none] _ _).then_ _ = _
  rw [hcomp]
  unfold headL
  rw [List.map_map]
  rfl
theorem f_feet : T.prog.fn "foot_bands" = some ⟨2, 3, b_foot_bands⟩ := rfl
theorem c_feet (d : Nat) (s : Sp) (sok : s.ok) (t : Nat) (ht : t ≤ s.ls.length) (st : Store) : callM T.prog (call T.prog (d + 2)) .raw "foot_bands" [] [bookI s, .int t] [] st = .ok (.lst ((footL s t).map Band.val)) st := by
  have l4 := sok.l4
  have l1 := sok.l1
  have hl := fun st => book_len d s sok st
  refine call_raw (tp := [.pos 0, .pos 1]) rfl rfl ?_
  rw [unf f_feet]
  have eI : ∀ k : Nat, k < s.ls.length → ((s.ls.length : Int) - 1 + (k : Nat) * -1) = ((s.ls.length - 1 - k : Nat) : Int) := fun k hk => by omega
  have turn : ∀ k ∈ List.range (s.ls.length - t), turnF T.prog (call T.prog (d + 1)) (.v 2) (.tup [(.str "foot"), (.var 2)]) [(.cmp .gt (.attr (.ix (.attr (.var 0) "own_levels") (.var 2)) "foot") (.int 0))] [some (bookI s), some (.int t), none] (Val.int ((s.ls.length : Int) - 1 + (k : Nat) * -1)) st = .ok (if (decide (0 < (lv s (s.ls.length - 1 - k)).f)) = true then some (Band.foot (s.ls.length - 1 - k)).val else none) st := by
    intro k hk
    have hk' := List.mem_range.mp hk
    rw [eI k (by omega)]
    have a1 : ∀ st, ixV st (.lst (s.ls.map Lev.ins)) (.int ((s.ls.length - 1 - k : Nat) : Int)) = some (lv s (s.ls.length - 1 - k)).ins := fun st => at_lev (by omega) st
    unfold turnF
    cases h2 : decide (0 < (lv s (s.ls.length - 1 - k)).f) <;>
      simp only [E_var, E_non, E_bl, E_int, E_str, E_glob, E_bin, E_neg, E_cmp, E_chain, E_and, E_or, E_not, E_ite, E_tup, E_lstF, E_lstT, E_ix, E_slc, E_attr, E_call, E_make, E_meth, E_bcall, E_bmeth, E_isin, Es_nil, Es_cons, and_one, and_two, or_one, or_two, T_and, T_or, T_not, T_cmp, T_chain, T_var, T_bl, T_attr, T_call, T_bcall, T_ix, T_isin, andT_one, andT_two, orT_one, orT_two, test_nil, test_one, S_expr, S_set, S_sett, S_setc, S_par, S_fld, S_sub, S_ret, S_retN, S_ite, S_for, S_pass, Ss_nil, Ss_cons, R.then_ok, R.of_some, List.getElem?_cons_zero, List.getElem?_cons_succ, Option.map_some, asB, bindT, slots, wipeE, List.length_cons, List.length_nil, List.set_cons_succ, List.set_cons_zero, Nat.reduceAdd, Nat.reduceLT, if_true, bk_levels, a1, lv_foot, c_gt, h2] <;> rfl
  have hcomp := comp_ok (P := T.prog) (by rw [List.length_map, List.length_range]; show _ ≤ (2 ^ 24 : Nat); omega) (comp_list (fun k : Nat => Val.int ((s.ls.length : Int) - 1 + (k : Nat) * -1)) _ (List.range (s.ls.length - t)) turn [])
  rw [List.nil_append, fm_if] at hcomp
  have hsrc : srcE T.prog (call T.prog (d + 1)) .range3 [(.bin .sub (.own1 true (.var 0)) (.int 1)), (.bin .sub (.var 1) (.int 1)), (.neg (.int 1))] [some (bookI s), some (.int t), none] st = .ok ((List.range (s.ls.length - t)).map fun (k : Nat) => Val.int ((s.ls.length : Int) - 1 + (k : Nat) * -1), []) st := by
    unfold srcE
    simp only [Es_cons, Es_nil, E_var, E_own1, E_bin, E_neg, E_int, b_sub, R.then_ok, R.of_some, List.getElem?_cons_zero, List.getElem?_cons_succ, hl]
    show R.of (if _ then _ else none) st = _
    rw [if_pos (by omega), show ((s.ls.length : Int) - 1 - ((t : Int) - 1)).toNat = s.ls.length - t by omega]
    rfl
  refine run_ret rfl (Ss_ret ?_)
  unfold b_foot_bands_0
  rw [S_ret, E_comp]
  show ((srcE T.prog (call T.prog (d + 1)) .range3 [(.bin .sub (.own1 true (.var 0)) (.int 1)), (.bin .sub (.var 1) (.int 1)), (.neg (.int 1))] [some (bookI s), some (.int t), none] st).then_ _).then_ _ = _
  rw [hsrc, R.then_ok]
  show (compE _ _ _ _ _ _ [some (bookI s), some (.int t), none] _ _).then_ _ = _
  rw [hcomp]
  unfold footL
  rw [List.map_map]
  rfl
/-! ### shapes -/
structure ShS where
  left : Int
  row : Bool
  late : Bool
  heads : Nat
  held : List Nat
def kindV (k : Nat) : Val := .int (k : Int)
def ShS.val (S : ShS) : Val := .tup [.int S.left, .bl S.row, .bl S.late, .int (S.heads : Int), .tup (S.held.map kindV)]
structure ShS.ok (S : ShS) (s : Sp) : Prop where
  heads : S.heads ≤ s.ls.length
  held : ∀ k ∈ S.held, k < s.ks.length
  many : S.held.length ≤ 4
theorem rowL_ok {s : Sp} {ks : List Nat} (h : ∀ k ∈ ks, k < s.ks.length) : ∀ bd ∈ rowL ks, bd.ok s := by
  intro bd hb
  obtain ⟨k, hk, rfl⟩ := List.mem_map.mp hb
  exact h k hk
/-- [("row", kind) for kind in ..] -/
theorem rows_comp {Φ : Cal} {env : Mp.Env} {st : Store} {x : ME} {i : Nat} {ks : List Nat} (hl : ks.length ≤ 1000) (hi : i < env.length) (hsrc : srcE T.prog Φ .seq [x] env st = .ok (ks.map kindV, []) st) (hw : (wipeE env [i]).length = env.length) : evalE T.prog Φ (.comp false (.tup [(.str "row"), (.var i)]) (.v i) .seq [x] []) env st = .ok (.lst ((rowL ks).map Band.val)) st := by
  have turn : ∀ k ∈ ks, turnF T.prog Φ (.v i) (.tup [(.str "row"), (.var i)]) [] env (kindV k) st = .ok (some (Band.row k).val) st := by
    intro k hk
    have hb : bindT (.v i) (kindV k) (wipeE env (slots (.v i))) = some ((wipeE env [i]).set i (some (kindV k))) := by
      show (if i < (wipeE env [i]).length then some ((wipeE env [i]).set i (some (kindV k))) else none) = _
      rw [if_pos (by rw [hw]; exact hi)]
    unfold turnF
    rw [hb]
    have hg : ((wipeE env [i]).set i (some (kindV k)))[i]? = some (some (kindV k)) := List.getElem?_set_self (by rw [hw]; exact hi)
    simp only [test_nil, R.then_ok, E_tup, Es_cons, Es_nil, E_str, E_var, hg]
    rfl
  have hcomp := comp_ok (P := T.prog) (by rw [List.length_map]; show _ ≤ (2 ^ 24 : Nat); omega) (comp_list kindV _ ks turn [])
  rw [List.nil_append, fm_map] at hcomp
  rw [E_comp, hsrc, R.then_ok, hcomp]
  unfold rowL
  rw [List.map_map]
  rfl
theorem f_close : T.prog.fn "close_groups" = some ⟨3, 6, b_close_groups⟩ := rfl
def closeL (s : Sp) (S : ShS) (t : Nat) : List Band := headL s S.heads ++ rowL S.held ++ footL s t
theorem close_ok {st : Store} {p h : Nat} (H : PH st p h) (d : Nat) (s : Sp) (sok : s.ok) (S : ShS) (Sok : S.ok s) (t : Nat) (ht : t ≤ s.ls.length) (P : PenS) (hn : P.evs.length ≤ 80000) : callM T.prog (call T.prog (d + 5)) .raw "close_groups" [] [.ref p, S.val, .int t] [] (pst st p h (bookI s) P) = .ok .non (pst st p h (bookI s) (lotP s (closeL s S t) P)) := by
  have l4 := sok.l4
  have h1 := headL_len s S.heads
  have h2 := footL_len s t
  have h3 := Sok.many
  refine call_raw (tp := [.pos 0, .pos 1, .pos 2]) rfl rfl ?_
  rw [unf f_close]
  have q0 : evalS T.prog (call T.prog (d + 4)) b_close_groups_0 [some (.ref p), some S.val, some (.int t), none, none, none] (pst st p h (bookI s) P) = .ok (.next [some (.ref p), some S.val, some (.int t), some (bookI s), none, none]) (pst st p h (bookI s) P) := by
    unfold b_close_groups_0
    simp only [E_var, E_non, E_bl, E_int, E_str, E_glob, E_bin, E_neg, E_cmp, E_chain, E_and, E_or, E_not, E_ite, E_tup, E_lstF, E_lstT, E_ix, E_slc, E_attr, E_call, E_make, E_meth, E_bcall, E_bmeth, E_isin, Es_nil, Es_cons, and_one, and_two, or_one, or_two, T_and, T_or, T_not, T_cmp, T_chain, T_var, T_bl, T_attr, T_call, T_bcall, T_ix, T_isin, andT_one, andT_two, orT_one, orT_two, test_nil, test_one, S_expr, S_set, S_sett, S_setc, S_par, S_fld, S_sub, S_ret, S_retN, S_ite, S_for, S_pass, Ss_nil, Ss_cons, R.then_ok, R.of_some, List.getElem?_cons_zero, List.getElem?_cons_succ, Option.map_some, asB, pen_book H]
    rfl
  have hh := fun st => c_heads (d + 2) s sok S.heads Sok.heads st
  have hf := fun st => c_feet (d + 2) s sok t ht st
  have x3 : ∀ st, ixV st S.val (.int 3) = some (.int (S.heads : Int)) := fun _ => rfl
  have hr := rows_comp (Φ := call T.prog (d + 4)) (env := [some (.ref p), some S.val, some (.int t), some (bookI s), none, none]) (st := pst st p h (bookI s) P) (x := .ix (.var 1) (.int 4)) (i := 5) (ks := S.held) (by omega) (by show 5 < 6; decide) rfl rfl
  have q1 : evalS T.prog (call T.prog (d + 4)) b_close_groups_1 [some (.ref p), some S.val, some (.int t), some (bookI s), none, none] (pst st p h (bookI s) P) = .ok (.next [some (.ref p), some S.val, some (.int t), some (bookI s), some (.lst ((headL s S.heads ++ rowL S.held).map Band.val)), none]) (pst st p h (bookI s) P) := by
    have hc := b_cat ((headL s S.heads).map Band.val) ((rowL S.held).map Band.val) (by rw [List.length_map, List.length_map]; unfold rowL; rw [List.length_map]; omega) (pst st p h (bookI s) P)
    unfold b_close_groups_1
    rw [S_set, E_bin, E_call]
    simp only [Es_cons, Es_nil, E_var, E_ix, E_int, R.then_ok, R.of_some, List.getElem?_cons_zero, List.getElem?_cons_succ, x3, hh]
    rw [hr, R.then_ok, hc, List.map_append]
    rfl
  have ok : ∀ bd ∈ closeL s S t, bd.ok s := by
    intro bd hb
    unfold closeL at hb
    rcases List.mem_append.mp hb with hb |
                                           hb
    · rcases List.mem_append.mp hb with hb |
                                             hb
      · exact headL_ok s _ bd hb
      · exact rowL_ok Sok.held bd hb
    · exact footL_ok s _ bd hb
  have hlen : (closeL s S t).length ≤ 1000 := by
    unfold closeL rowL
    rw [List.length_append, List.length_append, List.length_map]
    omega
  have hlot := lot_ok H d s sok (closeL s S t) ok hlen P hn
  have q2 : evalS T.prog (call T.prog (d + 4)) b_close_groups_2 [some (.ref p), some S.val, some (.int t), some (bookI s), some (.lst ((headL s S.heads ++ rowL S.held).map Band.val)), none] (pst st p h (bookI s) P) = .ok (.next [some (.ref p), some S.val, some (.int t), some (bookI s), some (.lst ((headL s S.heads ++ rowL S.held).map Band.val)), none]) (pst st p h (bookI s) (lotP s (closeL s S t) P)) := by
    have hc := b_cat ((headL s S.heads ++ rowL S.held).map Band.val) ((footL s t).map Band.val) (by rw [List.length_map, List.length_map, List.length_append]; unfold rowL; rw [List.length_map]; omega) (pst st p h (bookI s) P)
    rw [← List.map_append] at hc
    unfold b_close_groups_2
    simp only [E_var, E_non, E_bl, E_int, E_str, E_glob, E_bin, E_neg, E_cmp, E_chain, E_and, E_or, E_not, E_ite, E_tup, E_lstF, E_lstT, E_ix, E_slc, E_attr, E_call, E_make, E_meth, E_bcall, E_bmeth, E_isin, Es_nil, Es_cons, and_one, and_two, or_one, or_two, T_and, T_or, T_not, T_cmp, T_chain, T_var, T_bl, T_attr, T_call, T_bcall, T_ix, T_isin, andT_one, andT_two, orT_one, orT_two, test_nil, test_one, S_expr, S_set, S_sett, S_setc, S_par, S_fld, S_sub, S_ret, S_retN, S_ite, S_for, S_pass, Ss_nil, Ss_cons, R.then_ok, R.of_some, List.getElem?_cons_zero, List.getElem?_cons_succ, Option.map_some, asB, List.length_cons, List.length_nil, Nat.reduceAdd, g_lot H, hf, hc]
    show (callM T.prog (call T.prog (d + 4)) .raw "Pen.set_lot" [] [.ref p, .lst ((closeL s S t).map Band.val)] [] (pst st p h (bookI s) P)).then_ _ = _
    rw [hlot]
    rfl
  exact run_next rfl ((Ss_next q0).trans ((Ss_next q1).trans ((Ss_next q2).trans rfl)))
end L_k11
end

section
set_option Elab.async false
set_option linter.all false
set_option maxRecDepth 100000
set_option maxHeartbeats
                         1000000
namespace L_k11
open PySem Mp
/-! ### what is held, as a value -/
theorem cut_drop {α : Type} (xs : List α) (i : Nat) : cut xs (some (i : Int)) none = xs.drop i := by
  have e1 : HT.sIx xs.length 0 (some (i : Int)) = min i xs.length := HT.sIx_nat _ _ _
  have e2 : HT.sIx xs.length xs.length none = xs.length := rfl
  unfold cut
  rw [e1, e2]
  by_cases h : i ≤ xs.length
  · rw [Nat.min_eq_left h, List.take_of_length_le (by rw [List.length_drop]; exact Nat.le_refl _)]
  · rw [Nat.min_eq_right (by omega), Nat.sub_self, List.take_zero, List.drop_of_length_le (by omega)]
theorem cut_take {α : Type} (xs : List α) (j : Nat) : cut xs none (some (j : Int)) = xs.take j := by
  have e1 : HT.sIx xs.length xs.length (some (j : Int)) = min j xs.length := HT.sIx_nat _ _ _
  have e2 : HT.sIx xs.length 0 none = 0 := rfl
  unfold cut
  rw [e1, e2, List.drop_zero, Nat.sub_zero]
  by_cases h : j ≤ xs.length
  · rw [Nat.min_eq_left h]
  · rw [Nat.min_eq_right (by omega), List.take_length, List.take_of_length_le (by omega)]
/-- a list's value: frozen, or a place in the store -/
structure LV (st : Store) (v : Val) (xs : List Val) : Prop where
  is : lstOf st v = some xs
  form : (∃ us, v = .lst us) ∨ ∃ i, v = .ref i
theorem LV.lst (st : Store) (xs : List Val) : LV st (.lst xs) xs := ⟨rfl, .inl ⟨xs, rfl⟩⟩
theorem LV.len {st : Store} {v : Val} {xs : List Val} (h : LV st v xs) : bV st "len" [v] = some (.int xs.length) := by
  obtain ⟨h1, h2⟩ := h
  rcases h2 with ⟨us, rfl⟩ | ⟨i, rfl⟩
  · cases h1; rfl
  · show (seqOf st (.ref i)).map (fun ys => Val.int ys.length) = _
    rw [show seqOf st (.ref i) = some xs from h1]; rfl
theorem LV.slc {st : Store} {v : Val} {xs : List Val} (h : LV st v xs) (lo hi : Option Int) : slcV st v lo hi = some (.lst (cut xs lo hi)) := by
  obtain ⟨h1, h2⟩ := h
  rcases h2 with ⟨us, rfl⟩ | ⟨i, rfl⟩
  · cases h1; rfl
  · show (lstOf st (.ref i)).map (fun ys => Val.lst (cut ys lo hi)) = _
    rw [h1]; rfl
theorem LV.at0 {st : Store} {v x : Val} {xs : List Val} (h : LV st v (x :: xs)) : ixV st v (.int 0) = some x := by
  obtain ⟨h1, h2⟩ := h
  rcases h2 with ⟨us, rfl⟩ | ⟨i, rfl⟩
  · cases h1
    exact at_nat (xs := x :: xs) 0 (Nat.succ_pos _)
  · show (match seqOf st (.ref i) with | some ys => L2.atI ys 0 | none => none) = _
    rw [show seqOf st (.ref i) = some (x :: xs) from h1]
    exact at_nat (xs := x :: xs) 0 (Nat.succ_pos _)
theorem LV.tup {st : Store} {v : Val} {xs : List Val} (h : LV st v xs) : bV st "tuple" [v] = some (.tup xs) := by
  obtain ⟨h1, h2⟩ := h
  rcases h2 with ⟨us, rfl⟩ | ⟨i, rfl⟩
  · cases h1; rfl
  · show (seqOf st (.ref i)).map Val.tup = _
    rw [show seqOf st (.ref i) = some xs from h1]; rfl
/-! ### the pen made -/
theorem f_Pinit : T.prog.fn "Pen.__init__" = some ⟨3, 3, b_Pen_init⟩ := rfl
def startP (S : ShS) : PenS := ⟨S.left, S.row, S.late, []⟩
theorem pst_new (st : Store) (b : Val) (P : PenS) (R : List SO) : pst (st ++ (.lst [] :: .lst [] :: R)) st.length (st.length + 1) b P = st ++ (penO b (st.length + 1) P :: .lst P.evs :: R) := by
  unfold pst
  rw [List.set_append_right _ _ (Nat.le_refl _), Nat.sub_self, List.set_append_right _ _ (Nat.le_succ _), show st.length + 1 - st.length = 1 by omega]
  rfl
theorem mk_pen (d : Nat) (b : Val) (S : ShS) (st : Store) : makeM T.prog (call T.prog (d + 1)) .raw "Pen" [] [b, S.val] [] st = .ok (.ref st.length) (st ++ [penO b (st.length + 1) (startP S), .lst []]) := by
  have e0 : call T.prog (d + 1) "Pen.__init__" [.ref st.length, b, S.val] (st ++ [.ins "Pen" [] []]) = .ok .non (st ++ [penO b (st.length + 1) (startP S), .lst []]) := by
    rw [unf f_Pinit]
    have q0 : evalS T.prog (call T.prog d) b_Pen_init_0 [some (.ref st.length), some b, some S.val] (st ++ [.ins "Pen" [] []]) = .ok (.next [some (.ref st.length), some b, some S.val]) (st ++ [.ins "Pen" ["own_book"] [b]]) := fld_stepE rfl rfl rfl rfl rfl
    have q1 : evalS T.prog (call T.prog d) b_Pen_init_1 [some (.ref st.length), some b, some S.val] (st ++ [.ins "Pen" ["own_book"] [b]]) = .ok (.next [some (.ref st.length), some b, some S.val]) (st ++ [.ins "Pen" ["own_book", "left"] [b, .int S.left]]) := fld_stepE rfl rfl rfl rfl rfl
    have q2 : evalS T.prog (call T.prog d) b_Pen_init_2 [some (.ref st.length), some b, some S.val] (st ++ [.ins "Pen" ["own_book", "left"] [b, .int S.left]]) = .ok (.next [some (.ref st.length), some b, some S.val]) (st ++ [.ins "Pen" ["own_book", "left", "has_row"] [b, .int S.left, .bl S.row]]) := fld_stepE rfl rfl rfl rfl rfl
    have q3 : evalS T.prog (call T.prog d) b_Pen_init_3 [some (.ref st.length), some b, some S.val] (st ++ [.ins "Pen" ["own_book", "left", "has_row"] [b, .int S.left, .bl S.row]]) = .ok (.next [some (.ref st.length), some b, some S.val]) (st ++ [.ins "Pen" ["own_book", "left", "has_row", "is_late"] [b, .int S.left, .bl S.row, .bl S.late]]) := fld_stepE rfl rfl rfl rfl rfl
    have q4 : evalS T.prog (call T.prog d) b_Pen_init_4 [some (.ref st.length), some b, some S.val] (st ++ [.ins "Pen" ["own_book", "left", "has_row", "is_late"] [b, .int S.left, .bl S.row, .bl S.late]]) = .ok (.next [some (.ref st.length), some b, some S.val]) (st ++ [penO b (st.length + 1) (startP S), .lst []]) := by
      have el : (st ++ [SO.ins "Pen" ["own_book", "left", "has_row", "is_late"] [b, .int S.left, .bl S.row, .bl S.late]]).length = st.length + 1 := by simp
      have eg : (st ++ [SO.ins "Pen" ["own_book", "left", "has_row", "is_late"] [b, .int S.left, .bl S.row, .bl S.late]] ++ [SO.lst []])[st.length]? = some (SO.ins "Pen" ["own_book", "left", "has_row", "is_late"] [b, .int S.left, .bl S.row, .bl S.late]) := by simp
      have es : fldSet T.prog (st ++ [SO.ins "Pen" ["own_book", "left", "has_row", "is_late"] [b, .int S.left, .bl S.row, .bl S.late]] ++ [SO.lst []]) (.ref st.length) "happened" (.ref (st.length + 1)) = some (st ++ [penO b (st.length + 1) (startP S), .lst []]) := by
        unfold fldSet
        simp only [eg]
        show some ((st ++ [SO.ins "Pen" ["own_book", "left", "has_row", "is_late"] [b, .int S.left, .bl S.row, .bl S.late]] ++ [SO.lst []]).set st.length (penO b (st.length + 1) (startP S))) = _
        rw [List.append_assoc, List.set_append_right _ _ (Nat.le_refl _), Nat.sub_self]
        rfl
      unfold b_Pen_init_4
      rw [S_fld, E_lstT, Es_nil, R.then_ok, R.then_ok, el]
      show (match fldSet T.prog _ (.ref st.length) "happened" (.ref (st.length + 1)) with | some st' => R.ok (Fl.next _) st' | none => .stuck) = _
      rw [es]
    exact run_next rfl ((Ss_next q0).trans ((Ss_next q1).trans ((Ss_next q2).trans ((Ss_next q3).trans ((Ss_next q4).trans rfl)))))
  have em : T.prog.meth "Pen" "__init__" = some ("Pen.__init__" : Str) := rfl
  have eb : T.prog.bind "Pen.__init__" 3 [] = some [.pos 0, .pos 1, .pos 2] := rfl
  unfold makeM
  rw [em]
  simp only [show T.prog.isc "Pen" = true from rfl, if_true, List.length_cons, List.length_nil, Nat.reduceAdd, eb]
  show ((call T.prog (d + 1) "Pen.__init__" [.ref st.length, b, S.val] (st ++ [.ins "Pen" [] []])).then_ _) = _
  rw [e0]
  rfl
/-! ### shapes compared -/
def ShS.first : ShS := ⟨-1, false, false, 0, []⟩
def ShS.isF (S : ShS) : Bool := (S.left == -1) && ((S.row == false) && ((S.late == false) && (((S.heads : Int) == 0) && (S.held.isEmpty && true))))
theorem kinds_D : ∀ ks : List Nat, isDs (ks.map kindV) = true
  | [] => rfl
  | k :: r => kinds_D r
theorem kinds_dep : ∀ ks : List Nat, vdeps (ks.map kindV) = 0
  | [] => rfl
  | k :: r => by
    show max 0 (vdeps (r.map kindV)) = 0
    rw [kinds_dep r]; rfl
theorem ShS.okD (S : ShS) (st : Store) : Mp.okD (Mp.top st S.val) = true := by
  show (isD S.val && decide (vdep S.val ≤ 60)) = true
  have e1 : isD S.val = true := by
    show (true && (true && (true && (true && (isDs (S.held.map kindV) && true))))) = true
    rw [kinds_D]; rfl
  have e2 : vdep S.val ≤ 60 := by
    show max 0 (max 0 (max 0 (max 0 (max (vdeps (S.held.map kindV) + 1) 0)))) + 1 ≤ 60
    rw [kinds_dep]; decide
  rw [e1, decide_eq_true e2]; rfl
theorem veqs_nil (ks : List Nat) : veqs (ks.map kindV) [] = ks.isEmpty := by cases ks <;> rfl
theorem veq_first (S : ShS) : veq S.val ShS.first.val = S.isF := by
  show ((S.left == -1) && ((S.row == false) && ((S.late == false) && (((S.heads : Int) == 0) && (veqs (S.held.map kindV) [] && true))))) = _
  rw [veqs_nil]; rfl
theorem eq_first (S : ShS) (st : Store) : cmpV st .eq S.val ShS.first.val = some S.isF := by
  show eqD st S.val ShS.first.val = _
  unfold eqD
  rw [S.okD, ShS.okD]
  show some (veq S.val ShS.first.val) = _
  rw [veq_first]
theorem f_first : T.prog.fn "first_shape" = some ⟨0, 0, b_first_shape⟩ := rfl
theorem c_first (d : Nat) (st : Store) : callM T.prog (call T.prog (d + 1)) .raw "first_shape" [] [] [] st = .ok ShS.first.val st := rfl
end L_k11
end

section
set_option Elab.async false
set_option linter.all false
set_option maxRecDepth 100000
set_option maxHeartbeats
                         1000000
namespace L_k11
open PySem Mp
/-! ### what a symbol does -/
structure Mid where
  P : PenS
  heads : Nat
  held : List Nat
  cl : List Val
def closeP (s : Sp) (S : ShS) (t : Nat) : PenS := lotP s (closeL s S t) (startP S)
def midF (s : Sp) (S : ShS) (t : Nat) : Mid := if S.isF = true then ⟨startP S, 0, S.held, []⟩ else if t < s.ls.length then ⟨{ closeP s S t with evs := [] }, t, [], (closeP s S t).evs⟩ else ⟨startP S, S.heads, S.held, []⟩
def leadN (s : Sp) : Nat := s.lead.toNat
def holdN (s : Sp) : Nat := s.hold.toNat
theorem lead_eq {s : Sp} (ok : s.ok) : s.lead = (leadN s : Int) := (Int.toNat_of_nonneg ok.lead.1).symm
theorem hold_eq {s : Sp} (ok : s.ok) : s.hold = (holdN s : Int) := (Int.toNat_of_nonneg ok.hold.1).symm
theorem lead_le {s : Sp} (ok : s.ok) : leadN s ≤ 2 := by have := lead_eq ok; have := ok.lead.2; omega
theorem hold_le {s : Sp} (ok : s.ok) : holdN s ≤ 2 := by have := hold_eq ok; have := ok.hold.2; omega
structure Fin' where
  P : PenS
  heads : Nat
  held : List Nat
def lateF (s : Sp) (M : Mid) : Fin' := if M.heads < s.ls.length ∧ leadN s + holdN s < M.held.length then ⟨lotP s (headL s M.heads ++ rowL (M.held.take (leadN s))) M.P, s.ls.length, M.held.drop (leadN s)⟩ else ⟨M.P, M.heads, M.held⟩
def drainF (s : Sp) (hold : Nat) : PenS → List Nat → PenS × List Nat
  | P, [] => (P, [])
  | P, k :: r => if hold < (k :: r).length then drainF s hold (lotP s [.row k] P) r else (P, k :: r)
def endF (s : Sp) (F : Fin') : Fin' := if F.heads = s.ls.length then ⟨(drainF s (holdN s) F.P F.held).1, F.heads, (drainF s (holdN s) F.P F.held).2⟩ else F
def addK (M : Mid) (k : Nat) : Mid := { M with held := M.held ++ [k] }
def stepF (s : Sp) (S : ShS) (t k : Nat) : Fin' := endF s (lateF s (addK (midF s S t) k))
def nextS (s : Sp) (S : ShS) (t k : Nat) : ShS := ⟨(stepF s S t k).P.left, (stepF s S t k).P.row, (stepF s S t k).P.late, (stepF s S t k).heads, (stepF s S t k).held⟩
/-! ### the store around the pen -/
section
variable {X : Store} {p h : Nat} (H : PH X p h)
include H
theorem pst_oth {b : Val} {P : PenS} {q : Nat} (h1 : q ≠ p) (h2 : q ≠ h) : (pst X p h b P)[q]? = X[q]? := by
  unfold pst
  rw [List.getElem?_set_ne (Ne.symm h2), List.getElem?_set_ne (Ne.symm h1)]
theorem lv_oth {b : Val} {P : PenS} {q : Nat} {xs : List Val} (h1 : q ≠ p) (h2 : q ≠ h) (e : X[q]? = some (.lst xs)) : LV (pst X p h b P) (.ref q) xs := by
  refine ⟨?_, .inr ⟨q, rfl⟩⟩
  unfold lstOf
  simp only [pst_oth H h1 h2, e]
theorem app_oth {b : Val} {P : PenS} {q : Nat} {xs : List Val} (h1 : q ≠ p) (h2 : q ≠ h) (e : X[q]? = some (.lst xs)) (hl : xs.length ≤ 1000) (v : Val) : bmTy (pst X p h b P) "append" (.ref q) = true ∧ bmV (pst X p h b P) "append" (.ref q) [v] = some (.non, pst (X.set q (.lst (xs ++ [v]))) p h b P) := by
  constructor
  · unfold bmTy lstOf
    simp only [pst_oth H h1 h2, e]
    rfl
  · have e1 : bmV (pst X p h b P) "append" (.ref q) [v] = appendV (pst X p h b P) (.ref q) [v] := rfl
    rw [e1]
    unfold appendV
    simp only [pst_oth H h1 h2, e]
    rw [if_pos (by show _ < (2 ^ 24 : Nat); omega)]
    unfold pst
    rw [List.set_comm _ _ (Ne.symm h2), List.set_comm _ _ (Ne.symm h1)]
theorem pst_len {b : Val} {P : PenS} : (pst X p h b P).length = X.length := by
  unfold pst
  rw [List.length_set, List.length_set]
end
theorem pst_pre {st Y : Store} {p h : Nat} (b : Val) (P : PenS) (h1 : st.length ≤ p) (h2 : st.length ≤ h) : ∃ Z, pst (st ++ Y) p h b P = st ++ Z := by
  unfold pst
  rw [List.set_append_right _ _ h1, List.set_append_right _ _ h2]
  exact ⟨_, rfl⟩
/-! ### the statements -/
def symV (t k : Nat) : Val := .tup [.int (t : Int), kindV k]
abbrev pE (s : Sp) (S : ShS) (sym : Val) (p : Nat) (hd hv cl : Val) : Mp.Env := [some (bookI s), some S.val, some sym, some (.ref p), some (.int (s.ls.length : Int)), some hd, some hv, some cl, none]
theorem p_start (d : Nat) (s : Sp) (sok : s.ok) (S : ShS) (sym : Val) (st : Store) : evalS T.prog (call T.prog (d + 1)) b_parted_events_0 [some (bookI s), some S.val, some sym, none, none, none, none, none, none] st = .ok (.next [some (bookI s), some S.val, some sym, some (.ref st.length), some (.int (s.ls.length : Int)), none, none, none, none]) (st ++ [penO (bookI s) (st.length + 1) (startP S), .lst []]) := by
  have hl := fun st => book_len d s sok st
  have hm := mk_pen d (bookI s) S st
  unfold b_parted_events_0
  rw [S_par, E_make]
  simp only [Es_cons, Es_nil, E_var, E_own1, R.then_ok, List.getElem?_cons_zero, List.getElem?_cons_succ, hm, hl]
  rfl
theorem p_three (Φ : Cal) (s : Sp) (S : ShS) (sym : Val) (p : Nat) (st : Store) : evalS T.prog Φ b_parted_events_1 [some (bookI s), some S.val, some sym, some (.ref p), some (.int (s.ls.length : Int)), none, none, none, none] st = .ok (.next (pE s S sym p (.int (S.heads : Int)) (.ref st.length) (.ref (st.length + 1)))) (st ++ [.lst (S.held.map kindV), .lst []]) := by
  have x3 : ∀ st, ixV st S.val (.int 3) = some (.int (S.heads : Int)) := fun _ => rfl
  have x4 : ∀ st, ixV st S.val (.int 4) = some (.tup (S.held.map kindV)) := fun _ => rfl
  have sq : ∀ st, seqOf st (.tup (S.held.map kindV)) = some (S.held.map kindV) := fun _ => rfl
  have el : (st ++ [SO.lst (S.held.map kindV)]).length = st.length + 1 := by simp
  unfold b_parted_events_1
  rw [S_par3]
  simp only [Es_cons, Es_nil, E_ix, E_var, E_int, E_lcopy, E_lstT, R.then_ok, R.of_some, List.getElem?_cons_zero, List.getElem?_cons_succ, x3, x4, sq, el, List.append_assoc, List.cons_append, List.nil_append]
  rfl
/-- the first part is over -/
structure MidAt (st : Store) (s : Sp) (M : Mid) (Y : List SO) (h r c : Nat) : Prop where
  H : PH (st ++ Y) st.length h
  hh : st.length ≤ h
  r1 : r ≠ st.length
  r2 : r ≠ h
  r3 : st.length ≤ r
  rv : (st ++ Y)[r]? = some (.lst (M.held.map kindV))
  c1 : c ≠ st.length
  c2 : c ≠ h
  c3 : c ≠ r
  cv : (st ++ Y)[c]? = some (.lst M.cl)
theorem fourPH (st : Store) (a b c d : SO) : PH (st ++ [a, b, c, d]) st.length (st.length + 1) := ⟨by simp, by simp, by omega⟩
theorem p_mid (d : Nat) (s : Sp) (sok : s.ok) (S : ShS) (Sok : S.ok s) (t k : Nat) (st : Store) : ∃ (Y : List SO) (h r c : Nat), evalS T.prog (call T.prog (d + 5)) b_parted_events_2 (pE s S (symV t k) st.length (.int (S.heads : Int)) (.ref (st.length + 2)) (.ref (st.length + 3))) (st ++ [penO (bookI s) (st.length + 1) (startP S), .lst [], .lst (S.held.map kindV), .lst []]) =
    .ok (.next (pE s S (symV t k) st.length (.int ((midF s S t).heads : Int)) (.ref r) (.ref c))) (pst (st ++ Y) st.length h (bookI s) (midF s S t).P) ∧ MidAt st s (midF s S t) Y h r c := by
  have hfirst := fun st => c_first (d + 4) st
  have heq := fun st => eq_first S st
  have hstart : st ++ [penO (bookI s) (st.length + 1) (startP S), .lst [], .lst (S.held.map kindV), .lst []] = pst (st ++ [.lst [], .lst [], .lst (S.held.map kindV), .lst []]) st.length (st.length + 1) (bookI s) (startP S) := (pst_new st (bookI s) (startP S) _).symm
  have H4 := fourPH st (.lst []) (.lst []) (.lst (S.held.map kindV)) (.lst [])
  have plainAt : ∀ M : Mid, M.held = S.held → M.cl = [] → MidAt st s M [.lst [], .lst [], .lst (S.held.map kindV), .lst []] (st.length + 1) (st.length + 2) (st.length + 3) := fun M e1 e2 => by
    refine ⟨H4, by omega, by omega, by omega, by omega, ?_, by omega, by omega, by omega, ?_⟩
    · rw [List.getElem?_append_right (by omega), e1, show st.length + 2 - st.length = 2 by omega]; rfl
    · rw [List.getElem?_append_right (by omega), e2, show st.length + 3 - st.length = 3 by omega]; rfl
  have tst : ∀ st', evalT T.prog (call T.prog (d + 5)) (.cmp .eq (.var 1) (.call .raw "first_shape" [] [] [])) (pE s S (symV t k) st.length (.int (S.heads : Int)) (.ref (st.length + 2)) (.ref (st.length + 3))) st' = .ok S.isF st' := fun st' => by
    simp only [E_var, E_non, E_bl, E_int, E_str, E_glob, E_bin, E_neg, E_cmp, E_chain, E_and, E_or, E_not, E_ite, E_tup, E_lstF, E_lstT, E_ix, E_slc, E_attr, E_call, E_make, E_meth, E_bcall, E_bmeth, E_isin, Es_nil, Es_cons, and_one, and_two, or_one, or_two, T_and, T_or, T_not, T_cmp, T_chain, T_var, T_bl, T_attr, T_call, T_bcall, T_ix, T_isin, andT_one, andT_two, orT_one, orT_two, test_nil, test_one, S_expr, S_set, S_sett, S_setc, S_par, S_fld, S_sub, S_ret, S_retN, S_ite, S_for, S_pass, Ss_nil, Ss_cons, R.then_ok, R.of_some, List.getElem?_cons_zero, List.getElem?_cons_succ, Option.map_some, asB, hfirst, heq]
  have x0 : ∀ st, ixV st (symV t k) (.int 0) = some (.int (t : Int)) := fun _ => rfl
  have n0 : ∀ st, cmpV st .isn (symV t k) .non = some false := fun _ => rfl
  rw [hstart]
  unfold midF
  cases hF : S.isF with
  | true =>
    refine ⟨_, _, _, _, ?_, plainAt ⟨startP S, 0, S.held, []⟩ rfl rfl⟩
    unfold b_parted_events_2
    rw [S_ite, tst, hF]
    rfl
  | false =>
    rw [if_neg
               Bool.false_ne_true]
    by_cases ht : t < s.ls.length
    · rw [if_pos ht]
      have hc := close_ok H4 d s sok S Sok t (Nat.le_of_lt ht) (startP S) (by show 0 ≤ 80000; omega)
      have hX := pst_new st (bookI s) (closeP s S t) [.lst (S.held.map kindV), .lst []]
      have hYH : PH (st ++ [penO (bookI s) (st.length + 1) (closeP s S t), .lst (closeP s S t).evs, .lst (S.held.map kindV), .lst [], .lst [], .lst []]) st.length (st.length + 5) := ⟨by simp, by simp, by omega⟩
      refine ⟨[penO (bookI s) (st.length + 1) (closeP s S t), .lst (closeP s S t).evs, .lst (S.held.map kindV), .lst [], .lst [], .lst []], st.length + 5, st.length + 4, st.length + 1, ?_, ⟨hYH, by omega, by omega, by omega, by omega, ?_, by omega, by omega, by omega, ?_⟩⟩
      · unfold b_parted_events_2
        rw [S_ite, tst, hF]
        have dt : decide ((t : Int) < (s.ls.length : Int)) = true := decide_eq_true (by omega)
        have t2 : ∀ st', evalT T.prog (call T.prog (d + 5)) (.or [(.cmp .isn (.var 2) (.non)), (.cmp .lt (.ix (.var 2) (.int 0)) (.var 4))]) (pE s S (symV t k) st.length (.int (S.heads : Int)) (.ref (st.length + 2)) (.ref (st.length + 3))) st' = .ok true st' := fun st' => by
          simp only [E_var, E_non, E_bl, E_int, E_str, E_glob, E_bin, E_neg, E_cmp, E_chain, E_and, E_or, E_not, E_ite, E_tup, E_lstF, E_lstT, E_ix, E_slc, E_attr, E_call, E_make, E_meth, E_bcall, E_bmeth, E_isin, Es_nil, Es_cons, and_one, and_two, or_one, or_two, T_and, T_or, T_not, T_cmp, T_chain, T_var, T_bl, T_attr, T_call, T_bcall, T_ix, T_isin, andT_one, andT_two, orT_one, orT_two, test_nil, test_one, S_expr, S_set, S_sett, S_setc, S_par, S_fld, S_sub, S_ret, S_retN, S_ite, S_for, S_pass, Ss_nil, Ss_cons, R.then_ok, R.of_some, List.getElem?_cons_zero, List.getElem?_cons_succ, Option.map_some, asB, n0, x0, c_lt, dt]
        have w1 : ∀ st', evalS T.prog (call T.prog (d + 5)) (.set (.v 5) (.ite (.cmp .isn (.var 2) (.non)) (.int 0) (.ix (.var 2) (.int 0)))) (pE s S (symV t k) st.length (.int (S.heads : Int)) (.ref (st.length + 2)) (.ref (st.length + 3))) st' = .ok (.next (pE s S (symV t k) st.length (.int (t : Int)) (.ref (st.length + 2)) (.ref (st.length + 3)))) st' := fun st' => by
          simp only [E_var, E_non, E_bl, E_int, E_str, E_glob, E_bin, E_neg, E_cmp, E_chain, E_and, E_or, E_not, E_ite, E_tup, E_lstF, E_lstT, E_ix, E_slc, E_attr, E_call, E_make, E_meth, E_bcall, E_bmeth, E_isin, Es_nil, Es_cons, and_one, and_two, or_one, or_two, T_and, T_or, T_not, T_cmp, T_chain, T_var, T_bl, T_attr, T_call, T_bcall, T_ix, T_isin, andT_one, andT_two, orT_one, orT_two, test_nil, test_one, S_expr, S_set, S_sett, S_setc, S_par, S_fld, S_sub, S_ret, S_retN, S_ite, S_for, S_pass, Ss_nil, Ss_cons, R.then_ok, R.of_some, List.getElem?_cons_zero, List.getElem?_cons_succ, Option.map_some, asB, n0, x0]
          rfl
        have w2 : evalS T.prog (call T.prog (d + 5)) (.expr (.call .raw "close_groups" [(.var 3), (.var 1), (.var 5)] [] [])) (pE s S (symV t k) st.length (.int (t : Int)) (.ref (st.length + 2)) (.ref (st.length + 3))) (pst (st ++ [.lst [], .lst [], .lst (S.held.map kindV), .lst []]) st.length (st.length + 1) (bookI s) (startP S)) = .ok (.next (pE s S (symV t k) st.length (.int (t : Int)) (.ref (st.length + 2)) (.ref (st.length + 3)))) (st ++ [penO (bookI s) (st.length + 1) (closeP s S t), .lst (closeP s S t).evs, .lst (S.held.map kindV), .lst []]) := by
          rw [← hX]
          rw [S_expr]
          show ((callM T.prog (call T.prog (d + 5)) .raw "close_groups" [] [.ref st.length, S.val, .int (t : Int)] [] _).then_ _) = _
          rw [hc]
          rfl
        have el : (st ++ [penO (bookI s) (st.length + 1) (closeP s S t), .lst (closeP s S t).evs, .lst (S.held.map kindV), .lst []]).length = st.length + 4 := by simp
        have ea : attrM T.prog (call T.prog (d + 5)) (.ref st.length) "happened" (st ++ [penO (bookI s) (st.length + 1) (closeP s S t), .lst (closeP s S t).evs, .lst (S.held.map kindV), .lst [], .lst []]) = .ok (.ref (st.length + 1)) (st ++ [penO (bookI s) (st.length + 1) (closeP s S t), .lst (closeP s S t).evs, .lst (S.held.map kindV), .lst [], .lst []]) := by
          have eg : (st ++ [penO (bookI s) (st.length + 1) (closeP s S t), .lst (closeP s S t).evs, .lst (S.held.map kindV), .lst [], .lst []])[st.length]? = some (penO (bookI s) (st.length + 1) (closeP s S t)) := by simp
          unfold attrM insOf
          simp only [eg]
          rfl
        have w3 : evalS T.prog (call T.prog (d + 5)) (.par 6 7 (.lst true []) (.attr (.var 3) "happened")) (pE s S (symV t k) st.length (.int (t : Int)) (.ref (st.length + 2)) (.ref (st.length + 3))) (st ++ [penO (bookI s) (st.length + 1) (closeP s S t), .lst (closeP s S t).evs, .lst (S.held.map kindV), .lst []]) = .ok (.next (pE s S (symV t k) st.length (.int (t : Int)) (.ref (st.length + 4)) (.ref (st.length + 1)))) (st ++ [penO (bookI s) (st.length + 1) (closeP s S t), .lst (closeP s S t).evs, .lst (S.held.map kindV), .lst [], .lst []]) := by
          rw [S_par, E_lstT, Es_nil, R.then_ok, R.then_ok, el, E_attr, E_var]
          simp only [List.getElem?_cons_zero, List.getElem?_cons_succ, R.then_ok, List.append_assoc, List.cons_append, List.nil_append, ea]
          rfl
        have el2 : (st ++ [penO (bookI s) (st.length + 1) (closeP s S t), .lst (closeP s S t).evs, .lst (S.held.map kindV), .lst [], .lst []]).length = st.length + 5 := by simp
        have w4 : evalS T.prog (call T.prog (d + 5)) (.fld (.var 3) "happened" (.lst true [])) (pE s S (symV t k) st.length (.int (t : Int)) (.ref (st.length + 4)) (.ref (st.length + 1))) (st ++ [penO (bookI s) (st.length + 1) (closeP s S t), .lst (closeP s S t).evs, .lst (S.held.map kindV), .lst [], .lst []]) = .ok (.next (pE s S (symV t k) st.length (.int (t : Int)) (.ref (st.length + 4)) (.ref (st.length + 1)))) (pst (st ++ [penO (bookI s) (st.length + 1) (closeP s S t), .lst (closeP s S t).evs, .lst (S.held.map kindV), .lst [], .lst [], .lst []]) st.length (st.length + 5) (bookI s) { closeP s S t with evs := [] }) := by
          have eg : (st ++ [penO (bookI s) (st.length + 1) (closeP s S t), .lst (closeP s S t).evs, .lst (S.held.map kindV), .lst [], .lst [], .lst []])[st.length]? = some (penO (bookI s) (st.length + 1) (closeP s S t)) := by simp
          have es : fldSet T.prog (st ++ [penO (bookI s) (st.length + 1) (closeP s S t), .lst (closeP s S t).evs, .lst (S.held.map kindV), .lst [], .lst [], .lst []]) (.ref st.length) "happened" (.ref (st.length + 5)) = some (pst (st ++ [penO (bookI s) (st.length + 1) (closeP s S t), .lst (closeP s S t).evs, .lst (S.held.map kindV), .lst [], .lst [], .lst []]) st.length (st.length + 5) (bookI s) { closeP s S t with evs := [] }) := by
            unfold fldSet
            simp only [eg]
            show some ((st ++ [penO (bookI s) (st.length + 1) (closeP s S t), .lst (closeP s S t).evs, .lst (S.held.map kindV), .lst [], .lst [], .lst []]).set st.length (penO (bookI s) (st.length + 5) { closeP s S t with evs := [] })) = _
            unfold pst
            rw [List.set_append_right _ _ (Nat.le_refl _), List.set_append_right _ _ (by omega), Nat.sub_self, show st.length + 5 - st.length = 5 by omega]
            rfl
          rw [S_fld, E_lstT, Es_nil, R.then_ok, R.then_ok, el2]
          simp only [E_var, List.getElem?_cons_zero, List.getElem?_cons_succ, R.then_ok, List.append_assoc, List.cons_append, List.nil_append, es]
        show (evalSs T.prog (call T.prog (d + 5)) [_] _ _) = _
        refine (Ss_next ?_).trans rfl
        rw [S_ite, t2, R.then_ok]
        exact (Ss_next (w1 _)).trans ((Ss_next w2).trans ((Ss_next w3).trans ((Ss_next w4).trans rfl)))
      · rw [List.getElem?_append_right (by omega), show st.length + 4 - st.length = 4 by omega]; rfl
      · rw [List.getElem?_append_right (by omega), show st.length + 1 - st.length = 1 by omega]; rfl
    · rw [if_neg ht]
      refine ⟨_, _, _, _, ?_, plainAt ⟨startP S, S.heads, S.held, []⟩ rfl rfl⟩
      unfold b_parted_events_2
      rw [S_ite, tst, hF]
      have dt : decide ((t : Int) < (s.ls.length : Int)) = false := decide_eq_false (by omega)
      have t2 : ∀ st', evalT T.prog (call T.prog (d + 5)) (.or [(.cmp .isn (.var 2) (.non)), (.cmp .lt (.ix (.var 2) (.int 0)) (.var 4))]) (pE s S (symV t k) st.length (.int (S.heads : Int)) (.ref (st.length + 2)) (.ref (st.length + 3))) st' = .ok false st' := fun st' => by
        simp only [E_var, E_non, E_bl, E_int, E_str, E_glob, E_bin, E_neg, E_cmp, E_chain, E_and, E_or, E_not, E_ite, E_tup, E_lstF, E_lstT, E_ix, E_slc, E_attr, E_call, E_make, E_meth, E_bcall, E_bmeth, E_isin, Es_nil, Es_cons, and_one, and_two, or_one, or_two, T_and, T_or, T_not, T_cmp, T_chain, T_var, T_bl, T_attr, T_call, T_bcall, T_ix, T_isin, andT_one, andT_two, orT_one, orT_two, test_nil, test_one, S_expr, S_set, S_sett, S_setc, S_par, S_fld, S_sub, S_ret, S_retN, S_ite, S_for, S_pass, Ss_nil, Ss_cons, R.then_ok, R.of_some, List.getElem?_cons_zero, List.getElem?_cons_succ, Option.map_some, asB, n0, x0, c_lt, dt]
      show (evalSs T.prog (call T.prog (d + 5)) [_] _ _) = _
      exact (Ss_next (ite_next (t2 _))).trans rfl
end L_k11
end

section
set_option Elab.async false
set_option linter.all false
set_option maxRecDepth 100000
set_option maxHeartbeats
                         1000000
namespace L_k11
open PySem Mp
/-- held rows, whatever the pen has done -/
def HV (X : Store) (p h : Nat) (b : Val) (hv : Val) (ks : List Nat) : Prop := ∀ P, LV (pst X p h b P) hv (ks.map kindV)
theorem map_cut {α β : Type} (f : α → β) (xs : List α) (lo hi : Option Int) : cut (xs.map f) lo hi = (cut xs lo hi).map f := by
  unfold cut
  rw [List.length_map, List.map_take, List.map_drop]
theorem HV.lst {X : Store} {p h : Nat} {b : Val} (ks : List Nat) : HV X p h b (.lst (ks.map kindV)) ks := fun P => LV.lst _ _
section
variable {X : Store} {p h : Nat} (H : PH X p h)
include H
/-! ### the first rows of a group -/
theorem p_late (d : Nat) (s : Sp) (sok : s.ok) (S : ShS) (sym : Val) (hd : Nat) (hv cl : Val) (ks : List Nat) (hh : HV X p h (bookI s) hv ks) (hks : ∀ k ∈ ks, k < s.ks.length) (hl : ks.length ≤ 10) (hdl : hd ≤ s.ls.length) (M : Mid) (eM : M.heads = hd ∧ M.held = ks) (hn : M.P.evs.length ≤ 60000) :
    ∃ hv', evalS T.prog (call T.prog (d + 5)) b_parted_events_5 (pE s S sym p (.int (hd : Int)) hv cl) (pst X p h (bookI s) M.P) = .ok (.next (pE s S sym p (.int ((lateF s M).heads : Int)) hv' cl)) (pst X p h (bookI s) (lateF s M).P) ∧ HV X p h (bookI s) hv' (lateF s M).held := by
  obtain ⟨P, hd', ks', clv⟩ := M
  obtain ⟨rfl, rfl⟩ := eM
  replace hl : ks'.length ≤ 10 := hl
  replace hdl : hd' ≤ s.ls.length := hdl
  replace hn : P.evs.length ≤ 60000 := hn
  have l4 := sok.l4
  have eL := lead_eq sok
  have eH := hold_eq sok
  have h1 := headL_len s hd'
  have tst : evalT T.prog (call T.prog (d + 5)) (.and [(.cmp .lt (.var 5) (.var 4)), (.cmp .gt (.bcall "len" [(.var 6)]) (.bin .add (.attr (.var 0) "lead") (.attr (.var 0) "hold")))]) (pE s S sym p (.int (hd' : Int)) hv cl) (pst X p h (bookI s) P) = .ok (decide (hd' < s.ls.length ∧ leadN s + holdN s < ks'.length)) (pst X p h (bookI s) P) := by
    have hlen := (hh P).len
    rw [List.length_map] at hlen
    by_cases c1 : hd' < s.ls.length
    · have d1 : decide ((hd' : Int) < (s.ls.length : Int)) = true := decide_eq_true (by omega)
      by_cases c2 : leadN s + holdN s < ks'.length
      · have d2 : decide (s.lead + s.hold < (ks'.length : Int)) = true := decide_eq_true (by omega)
        rw [decide_eq_true (show hd' < s.ls.length ∧ leadN s + holdN s < ks'.length from ⟨c1, c2⟩)]
        simp only [E_var, E_non, E_bl, E_int, E_str, E_glob, E_bin, E_neg, E_cmp, E_chain, E_and, E_or, E_not, E_ite, E_tup, E_lstF, E_lstT, E_ix, E_slc, E_attr, E_call, E_make, E_meth, E_bcall, E_bmeth, E_isin, Es_nil, Es_cons, and_one, and_two, or_one, or_two, T_and, T_or, T_not, T_cmp, T_chain, T_var, T_bl, T_attr, T_call, T_bcall, T_ix, T_isin, andT_one, andT_two, orT_one, orT_two, test_nil, test_one, S_expr, S_set, S_sett, S_setc, S_par, S_fld, S_sub, S_ret, S_retN, S_ite, S_for, S_pass, Ss_nil, Ss_cons, R.then_ok, R.of_some, List.getElem?_cons_zero, List.getElem?_cons_succ, Option.map_some, asB, c_lt, c_gt, d1, hlen, bk_lead, bk_hold, b_add, d2]
      · have d2 : decide (s.lead + s.hold < (ks'.length : Int)) = false := decide_eq_false (by omega)
        rw [decide_eq_false (show ¬ (hd' < s.ls.length ∧ leadN s + holdN s < ks'.length) from fun z => c2 z.2)]
        simp only [E_var, E_non, E_bl, E_int, E_str, E_glob, E_bin, E_neg, E_cmp, E_chain, E_and, E_or, E_not, E_ite, E_tup, E_lstF, E_lstT, E_ix, E_slc, E_attr, E_call, E_make, E_meth, E_bcall, E_bmeth, E_isin, Es_nil, Es_cons, and_one, and_two, or_one, or_two, T_and, T_or, T_not, T_cmp, T_chain, T_var, T_bl, T_attr, T_call, T_bcall, T_ix, T_isin, andT_one, andT_two, orT_one, orT_two, test_nil, test_one, S_expr, S_set, S_sett, S_setc, S_par, S_fld, S_sub, S_ret, S_retN, S_ite, S_for, S_pass, Ss_nil, Ss_cons, R.then_ok, R.of_some, List.getElem?_cons_zero, List.getElem?_cons_succ, Option.map_some, asB, c_lt, c_gt, d1, hlen, bk_lead, bk_hold, b_add, d2]
    · have d1 : decide ((hd' : Int) < (s.ls.length : Int)) = false := decide_eq_false (by omega)
      rw [decide_eq_false (show ¬ (hd' < s.ls.length ∧ leadN s + holdN s < ks'.length) from fun z => c1 z.1)]
      simp only [E_var, E_non, E_bl, E_int, E_str, E_glob, E_bin, E_neg, E_cmp, E_chain, E_and, E_or, E_not, E_ite, E_tup, E_lstF, E_lstT, E_ix, E_slc, E_attr, E_call, E_make, E_meth, E_bcall, E_bmeth, E_isin, Es_nil, Es_cons, and_one, and_two, or_one, or_two, T_and, T_or, T_not, T_cmp, T_chain, T_var, T_bl, T_attr, T_call, T_bcall, T_ix, T_isin, andT_one, andT_two, orT_one, orT_two, test_nil, test_one, S_expr, S_set, S_sett, S_setc, S_par, S_fld, S_sub, S_ret, S_retN, S_ite, S_for, S_pass, Ss_nil, Ss_cons, R.then_ok, R.of_some, List.getElem?_cons_zero, List.getElem?_cons_succ, Option.map_some, asB, c_lt, d1]
  unfold b_parted_events_5 lateF
  rw [S_ite, tst]
  by_cases hc : hd' < s.ls.length ∧ leadN s + holdN s < ks'.length
  · rw [decide_eq_true hc, if_pos hc, R.then_ok]
    have hh1 := fun st => c_heads (d + 3) s sok hd' hdl st
    have hsrc : srcE T.prog (call T.prog (d + 5)) .seq [(.slc (.var 6) [] [(.attr (.var 0) "lead")])] (pE s S sym p (.int (hd' : Int)) hv cl) (pst X p h (bookI s) P) = .ok ((ks'.take (leadN s)).map kindV, []) (pst X p h (bookI s) P) := by
      have e1 : evalE T.prog (call T.prog (d + 5)) (.slc (.var 6) [] [(.attr (.var 0) "lead")]) (pE s S sym p (.int (hd' : Int)) hv cl) (pst X p h (bookI s) P) = .ok (.lst ((ks'.take (leadN s)).map kindV)) (pst X p h (bookI s) P) := by
        have e := (hh P).slc none (some (leadN s : Int))
        rw [cut_take, ← List.map_take] at e
        have pn : partOf [] = some none := rfl
        have pl : partOf [.int (leadN s : Int)] = some (some (leadN s : Int)) := rfl
        simp only [E_slc, E_var, E_attr, Es_nil, Es_cons, R.then_ok, R.of_some, List.getElem?_cons_zero, List.getElem?_cons_succ, bk_lead, eL, pn, pl, e]
      unfold srcE
      rw [Es_cons, e1]
      rfl
    have hr := rows_comp (Φ := call T.prog (d + 5)) (env := pE s S sym p (.int (hd' : Int)) hv cl) (st := pst X p h (bookI s) P) (x := .slc (.var 6) [] [(.attr (.var 0) "lead")]) (i := 8) (ks := ks'.take (leadN s)) (by rw [List.length_take]; omega) (by show 8 < 9; decide) hsrc rfl
    have hrl : (rowL (ks'.take (leadN s))).length ≤ 10 := by unfold rowL; rw [List.length_map, List.length_take]; omega
    have hcat := b_cat ((headL s hd').map Band.val) ((rowL (ks'.take (leadN s))).map Band.val) (by rw [List.length_map, List.length_map]; omega) (pst X p h (bookI s) P)
    rw [← List.map_append] at hcat
    have ok : ∀ bd ∈ headL s hd' ++ rowL (ks'.take (leadN s)), bd.ok s := by
      intro bd hb
      rcases List.mem_append.mp hb with hb |
                                             hb
      · exact headL_ok s _ bd hb
      · exact rowL_ok (fun k hk => hks k (List.mem_of_mem_take hk)) bd hb
    have hlot := lot_ok H (d + 1) s sok (headL s hd' ++ rowL (ks'.take (leadN s))) ok (by rw [List.length_append]; omega) P (by omega)
    have w1 : evalS T.prog (call T.prog (d + 5)) (.expr (.meth .raw (.var 3) "set_lot" [(.bin .add (.call .raw "head_bands" [(.var 0), (.var 5)] [] []) (.comp false (.tup [(.str "row"), (.var 8)]) (.v 8) .seq [(.slc (.var 6) [] [(.attr (.var 0) "lead")])] []))])) (pE s S sym p (.int (hd' : Int)) hv cl) (pst X p h (bookI s) P) = .ok (.next (pE s S sym p (.int (hd' : Int)) hv cl)) (pst X p h (bookI s) (lotP s (headL s hd' ++ rowL (ks'.take (leadN s))) P)) := by
      simp only [S_expr, E_meth, E_var, E_bin, E_call, Es_cons, Es_nil, R.then_ok, R.of_some, List.getElem?_cons_zero, List.getElem?_cons_succ, List.length_cons, List.length_nil, Nat.reduceAdd, g_lot H, hh1]
      rw [hr]
      simp only [R.then_ok, hcat, R.of_some]
      show (callM T.prog (call T.prog (d + 5)) .raw "Pen.set_lot" [] [.ref p, .lst ((headL s hd' ++ rowL (ks'.take (leadN s))).map Band.val)] [] (pst X p h (bookI s) P)).then_ _ = _
      rw [hlot]
      rfl
    have w2 : ∀ P2 : PenS, evalS T.prog (call T.prog (d + 5)) (.par 5 6 (.var 4) (.slc (.var 6) [(.attr (.var 0) "lead")] [])) (pE s S sym p (.int (hd' : Int)) hv cl) (pst X p h (bookI s) P2) = .ok (.next (pE s S sym p (.int (s.ls.length : Int)) (.lst ((ks'.drop (leadN s)).map kindV)) cl)) (pst X p h (bookI s) P2) := fun P2 => by
      have e := (hh P2).slc (some (leadN s : Int)) none
      rw [cut_drop, ← List.map_drop] at e
      have pn : partOf [] = some none := rfl
      have pl : partOf [.int (leadN s : Int)] = some (some (leadN s : Int)) := rfl
      simp only [S_par, E_slc, E_var, E_attr, Es_nil, Es_cons, R.then_ok, R.of_some, List.getElem?_cons_zero, List.getElem?_cons_succ, bk_lead, eL, pn, pl, e]
      rfl
    exact ⟨.lst ((ks'.drop (leadN s)).map kindV), (Ss_next w1).trans ((Ss_next (w2 _)).trans rfl), HV.lst _⟩
  · rw [decide_eq_false hc, if_neg hc]
    exact ⟨hv, rfl, hh⟩
/-! ### rows that are set one by one -/
theorem p_drain (d : Nat) (s : Sp) (sok : s.ok) (S : ShS) (sym : Val) (cl : Val) : ∀ (ks : List Nat) (hv : Val) (P : PenS), HV X p h (bookI s) hv ks → (∀ k ∈ ks, k < s.ks.length) → ks.length ≤ 10 → P.evs.length + 6 * ks.length ≤ 70000 → ∀ fuel, ks.length < fuel →
    ∃ hv', loopW (fun env st => evalT T.prog (call T.prog (d + 5)) (.and [(.cmp .eq (.var 5) (.var 4)), (.cmp .gt (.bcall "len" [(.var 6)]) (.attr (.var 0) "hold"))]) env st) (fun env st => evalSs T.prog (call T.prog (d + 5)) [.expr (.meth .raw (.var 3) "set_lot" [(.lst false [(.tup [(.str "row"), (.ix (.var 6) (.int 0))])])]), .set (.v 6) (.slc (.var 6) [(.int 1)] [])] env st) fuel (pE s S sym p (.int (s.ls.length : Int)) hv cl) (pst X p h (bookI s) P) =
      .ok (.next (pE s S sym p (.int (s.ls.length : Int)) hv' cl)) (pst X p h (bookI s) (drainF s (holdN s) P ks).1) ∧ HV X p h (bookI s) hv' (drainF s (holdN s) P ks).2
  | [], hv, P, hh, _, _, _, fuel + 1, _ => by
    have eH := hold_eq sok
    have hlen := (hh P).len
    have d2 : decide (s.hold < (0 : Int)) = false := decide_eq_false (by omega)
    refine ⟨hv, ?_, hh⟩
    have tst : evalT T.prog (call T.prog (d + 5)) (.and [(.cmp .eq (.var 5) (.var 4)), (.cmp .gt (.bcall "len" [(.var 6)]) (.attr (.var 0) "hold"))]) (pE s S sym p (.int (s.ls.length : Int)) hv cl) (pst X p h (bookI s) P) = .ok false (pst X p h (bookI s) P) := by
      have hl2 : bV (pst X p h (bookI s) P) "len" [hv] = some (.int 0) := hlen
      simp only [E_var, E_non, E_bl, E_int, E_str, E_glob, E_bin, E_neg, E_cmp, E_chain, E_and, E_or, E_not, E_ite, E_tup, E_lstF, E_lstT, E_ix, E_slc, E_attr, E_call, E_make, E_meth, E_bcall, E_bmeth, E_isin, Es_nil, Es_cons, and_one, and_two, or_one, or_two, T_and, T_or, T_not, T_cmp, T_chain, T_var, T_bl, T_attr, T_call, T_bcall, T_ix, T_isin, andT_one, andT_two, orT_one, orT_two, test_nil, test_one, S_expr, S_set, S_sett, S_setc, S_par, S_fld, S_sub, S_ret, S_retN, S_ite, S_for, S_pass, Ss_nil, Ss_cons, R.then_ok, R.of_some, List.getElem?_cons_zero, List.getElem?_cons_succ, Option.map_some, asB, c_eq, beq_self_eq_true, hl2, bk_hold, c_gt, d2]
    show (evalT _ _ _ _ _).then_ _ = _
    rw [tst]
    rfl
  | k :: r, hv, P, hh, hks, hl, hn, fuel + 1, hf => by
    have eH := hold_eq sok
    rw [List.length_cons] at hl hn hf
    have hlen := (hh P).len
    rw [List.length_map, List.length_cons] at hlen
    have tst : evalT T.prog (call T.prog (d + 5)) (.and [(.cmp .eq (.var 5) (.var 4)), (.cmp .gt (.bcall "len" [(.var 6)]) (.attr (.var 0) "hold"))]) (pE s S sym p (.int (s.ls.length : Int)) hv cl) (pst X p h (bookI s) P) = .ok (decide (holdN s < r.length + 1)) (pst X p h (bookI s) P) := by
      have d2 : decide (s.hold < ((r.length + 1 : Nat) : Int)) = decide (holdN s < r.length + 1) := by
        by_cases c : holdN s < r.length + 1
        · rw [decide_eq_true c, decide_eq_true (by omega)]
        · rw [decide_eq_false c, decide_eq_false (by omega)]
      simp only [E_var, E_non, E_bl, E_int, E_str, E_glob, E_bin, E_neg, E_cmp, E_chain, E_and, E_or, E_not, E_ite, E_tup, E_lstF, E_lstT, E_ix, E_slc, E_attr, E_call, E_make, E_meth, E_bcall, E_bmeth, E_isin, Es_nil, Es_cons, and_one, and_two, or_one, or_two, T_and, T_or, T_not, T_cmp, T_chain, T_var, T_bl, T_attr, T_call, T_bcall, T_ix, T_isin, andT_one, andT_two, orT_one, orT_two, test_nil, test_one, S_expr, S_set, S_sett, S_setc, S_par, S_fld, S_sub, S_ret, S_retN, S_ite, S_for, S_pass, Ss_nil, Ss_cons, R.then_ok, R.of_some, List.getElem?_cons_zero, List.getElem?_cons_succ, Option.map_some, asB, c_eq, beq_self_eq_true, hlen, bk_hold, c_gt, d2]
    by_cases c : holdN s < r.length + 1
    · have hlot := lot_ok H (d + 1) s sok [.row k] (fun bd hb => by
        have : bd = .row k := by simpa using hb
        subst this
        exact hks k (by simp)) (Nat.succ_le_succ (Nat.zero_le _)) P (by omega)
      have x0 : ixV (pst X p h (bookI s) P) hv (.int 0) = some (kindV k) := (hh P).at0
      have w1 : evalS T.prog (call T.prog (d + 5)) (.expr (.meth .raw (.var 3) "set_lot" [(.lst false [(.tup [(.str "row"), (.ix (.var 6) (.int 0))])])])) (pE s S sym p (.int (s.ls.length : Int)) hv cl) (pst X p h (bookI s) P) = .ok (.next (pE s S sym p (.int (s.ls.length : Int)) hv cl)) (pst X p h (bookI s) (lotP s [.row k] P)) := by
        simp only [S_expr, E_meth, E_var, E_lstF, E_tup, E_str, E_ix, E_int, Es_cons, Es_nil, R.then_ok, R.of_some, List.getElem?_cons_zero, List.getElem?_cons_succ, List.length_cons, List.length_nil, Nat.reduceAdd, g_lot H, x0]
        show (callM T.prog (call T.prog (d + 5)) .raw "Pen.set_lot" [] [.ref p, .lst ([Band.row k].map Band.val)] [] (pst X p h (bookI s) P)).then_ _ = _
        rw [hlot]
        rfl
      have w2 : ∀ P2 : PenS, evalS T.prog (call T.prog (d + 5)) (.set (.v 6) (.slc (.var 6) [(.int 1)] [])) (pE s S sym p (.int (s.ls.length : Int)) hv cl) (pst X p h (bookI s) P2) = .ok (.next (pE s S sym p (.int (s.ls.length : Int)) (.lst (r.map kindV)) cl)) (pst X p h (bookI s) P2) := fun P2 => by
        have e := (hh P2).slc (some ((1 : Nat) : Int)) none
        rw [cut_drop, ← List.map_drop] at e
        have pn : partOf [] = some none := rfl
        have pl : partOf [.int 1] = some (some ((1 : Nat) : Int)) := rfl
        simp only [S_set, E_slc, E_var, E_int, Es_nil, Es_cons, R.then_ok, R.of_some, List.getElem?_cons_zero, List.getElem?_cons_succ, pn, pl, e]
        rfl
      have l2 := lotP_len s [.row k] P
      rw [List.length_singleton] at l2
      obtain ⟨hv', e, hh'⟩ := p_drain d s sok S sym cl r (.lst (r.map kindV)) (lotP s [.row k] P) (HV.lst r) (fun z hz => hks z (List.mem_cons_of_mem _ hz)) (by omega) (by omega) fuel (by omega)
      have eD : drainF s (holdN s) P (k :: r) = drainF s (holdN s) (lotP s [.row k] P) r := by
        show (if holdN s < r.length + 1 then _ else _) = _
        rw [if_pos c]
      rw [eD]
      refine ⟨hv', ?_, hh'⟩
      show (evalT _ _ _ _ _).then_ _ = _
      rw [tst, decide_eq_true c, R.then_ok]
      show (evalSs T.prog (call T.prog (d + 5)) [_, _] _ _).then_ _ = _
      rw [(Ss_next w1).trans ((Ss_next (w2 _)).trans rfl)]
      exact e
    · have eD : drainF s (holdN s) P (k :: r) = (P, k :: r) := by
        show (if holdN s < r.length + 1 then _ else _) = _
        rw [if_neg c]
      rw [eD]
      refine ⟨hv, ?_, hh⟩
      show (evalT _ _ _ _ _).then_ _ = _
      rw [tst, decide_eq_false c]
      rfl
theorem p_end (d : Nat) (s : Sp) (sok : s.ok) (S : ShS) (sym : Val) (cl hv : Val) (F : Fin') (hh : HV X p h (bookI s) hv F.held) (hks : ∀ k ∈ F.held, k < s.ks.length) (hl : F.held.length ≤ 10) (hn : F.P.evs.length ≤ 60000) :
    ∃ hv', evalS T.prog (call T.prog (d + 5)) b_parted_events_6 (pE s S sym p (.int (F.heads : Int)) hv cl) (pst X p h (bookI s) F.P) = .ok (.next (pE s S sym p (.int ((endF s F).heads : Int)) hv' cl)) (pst X p h (bookI s) (endF s F).P) ∧ HV X p h (bookI s) hv' (endF s F).held := by
  unfold endF
  by_cases hc : F.heads = s.ls.length
  · obtain ⟨hv', e, hh'⟩ := p_drain H d s sok S sym cl F.held hv F.P hh hks hl (by omega) T.prog.fuel (by show _ < 1000; omega)
    rw [if_pos hc, hc]
    exact ⟨hv', e, hh'⟩
  · rw [if_neg hc]
    refine ⟨hv, ?_, hh⟩
    have d1 : ((F.heads : Int) == (s.ls.length : Int)) = false := by
      simp only [beq_eq_false_iff_ne, ne_eq]
      omega
    have tst : evalT T.prog (call T.prog (d + 5)) (.and [(.cmp .eq (.var 5) (.var 4)), (.cmp .gt (.bcall "len" [(.var 6)]) (.attr (.var 0) "hold"))]) (pE s S sym p (.int (F.heads : Int)) hv cl) (pst X p h (bookI s) F.P) = .ok false (pst X p h (bookI s) F.P) := by
      simp only [E_var, E_non, E_bl, E_int, E_str, E_glob, E_bin, E_neg, E_cmp, E_chain, E_and, E_or, E_not, E_ite, E_tup, E_lstF, E_lstT, E_ix, E_slc, E_attr, E_call, E_make, E_meth, E_bcall, E_bmeth, E_isin, Es_nil, Es_cons, and_one, and_two, or_one, or_two, T_and, T_or, T_not, T_cmp, T_chain, T_var, T_bl, T_attr, T_call, T_bcall, T_ix, T_isin, andT_one, andT_two, orT_one, orT_two, test_nil, test_one, S_expr, S_set, S_sett, S_setc, S_par, S_fld, S_sub, S_ret, S_retN, S_ite, S_for, S_pass, Ss_nil, Ss_cons, R.then_ok, R.of_some, List.getElem?_cons_zero, List.getElem?_cons_succ, Option.map_some, asB, c_eq, d1]
    show loopW _ _ 1000 _ _ = _
    show (evalT _ _ _ _ _).then_ _ = _
    rw [tst]
    rfl
end
end L_k11
end

section
set_option Elab.async false
set_option linter.all false
set_option maxRecDepth 100000
set_option maxHeartbeats
                         1000000
namespace L_k11
open PySem Mp
/-! ### is_row -/
theorem f_isrow : T.prog.fn "is_row" = some ⟨2, 3, b_is_row⟩ := rfl
def rowB (s : Sp) : Val → Bool
  | .tup [.int a, .int b, .int _] => (decide (1 ≤ a) && decide (a ≤ s.ls.length)) && (decide (0 ≤ b) && decide (b < s.ks.length))
  | _ => false
theorem row_no (d : Nat) (s : Sp) {v : Val} (st : Store) (h : evalT T.prog (call T.prog (d + 1)) (.or [(.not (.isin (.var 1) ["tuple"])), (.cmp .ne (.bcall "len" [(.var 1)]) (.int 3)), (.not (.bcall "all" [(.comp false (.call .raw "is_number" [(.var 2)] [] []) (.v 2) .seq [(.var 1)] [])]))]) [some (bookI s), some v, none] st = .ok true st) :
    call T.prog (d + 2) "is_row" [bookI s, v] st = .ok (.bl false) st := by
  rw [unf f_isrow]
  refine run_ret rfl (Ss_ret ?_)
  unfold b_is_row_0
  rw [S_ite]
  show (evalT _ _ _ [some (bookI s), some v, none] st).then_ _ = _
  rw [h]
  rfl
theorem row_ints (d : Nat) (s : Sp) (ok : s.ok) (a b c : Int) (st : Store) : call T.prog (d + 2) "is_row" [bookI s, .tup [.int a, .int b, .int c]] st = .ok (.bl (rowB s (.tup [.int a, .int b, .int c]))) st := by
  have q0 : evalS T.prog (call T.prog (d + 1)) b_is_row_0 [some (bookI s), some (.tup [.int a, .int b, .int c]), none] st = .ok (.next [some (bookI s), some (.tup [.int a, .int b, .int c]), none]) st := ite_next rfl
  have hl := book_len d s ok st
  have ea : ∀ st, attrM T.prog (call T.prog (d + 1)) (bookI s) "own_kinds" st = .ok (.lst (s.ks.map Val.int)) st := fun _ => rfl
  have i0 : ∀ st, ixV st (.tup [.int a, .int b, .int c]) (.int 0) = some (.int a) := fun _ => rfl
  have i1 : ∀ st, ixV st (.tup [.int a, .int b, .int c]) (.int 1) = some (.int b) := fun _ => rfl
  rw [unf f_isrow]
  refine run_ret rfl ((Ss_next q0).trans (Ss_ret ?_))
  show evalS T.prog (call T.prog (d + 1)) b_is_row_1 [some (bookI s), some (.tup [.int a, .int b, .int c]), none] st = .ok (.ret (.bl ((decide (1 ≤ a) && decide (a ≤ s.ls.length)) && (decide (0 ≤ b) && decide (b < s.ks.length))))) st
  unfold b_is_row_1
  cases h1 : decide (1 ≤ a) <;> cases h2 : decide (a ≤ (s.ls.length : Int)) <;> cases h3 : decide (0 ≤ b) <;> cases h4 : decide (b < (s.ks.length : Int)) <;>
    simp only [E_var, E_non, E_bl, E_int, E_str, E_glob, E_bin, E_neg, E_cmp, E_chain, E_and, E_or, E_not, E_ite, E_tup, E_lstF, E_lstT, E_ix, E_slc, E_attr, E_call, E_make, E_meth, E_bcall, E_bmeth, E_isin, Es_nil, Es_cons, and_one, and_two, or_one, or_two, T_and, T_or, T_not, T_cmp, T_chain, T_var, T_bl, T_attr, T_call, T_bcall, T_ix, T_isin, andT_one, andT_two, orT_one, orT_two, test_nil, test_one, S_expr, S_set, S_sett, S_setc, S_par, S_fld, S_sub, S_ret, S_retN, S_ite, S_for, S_pass, Ss_nil, Ss_cons, R.then_ok, R.of_some, List.getElem?_cons_zero, List.getElem?_cons_succ, Option.map_some, asB, E_own1, i0, i1, hl, ea, v_len, List.length_map, c_le, c_lt, h1, h2, h3, h4] <;> rfl
theorem c_row (d : Nat) (s : Sp) {v : Val} {b : Bool} {st : Store} (h : call T.prog d "is_row" [bookI s, v] st = .ok (.bl b) st) : callM T.prog (call T.prog d) .raw "is_row" [] [bookI s, v] [] st = .ok (.bl b) st := call_raw (tp := [.pos 0, .pos 1]) rfl rfl h
/-! ### the whole step -/
theorem f_parted : T.prog.fn "parted_events" = some ⟨3, 9, b_parted_events⟩ := rfl
theorem drain_len (s : Sp) (hold : Nat) : ∀ (ks : List Nat) (P : PenS), (drainF s hold P ks).2.length ≤ ks.length ∧ (∀ k ∈ (drainF s hold P ks).2, k ∈ ks) ∧ ((drainF s hold P ks).2.length ≤ hold)
  | [], P => ⟨Nat.le_refl _, fun k hk => hk, Nat.zero_le _⟩
  | k :: r, P => by
    unfold drainF
    by_cases c : hold < (k :: r).length
    · rw [if_pos c]
      obtain ⟨h1, h2, h3⟩ := drain_len s hold r (lotP s [.row k] P)
      refine ⟨by rw [List.length_cons]; omega, fun z hz => List.mem_cons_of_mem _ (h2 z hz), h3⟩
    · rw [if_neg c]
      exact ⟨Nat.le_refl _, fun z hz => hz, (by show (k :: r).length ≤ hold; omega)⟩
theorem mid_ok {s : Sp} {S : ShS} (Sok : S.ok s) (t : Nat) : (midF s S t).heads ≤ s.ls.length ∧ (∀ k ∈ (midF s S t).held, k < s.ks.length) ∧ (midF s S t).held.length ≤ 4 ∧ (midF s S t).P.evs = [] := by
  unfold midF
  split
  · exact ⟨Nat.zero_le _, Sok.held, Sok.many, rfl⟩
  · split
    · exact ⟨by simp only; omega, fun k hk => (by cases hk), by simp, rfl⟩
    · exact ⟨Sok.heads, Sok.held, Sok.many, rfl⟩
theorem late_ok {s : Sp} (M : Mid) (h1 : M.heads ≤ s.ls.length) (h2 : ∀ k ∈ M.held, k < s.ks.length) (h3 : M.held.length ≤ 5) (h4 : M.P.evs = []) (l4 : s.ls.length ≤ 4) :
    (lateF s M).heads ≤ s.ls.length ∧ (∀ k ∈ (lateF s M).held, k < s.ks.length) ∧ (lateF s M).held.length ≤ 5 ∧ (lateF s M).P.evs.length ≤ 1000 ∧ ((lateF s M).heads < s.ls.length → (lateF s M).held.length ≤ leadN s + holdN s) := by
  unfold lateF
  split
  · have a1 := lotP_len s (headL s M.heads ++ rowL (M.held.take (leadN s))) M.P
    have a2 := headL_len s M.heads
    have a3 : (rowL (M.held.take (leadN s))).length ≤ 5 := by
      unfold rowL
      rw [List.length_map, List.length_take]
      omega
    rw [h4, List.length_append, List.length_nil] at a1
    exact ⟨Nat.le_refl _, fun k hk => h2 k (List.mem_of_mem_drop hk), by simp only [List.length_drop]; omega, by simp only; omega, fun z => absurd z (Nat.lt_irrefl _)⟩
  · rename_i c
    exact ⟨h1, h2, h3, by simp only [h4]; decide, fun z => by simp only at z ⊢; omega⟩
theorem end_sh {s : Sp} (sok : s.ok) (F : Fin') (h1 : F.heads ≤ s.ls.length) (h2 : ∀ k ∈ F.held, k < s.ks.length) (h5 : F.heads < s.ls.length → F.held.length ≤ leadN s + holdN s) : (endF s F).heads ≤ s.ls.length ∧ (∀ k ∈ (endF s F).held, k < s.ks.length) ∧ (endF s F).held.length ≤ 4 := by
  have a := lead_le sok
  have b := hold_le sok
  unfold endF
  split
  · obtain ⟨d1, d2, d3⟩ := drain_len s (holdN s) F.held F.P
    exact ⟨h1, fun k hk => h2 k (d2 k hk), by simp only; omega⟩
  · rename_i c
    exact ⟨h1, h2, by have := h5 (by omega); omega⟩
theorem next_ok {s : Sp} (sok : s.ok) {S : ShS} (Sok : S.ok s) (t k : Nat) (hk : k < s.ks.length) : (nextS s S t k).ok s := by
  obtain ⟨m1, m2, m3, m4⟩ := mid_ok Sok t
  have l4 := sok.l4
  obtain ⟨a1, a2, a3, a4, a5⟩ := late_ok (addK (midF s S t) k) m1 (fun z hz => by
    rcases List.mem_append.mp (show z ∈ (midF s S t).held ++ [k] from hz) with hz | hz
    · exact m2 z hz
    · have : z = k := by simpa using hz
      rw [this]; exact hk) (by show ((midF s S t).held ++ [k]).length ≤ 5; rw [List.length_append, List.length_singleton]; omega) m4 l4
  obtain ⟨e1, e2, e3⟩ := end_sh sok (lateF s (addK (midF s S t) k)) a1 a2 a5
  exact ⟨e1, e2, e3⟩
theorem parted_ok (d : Nat) (s : Sp) (sok : s.ok) (S : ShS) (Sok : S.ok s) (t k : Nat) (hk : k < s.ks.length) (st : Store) : ∃ (Z : List SO) (c h : Nat), callM T.prog (call T.prog (d + 6)) .raw "parted_events" [] [bookI s, S.val, symV t k] [] st = .ok (.tup [.ref c, .ref h, (nextS s S t k).val]) (st ++ Z) ∧ (st ++ Z)[c]? = some (.lst (midF s S t).cl) ∧ (st ++ Z)[h]? = some (.lst (stepF s S t k).P.evs) := by
  obtain ⟨m1, m2, m3, m4⟩ := mid_ok Sok t
  have l4 := sok.l4
  obtain ⟨a1, a2, a3, a4, a5⟩ := late_ok (addK (midF s S t) k) m1 (fun z hz => by
    rcases List.mem_append.mp (show z ∈ (midF s S t).held ++ [k] from hz) with hz | hz
    · exact m2 z hz
    · have : z = k := by simpa using hz
      rw [this]; exact hk) (by show ((midF s S t).held ++ [k]).length ≤ 5; rw [List.length_append, List.length_singleton]; omega) m4 l4
  obtain ⟨Y, h, r, c, q2, A⟩ := p_mid d s sok S Sok t k st
  have q0 := p_start (d + 4) s sok S (symV t k) st
  have q1 := p_three (call T.prog (d + 5)) s S (symV t k) st.length (st ++ [penO (bookI s) (st.length + 1) (startP S), .lst []])
  rw [List.append_assoc, show (st ++ [penO (bookI s) (st.length + 1) (startP S), SO.lst []]).length = st.length + 2 by simp] at q1
  have q3 : ∀ hv cl : Val, ∀ hd : Nat, ∀ st', evalS T.prog (call T.prog (d + 5)) b_parted_events_3 (pE s S (symV t k) st.length (.int (hd : Int)) hv cl) st' = .ok (.next (pE s S (symV t k) st.length (.int (hd : Int)) hv cl)) st' := fun _ _ _ _ => rfl
  obtain ⟨ty, ap⟩ := app_oth A.H (b := bookI s) (P := (midF s S t).P) A.r1 A.r2 A.rv (by rw [List.length_map]; omega) (kindV k)
  have H2 : PH ((st ++ Y).set r (.lst ((midF s S t).held.map kindV ++ [kindV k]))) st.length h := ⟨by rw [List.length_set]; exact A.H.lp, by rw [List.length_set]; exact A.H.lh, A.H.ne⟩
  have x1 : ∀ st, ixV st (symV t k) (.int 1) = some (kindV k) := fun _ => rfl
  have q4 : evalS T.prog (call T.prog (d + 5)) b_parted_events_4 (pE s S (symV t k) st.length (.int ((midF s S t).heads : Int)) (.ref r) (.ref c)) (pst (st ++ Y) st.length h (bookI s) (midF s S t).P) = .ok (.next (pE s S (symV t k) st.length (.int ((midF s S t).heads : Int)) (.ref r) (.ref c))) (pst ((st ++ Y).set r (.lst ((midF s S t).held.map kindV ++ [kindV k]))) st.length h (bookI s) (midF s S t).P) := by
    unfold b_parted_events_4
    simp only [E_var, E_non, E_bl, E_int, E_str, E_glob, E_bin, E_neg, E_cmp, E_chain, E_and, E_or, E_not, E_ite, E_tup, E_lstF, E_lstT, E_ix, E_slc, E_attr, E_call, E_make, E_meth, E_bcall, E_bmeth, E_isin, Es_nil, Es_cons, and_one, and_two, or_one, or_two, T_and, T_or, T_not, T_cmp, T_chain, T_var, T_bl, T_attr, T_call, T_bcall, T_ix, T_isin, andT_one, andT_two, orT_one, orT_two, test_nil, test_one, S_expr, S_set, S_sett, S_setc, S_par, S_fld, S_sub, S_ret, S_retN, S_ite, S_for, S_pass, Ss_nil, Ss_cons, R.then_ok, R.of_some, List.getElem?_cons_zero, List.getElem?_cons_succ, Option.map_some, asB, ty, x1, ap]
  have rlen : r < (st ++ Y).length := (List.getElem?_eq_some_iff.mp A.rv).1
  have hv0 : HV ((st ++ Y).set r (.lst ((midF s S t).held.map kindV ++ [kindV k]))) st.length h (bookI s) (.ref r) (addK (midF s S t) k).held := fun P => by
    have e := lv_oth H2 (b := bookI s) (P := P) A.r1 A.r2 (xs := (midF s S t).held.map kindV ++ [kindV k]) (List.getElem?_set_self rlen)
    have e2 : (addK (midF s S t) k).held.map kindV = (midF s S t).held.map kindV ++ [kindV k] := by
      show ((midF s S t).held ++ [k]).map kindV = _
      rw [List.map_append]; rfl
    rw [e2]; exact e
  obtain ⟨hv1, q5, hh1⟩ := p_late H2 d s sok S (symV t k) (midF s S t).heads (.ref r) (.ref c) (addK (midF s S t) k).held hv0 (fun z hz => by
    rcases List.mem_append.mp (show z ∈ (midF s S t).held ++ [k] from hz) with hz | hz
    · exact m2 z hz
    · have : z = k := by simpa using hz
      rw [this]; exact hk) (by show ((midF s S t).held ++ [k]).length ≤ 10; rw [List.length_append, List.length_singleton]; omega) m1 (addK (midF s S t) k) ⟨rfl, rfl⟩ (by show (midF s S t).P.evs.length ≤ 60000; rw [m4]; exact Nat.zero_le _)
  obtain ⟨hv2, q6, hh2⟩ := p_end H2 d s sok S (symV t k) (.ref c) hv1 (lateF s (addK (midF s S t) k)) hh1 a2 (by omega) (by omega)
  have q7 : evalS T.prog (call T.prog (d + 5)) b_parted_events_7 (pE s S (symV t k) st.length (.int ((stepF s S t k).heads : Int)) hv2 (.ref c)) (pst ((st ++ Y).set r (.lst ((midF s S t).held.map kindV ++ [kindV k]))) st.length h (bookI s) (stepF s S t k).P) = .ok (.ret (.tup [.ref c, .ref h, (nextS s S t k).val])) (pst ((st ++ Y).set r (.lst ((midF s S t).held.map kindV ++ [kindV k]))) st.length h (bookI s) (stepF s S t k).P) := by
    have et := (hh2 (stepF s S t k).P).tup
    unfold b_parted_events_7
    simp only [E_var, E_non, E_bl, E_int, E_str, E_glob, E_bin, E_neg, E_cmp, E_chain, E_and, E_or, E_not, E_ite, E_tup, E_lstF, E_lstT, E_ix, E_slc, E_attr, E_call, E_make, E_meth, E_bcall, E_bmeth, E_isin, Es_nil, Es_cons, and_one, and_two, or_one, or_two, T_and, T_or, T_not, T_cmp, T_chain, T_var, T_bl, T_attr, T_call, T_bcall, T_ix, T_isin, andT_one, andT_two, orT_one, orT_two, test_nil, test_one, S_expr, S_set, S_sett, S_setc, S_par, S_fld, S_sub, S_ret, S_retN, S_ite, S_for, S_pass, Ss_nil, Ss_cons, R.then_ok, R.of_some, List.getElem?_cons_zero, List.getElem?_cons_succ, Option.map_some, asB, pen_hap H2, pen_left H2, pen_row H2, pen_late H2, et]
    rfl
  have hset : (st ++ Y).set r (.lst ((midF s S t).held.map kindV ++ [kindV k])) = st ++ Y.set (r - st.length) (.lst ((midF s S t).held.map kindV ++ [kindV k])) := List.set_append_right _ _ A.r3
  obtain ⟨Z, eZ⟩ := pst_pre (st := st) (Y := Y.set (r - st.length) (.lst ((midF s S t).held.map kindV ++ [kindV k]))) (bookI s) (stepF s S t k).P (Nat.le_refl _) A.hh
  rw [← hset] at eZ
  refine ⟨Z, c, h, call_raw (tp := [.pos 0, .pos 1, .pos 2]) rfl rfl ?_, ?_, ?_⟩
  · rw [unf f_parted]
    refine run_ret rfl ((Ss_next q0).trans ((Ss_next q1).trans ((Ss_next q2).trans ((Ss_next (q3 _ _ _ _)).trans ((Ss_next q4).trans ((Ss_next q5).trans ((Ss_next q6).trans (Ss_ret (q7.trans ?_)))))))))
    rw [eZ]
  · rw [← eZ, pst_oth H2 A.c1 A.c2, List.getElem?_set_ne (Ne.symm A.c3)]
    exact A.cv
  · rw [← eZ]
    exact pst_h H2
theorem call_pure {P : Prog} {Φ : Cal} {f : Str} {kn : List Str} {vs ks args : List Val} {tp : List Src} {st : Store} {v : Val} {Z : List SO} (h1 : P.bind f vs.length kn = some tp) (h2 : srcs vs ks tp = some args) (h3 : Φ f args st = .ok v (st ++ Z)) (h4 : closed v = true) : callM P Φ .pure f kn vs ks st = .ok v st := by
  unfold callM
  rw [h1]
  simp only [h2, h3]
  show (if begins st (st ++ Z) = true then (match rdV (st ++ Z) st.length v with | some y => R.ok y st | none => .stuck) else .stuck) = _
  rw [if_pos (begins_app _ _)]
  have e : rdV (st ++ Z) st.length v = some v := frz_closed _ v h4
  rw [e]
theorem f_next : T.prog.fn "next_shape" = some ⟨3, 3, b_next_shape⟩ := rfl
theorem kinds_closed : ∀ ks : List Nat, closeds (ks.map kindV) = true
  | [] => rfl
  | k :: r => kinds_closed r
theorem ShS.closed (S : ShS) : Mp.closed S.val = true := by
  show (true && (true && (true && (true && (closeds (S.held.map kindV) && true))))) = true
  rw [kinds_closed]; rfl
theorem c_next (d : Nat) (s : Sp) (sok : s.ok) (S : ShS) (Sok : S.ok s) (t k : Nat) (hk : k < s.ks.length) (st : Store) : callM T.prog (call T.prog (d + 7)) .pure "next_shape" [] [bookI s, S.val, symV t k] [] st = .ok (nextS s S t k).val st := by
  obtain ⟨Z, c, h, e, _, _⟩ := parted_ok d s sok S Sok t k hk st
  refine call_pure (Z := Z) (tp := [.pos 0, .pos 1, .pos 2]) rfl rfl ?_ (ShS.closed _)
  rw [unf f_next]
  refine run_ret rfl (Ss_ret ?_)
  have x2 : ∀ st, ixV st (.tup [.ref c, .ref h, (nextS s S t k).val]) (.int 2) = some (nextS s S t k).val := fun _ => rfl
  unfold b_next_shape_0
  simp only [E_var, E_non, E_bl, E_int, E_str, E_glob, E_bin, E_neg, E_cmp, E_chain, E_and, E_or, E_not, E_ite, E_tup, E_lstF, E_lstT, E_ix, E_slc, E_attr, E_call, E_make, E_meth, E_bcall, E_bmeth, E_isin, Es_nil, Es_cons, and_one, and_two, or_one, or_two, T_and, T_or, T_not, T_cmp, T_chain, T_var, T_bl, T_attr, T_call, T_bcall, T_ix, T_isin, andT_one, andT_two, orT_one, orT_two, test_nil, test_one, S_expr, S_set, S_sett, S_setc, S_par, S_fld, S_sub, S_ret, S_retN, S_ite, S_for, S_pass, Ss_nil, Ss_cons, R.then_ok, R.of_some, List.getElem?_cons_zero, List.getElem?_cons_succ, Option.map_some, asB, List.map_cons, List.map_nil, List.cons_append, List.nil_append, List.replicate, List.length_cons, List.length_nil, Nat.reduceSub, Nat.reduceAdd, e, x2]
/-! ### rows -/
structure Rw where
  t : Nat
  k : Nat
  a : Int
def Rw.val (r : Rw) : Val := .tup [.int (r.t : Int), .int (r.k : Int), .int r.a]
structure Rw.ok (r : Rw) (s : Sp) : Prop where
  t1 : 1 ≤ r.t
  t2 : r.t ≤ s.ls.length
  k : r.k < s.ks.length
theorem rw_true {s : Sp} {r : Rw} (ok : r.ok s) : rowB s r.val = true := by
  have h1 := ok.t1
  have h2 := ok.t2
  have h3 := ok.k
  show ((decide (1 ≤ (r.t : Int)) && decide ((r.t : Int) ≤ s.ls.length)) && (decide (0 ≤ (r.k : Int)) && decide ((r.k : Int) < s.ks.length))) = true
  rw [decide_eq_true (by omega), decide_eq_true (by omega), decide_eq_true (by omega), decide_eq_true (by omega)]; rfl
theorem loop_live {step : Val → Mp.Env → Store → R Fl} {I : Mp.Env → Store → Prop} {live : List (Nat × List Val)} (hl : ∀ env st, I env st → stillB st live = true) : ∀ {items : List Val}, (∀ x ∈ items, ∀ env st, I env st → ∃ env' st', step x env st = .ok (.next env') st' ∧ I env' st') → ∀ env st, I env st → ∃ env' st', loopF step live items env st = .ok (.next env') st' ∧ I env' st'
  | [], _, env, st, h => ⟨env, st, by unfold loopF; rw [if_pos (hl env st h)], h⟩
  | x :: r, hs, env, st, h => by
    obtain ⟨env1, st1, e, h1⟩ := hs x (by simp) env st h
    obtain ⟨env2, st2, e2, h2⟩ := loop_live hl (fun y hy => hs y (List.mem_cons_of_mem _ hy)) env1 st1 h1
    refine ⟨env2, st2, ?_, h2⟩
    unfold loopF
    rw [if_pos (hl env st h), e]
    exact e2
theorem LV.still {st : Store} {v : Val} {xs : List Val} (h : LV st v xs) : stillB st (liveOf v xs) = true := by
  obtain ⟨h1, h2⟩ := h
  rcases h2 with ⟨us, rfl⟩ | ⟨i, rfl⟩
  · rfl
  · have e : st[i]? = some (.lst xs) := by
      unfold lstOf at h1
      simp only at h1
      split at h1
      · rename_i ys e2
        cases h1
        exact e2
      · cases h1
    show ((match st[i]? with | some (.lst ys) => sames xs ys | _ => false) && true) = true
    rw [e]
    show (sames xs xs && true) = true
    rw [sames_refl]; rfl
theorem f_need : T.prog.fn "need_rows" = some ⟨2, 4, b_need_rows⟩ := rfl
theorem c_need (d : Nat) (s : Sp) (sok : s.ok) (v : Val) (rs : List Rw) (ok : ∀ r ∈ rs, r.ok s) (hl : rs.length ≤ 1000) (st : Store) (hv : LV st v (rs.map Rw.val)) : callM T.prog (call T.prog (d + 3)) .raw "need_rows" [] [bookI s, v] [] st = .ok .non st := by
  refine call_raw (tp := [.pos 0, .pos 1]) rfl rfl ?_
  rw [unf f_need]
  obtain ⟨env', st', e, ⟨o2, o3, rfl⟩, rfl⟩ := loop_live (live := liveOf v (rs.map Rw.val)) (I := fun env st' => (∃ o2 o3, env = [some (bookI s), some v, o2, o3]) ∧ st' = st) (fun env st' h => by rw [h.2]; exact hv.still) (step := forF T.prog (call T.prog (d + 2)) (.t [(.v 2), (.v 3)]) [.ite (.not (.call .raw "is_row" [(.var 0), (.var 3)] [] [])) [.never] []]) (items := ((List.range (rs.map Rw.val).length).zip (rs.map Rw.val)).map fun p => Val.tup [.int p.1, p.2]) (fun x hx env st' ⟨⟨o2, o3, he⟩, hst⟩ => by
    subst he hst
    obtain ⟨⟨i, u⟩, hm, rfl⟩ := List.mem_map.mp hx
    obtain ⟨r, hr, rfl⟩ := List.mem_map.mp (List.of_mem_zip hm).2
    have hc := c_row (d + 2) s (row_ints d s sok r.t r.k r.a st')
    rw [show rowB s (.tup [.int (r.t : Int), .int (r.k : Int), .int r.a]) = true from rw_true (ok r hr)] at hc
    refine ⟨[some (bookI s), some v, some (.int i), some r.val], st', ?_, ⟨_, _, rfl⟩, rfl⟩
    show evalSs T.prog (call T.prog (d + 2)) [_] [some (bookI s), some v, some (.int i), some r.val] st' = _
    refine (Ss_next (ite_next ?_)).trans rfl
    rw [T_not, T_call]
    show (((callM T.prog (call T.prog (d + 2)) .raw "is_row" [] [bookI s, .tup [.int (r.t : Int), .int (r.k : Int), .int r.a]] [] st').then_ _).then_ _) = _
    rw [hc]
    rfl) [some (bookI s), some v, none, none] st ⟨⟨_, _, rfl⟩, rfl⟩
  have hsrc : srcE T.prog (call T.prog (d + 2)) .enum [(.var 1)] [some (bookI s), some v, none, none] st' = .ok (((List.range (rs.map Rw.val).length).zip (rs.map Rw.val)).map fun p => Val.tup [.int p.1, p.2], liveOf v (rs.map Rw.val)) st' := by
    unfold srcE
    simp only [Es_cons, Es_nil, E_var, R.then_ok, List.getElem?_cons_zero, List.getElem?_cons_succ]
    show R.of ((lstOf st' v).map _) st' = _
    rw [hv.is]
    rfl
  have q0 : evalS T.prog (call T.prog (d + 2)) b_need_rows_0 [some (bookI s), some v, none, none] st' = .ok (.next [some (bookI s), some v, o2, o3]) st' := by
    unfold b_need_rows_0
    rw [S_for, hsrc]
    exact e
  exact run_next rfl ((Ss_next q0).trans rfl)
def shapeF (s : Sp) (S : ShS) (rs : List Rw) : ShS := rs.foldl (fun S r => nextS s S r.t r.k) S
theorem first_ok (s : Sp) : ShS.first.ok s := ⟨Nat.zero_le _, fun k hk => (by cases hk), Nat.zero_le _⟩
theorem shapeF_ok {s : Sp} (sok : s.ok) : ∀ (rs : List Rw) (S : ShS), S.ok s → (∀ r ∈ rs, r.ok s) → (shapeF s S rs).ok s
  | [], S, h, _ => h
  | r :: rs, S, h, hr => shapeF_ok sok rs _ (next_ok sok h r.t r.k (hr r (by simp)).k) fun z hz => hr z (List.mem_cons_of_mem _ hz)
theorem f_shape : T.prog.fn "shape_of" = some ⟨2, 6, b_shape_of⟩ := rfl
theorem shape_loop (d : Nat) (s : Sp) (sok : s.ok) (v : Val) (xs : List Val) (st : Store) (hv : LV st v xs) : ∀ (rs : List Rw) (S : ShS), S.ok s → (∀ r ∈ rs, r.ok s) → ∀ o3 o4 o5, ∃ p3 p4 p5, loopF (forF T.prog (call T.prog (d + 7)) (.t [(.v 3), (.v 4), (.v 5)]) [.set (.v 2) (.call .pure "next_shape" [(.var 0), (.var 2), (.tup [(.var 3), (.var 4)])] [] [])]) (liveOf v xs) (rs.map Rw.val) [some (bookI s), some v, some S.val, o3, o4, o5] st = .ok (.next [some (bookI s), some v, some (shapeF s S rs).val, p3, p4, p5]) st
  | [], S, _, _, o3, o4, o5 => ⟨o3, o4, o5, by rw [List.map_nil]; unfold loopF; rw [if_pos hv.still]; rfl⟩
  | r :: rs, S, Sok, hr, o3, o4, o5 => by
    have ok := hr r (by simp)
    obtain ⟨p3, p4, p5, e⟩ := shape_loop d s sok v xs st hv rs (nextS s S r.t r.k) (next_ok sok Sok r.t r.k ok.k) (fun z hz => hr z (List.mem_cons_of_mem _ hz)) (some (.int (r.t : Int))) (some (.int (r.k : Int))) (some (.int r.a))
    refine ⟨p3, p4, p5, ?_⟩
    have hc := c_next d s sok S Sok r.t r.k ok.k st
    have step : forF T.prog (call T.prog (d + 7)) (.t [(.v 3), (.v 4), (.v 5)]) [.set (.v 2) (.call .pure "next_shape" [(.var 0), (.var 2), (.tup [(.var 3), (.var 4)])] [] [])] r.val [some (bookI s), some v, some S.val, o3, o4, o5] st = .ok (.next [some (bookI s), some v, some (nextS s S r.t r.k).val, some (.int (r.t : Int)), some (.int (r.k : Int)), some (.int r.a)]) st := by
      show evalSs T.prog (call T.prog (d + 7)) [_] [some (bookI s), some v, some S.val, some (.int (r.t : Int)), some (.int (r.k : Int)), some (.int r.a)] st = _
      refine (Ss_next ?_).trans rfl
      rw [S_set]
      show ((callM T.prog (call T.prog (d + 7)) .pure "next_shape" [] [bookI s, S.val, symV r.t r.k] [] st).then_ _) = _
      rw [hc]
      rfl
    rw [List.map_cons]
    unfold loopF
    rw [if_pos hv.still, step]
    exact e
theorem c_shape (d : Nat) (s : Sp) (sok : s.ok) (v : Val) (rs : List Rw) (ok : ∀ r ∈ rs, r.ok s) (hl : rs.length ≤ 1000) (st : Store) (hv : LV st v (rs.map Rw.val)) : callM T.prog (call T.prog (d + 8)) .raw "shape_of" [] [bookI s, v] [] st = .ok (shapeF s ShS.first rs).val st := by
  refine call_raw (tp := [.pos 0, .pos 1]) rfl rfl ?_
  rw [unf f_shape]
  have hn := c_need (d + 4) s sok v rs ok hl st hv
  have q0 : evalS T.prog (call T.prog (d + 7)) b_shape_of_0 [some (bookI s), some v, none, none, none, none] st = .ok (.next [some (bookI s), some v, none, none, none, none]) st := by
    unfold b_shape_of_0
    rw [S_expr]
    show (callM T.prog (call T.prog (d + 7)) .raw "need_rows" [] [bookI s, v] [] st).then_ _ = _
    rw [hn]; rfl
  have q1 : evalS T.prog (call T.prog (d + 7)) b_shape_of_1 [some (bookI s), some v, none, none, none, none] st = .ok (.next [some (bookI s), some v, some ShS.first.val, none, none, none]) st := by
    have := c_first (d + 6) st
    unfold b_shape_of_1
    rw [S_set]
    show (callM T.prog (call T.prog (d + 7)) .raw "first_shape" [] [] [] st).then_ _ = _
    rw [this]; rfl
  obtain ⟨p3, p4, p5, e2⟩ := shape_loop d s sok v (rs.map Rw.val) st hv rs ShS.first (first_ok s) ok none none none
  have hsrc : srcE T.prog (call T.prog (d + 7)) .seq [(.var 1)] [some (bookI s), some v, some ShS.first.val, none, none, none] st = .ok (rs.map Rw.val, liveOf v (rs.map Rw.val)) st := by
    unfold srcE
    simp only [Es_cons, Es_nil, E_var, R.then_ok, List.getElem?_cons_zero, List.getElem?_cons_succ]
    obtain ⟨h1, h2⟩ := hv
    rcases h2 with ⟨us, rfl⟩ | ⟨i, rfl⟩
    · cases h1; rfl
    · show R.of ((lstOf st (.ref i)).map fun xs => (xs, liveOf (.ref i) xs)) st = _
      rw [h1]; rfl
  have q2 : evalS T.prog (call T.prog (d + 7)) b_shape_of_2 [some (bookI s), some v, some ShS.first.val, none, none, none] st = .ok (.next [some (bookI s), some v, some (shapeF s ShS.first rs).val, p3, p4, p5]) st := by
    unfold b_shape_of_2
    rw [S_for, hsrc]
    exact e2
  exact run_ret rfl ((Ss_next q0).trans ((Ss_next q1).trans ((Ss_next q2).trans (Ss_ret rfl))))
end L_k11
end

section
set_option Elab.async false
set_option linter.all false
set_option maxRecDepth 100000
set_option maxHeartbeats
                         1000000
namespace L_k11
open PySem Mp
/-! ### heads and held rows along a run -/
def keptN (s : Sp) : Nat := leadN s + holdN s
theorem drain_drop (s : Sp) (hold : Nat) : ∀ (ks : List Nat) (P : PenS), (drainF s hold P ks).2 = ks.drop (ks.length - hold)
  | [], P => by simp [drainF]
  | k :: r, P => by
    unfold drainF
    by_cases c : hold < (k :: r).length
    · rw [if_pos c, drain_drop s hold r]
      have e : (k :: r).length - hold = (r.length - hold) + 1 := by rw [List.length_cons] at c ⊢; omega
      rw [e, List.drop_succ_cons]
    · rw [if_neg c]
      have e : (k :: r).length - hold = 0 := by omega
      rw [e, List.drop_zero]
structure RunS (s : Sp) (b : Nat) (ks : List Nat) (S : ShS) : Prop where
  heads : S.heads = if ks.length ≤ keptN s then b else s.ls.length
  held : S.held = if ks.length ≤ keptN s then ks else ks.drop (ks.length - holdN s)
theorem run_noF {s : Sp} (l1 : 1 ≤ s.ls.length) {b : Nat} {ks : List Nat} {S : ShS} (h : RunS s b ks S) (hk : ks ≠ []) : S.isF = false := by
  unfold ShS.isF
  by_cases c : ks.length ≤ keptN s
  · have e := h.held
    rw [if_pos c] at e
    rw [e]
    have : ks.isEmpty = false := by cases ks with | nil => exact absurd rfl hk | cons _ _ => rfl
    rw [this]
    simp
  · have e := h.heads
    rw [if_neg c] at e
    have : ((S.heads : Int) == 0) = false := by
      rw [e]
      simp only [beq_eq_false_iff_ne, ne_eq]
      omega
    rw [this]
    simp
/-- what the last two parts leave -/
theorem late_run {s : Sp} {b : Nat} (hb : b < s.ls.length) (P : PenS) (cl : List Val) (ks : List Nat) (hl : ks.length ≤ keptN s + 1) : (endF s (lateF s ⟨P, b, ks, cl⟩)).heads = (if ks.length ≤ keptN s then b else s.ls.length) ∧ (endF s (lateF s ⟨P, b, ks, cl⟩)).held = if ks.length ≤ keptN s then ks else ks.drop (ks.length - holdN s) := by
  unfold lateF
  by_cases c : ks.length ≤ keptN s
  · rw [if_neg (by show ¬ (b < s.ls.length ∧ leadN s + holdN s < ks.length); unfold keptN at c; omega), if_pos c, if_pos c]
    unfold endF
    rw [if_neg (by show ¬ b = s.ls.length; omega)]
    exact ⟨rfl, rfl⟩
  · rw [if_pos (by show b < s.ls.length ∧ leadN s + holdN s < ks.length; unfold keptN at c; omega), if_neg c, if_neg c]
    unfold endF
    rw [if_pos rfl]
    refine ⟨rfl, ?_⟩
    show (drainF s (holdN s) _ (ks.drop (leadN s))).2 = _
    rw [drain_drop, List.drop_drop, List.length_drop]
    congr 1
    unfold keptN at c hl
    omega
theorem late_full {s : Sp} (P : PenS) (cl : List Val) (ks : List Nat) : (endF s (lateF s ⟨P, s.ls.length, ks, cl⟩)).heads = s.ls.length ∧ (endF s (lateF s ⟨P, s.ls.length, ks, cl⟩)).held = ks.drop (ks.length - holdN s) := by
  unfold lateF
  rw [if_neg (by show ¬ (s.ls.length < s.ls.length ∧ _); omega)]
  unfold endF
  rw [if_pos rfl]
  exact ⟨rfl, drain_drop s (holdN s) ks P⟩
/-- a run begins -/
theorem run_first {s : Sp} (l1 : 1 ≤ s.ls.length) {b k : Nat} (hb : b < s.ls.length) {S : ShS} (t : Nat) (h : (S.isF = true ∧ b = 0 ∧ S.held = []) ∨ (S.isF = false ∧ t = b)) : RunS s b [k] (nextS s S t k) := by
  have em : ∃ P cl, addK (midF s S t) k = ⟨P, b, [k], cl⟩ := by
    unfold midF
    rcases h with ⟨h1, h2, h3⟩ | ⟨h1, h2⟩
    · rw [if_pos h1]
      exact ⟨startP S, [], by show Mid.mk _ 0 (S.held ++ [k]) _ = _; rw [h3, h2]; rfl⟩
    · rw [if_neg (by rw [h1]; exact Bool.false_ne_true), if_pos (by omega), h2]
      exact ⟨_, _, rfl⟩
  obtain ⟨P, cl, em⟩ := em
  obtain ⟨h1, h2⟩ := late_run hb P cl [k] (by rw [List.length_singleton]; omega)
  constructor
  · show (stepF s S t k).heads = _
    unfold stepF
    rw [em]; exact h1
  · show (stepF s S t k).held = _
    unfold stepF
    rw [em]; exact h2
/-- a run goes on -/
theorem run_next' {s : Sp} (l1 : 1 ≤ s.ls.length) {b k : Nat} (hb : b < s.ls.length) {ks : List Nat} (hk : ks ≠ []) {S : ShS} (h : RunS s b ks S) : RunS s b (ks ++ [k]) (nextS s S s.ls.length k) := by
  have hF := run_noF l1 h hk
  have em : addK (midF s S s.ls.length) k = ⟨startP S, S.heads, S.held ++ [k], []⟩ := by
    unfold midF
    rw [if_neg (by rw [hF]; exact Bool.false_ne_true), if_neg (Nat.lt_irrefl _)]
    rfl
  have hlen : (ks ++ [k]).length = ks.length + 1 := by simp
  have fin : (endF s (lateF s ⟨startP S, S.heads, S.held ++ [k], []⟩)).heads = (if (ks ++ [k]).length ≤ keptN s then b else s.ls.length) ∧ (endF s (lateF s ⟨startP S, S.heads, S.held ++ [k], []⟩)).held = if (ks ++ [k]).length ≤ keptN s then ks ++ [k] else (ks ++ [k]).drop ((ks ++ [k]).length - holdN s) := by
    by_cases c : ks.length ≤ keptN s
    · have e1 := h.heads
      have e2 := h.held
      rw [if_pos c] at e1 e2
      rw [e1, e2]
      exact late_run hb (startP S) [] (ks ++ [k]) (by rw [hlen]; omega)
    · have e1 := h.heads
      have e2 := h.held
      rw [if_neg c] at e1 e2
      rw [e1, e2, if_neg (by rw [hlen]; omega), if_neg (by rw [hlen]; omega)]
      obtain ⟨f1, f2⟩ := late_full (s := s) (startP S) [] (ks.drop (ks.length - holdN s) ++ [k])
      refine ⟨f1, f2.trans ?_⟩
      have hh : holdN s ≤ ks.length := by unfold keptN at c; omega
      have e3 : (ks.drop (ks.length - holdN s) ++ [k]).length = holdN s + 1 := by
        rw [List.length_append, List.length_singleton, List.length_drop]; omega
      rw [e3, hlen]
      have e4 : ks.drop (ks.length - holdN s) ++ [k] = (ks ++ [k]).drop (ks.length - holdN s) := by
        rw [List.drop_append_of_le_length (by omega)]
      rw [e4, List.drop_drop]
      congr 1
      omega
  constructor
  · show (stepF s S s.ls.length k).heads = _
    unfold stepF
    rw [em]; exact fin.1
  · show (stepF s S s.ls.length k).held = _
    unfold stepF
    rw [em]; exact fin.2
/-! ### the rows that the law draws -/
def rowAt (s : Sp) (b i k : Nat) : Rw := ⟨if i = 0 ∧ 0 < b then b else s.ls.length, k, (i : Int)⟩
def rowsFrom (s : Sp) (b : Nat) : Nat → List Nat → List Rw
  | _, [] => []
  | i, k :: r => rowAt s b i k :: rowsFrom s b (i + 1) r
def headR (b : Nat) : List Rw := if 0 < b then [⟨1, 0, 0⟩] else []
def allR (s : Sp) (b : Nat) (ks : List Nat) : List Rw := headR b ++ rowsFrom s b 0 ks
theorem rows_snoc (s : Sp) (b : Nat) : ∀ (ks : List Nat) (i k : Nat), rowsFrom s b i (ks ++ [k]) = rowsFrom s b i ks ++ [rowAt s b (i + ks.length) k]
  | [], i, k => rfl
  | x :: r, i, k => by
    show rowAt s b i x :: rowsFrom s b (i + 1) (r ++ [k]) = rowAt s b i x :: (rowsFrom s b (i + 1) r ++ _)
    rw [rows_snoc s b r (i + 1) k, List.length_cons, show i + 1 + r.length = i + (r.length + 1) by omega]
theorem allR_snoc (s : Sp) (b : Nat) (ks : List Nat) (k : Nat) : allR s b (ks ++ [k]) = allR s b ks ++ [rowAt s b ks.length k] := by
  unfold allR
  rw [rows_snoc, Nat.zero_add, List.append_assoc]
theorem shape_snoc (s : Sp) (S : ShS) (rs : List Rw) (r : Rw) : shapeF s S (rs ++ [r]) = nextS s (shapeF s S rs) r.t r.k := by
  unfold shapeF
  rw [List.foldl_append]
  rfl
theorem allR_ok {s : Sp} (sok : s.ok) (b : Nat) (hb : b < s.ls.length) (ks : List Nat) (hk : ∀ k ∈ ks, k < s.ks.length) : ∀ r ∈ allR s b ks, r.ok s := by
  have l1 := sok.l1
  have hK : 0 < s.ks.length := by rcases sok.ks with h | h | h <;> rw [h] <;> decide
  have main : ∀ (ks : List Nat) (i : Nat), (∀ k ∈ ks, k < s.ks.length) → ∀ r ∈ rowsFrom s b i ks, r.ok s := by
    intro ks
    induction ks with
    | nil => intro i _ r hr; cases hr
    | cons k ks ih =>
      intro i hk r hr
      rcases List.mem_cons.mp hr with rfl |
                                            hr
      · unfold rowAt
        refine ⟨?_, ?_, hk k (by simp)⟩
        · show 1 ≤ if i = 0 ∧ 0 < b then b else s.ls.length
          split <;> omega
        · show (if i = 0 ∧ 0 < b then b else s.ls.length) ≤ s.ls.length
          split <;> omega
      · exact ih (i + 1) (fun z hz => hk z (List.mem_cons_of_mem _ hz)) r hr
  intro r hr
  rcases List.mem_append.mp hr with hr |
                                         hr
  · unfold headR at hr
    split at hr
    · have : r = ⟨1, 0, 0⟩ := by simpa using hr
      subst this
      exact ⟨Nat.le_refl _, l1, hK⟩
    · cases hr
  · exact main ks 0 hk r hr
theorem first_isF : ShS.first.isF = true := rfl
theorem run_all {s : Sp} (l1 : 1 ≤ s.ls.length) {b : Nat} (hb : b < s.ls.length) : ∀ (n : Nat) (ks : List Nat), ks.length = n + 1 → RunS s b ks (shapeF s ShS.first (allR s b ks))
  | 0, ks, hn => by
    obtain ⟨k, rfl⟩ : ∃ k, ks = [k] := List.length_eq_one_iff.mp hn
    have e : allR s b [k] = headR b ++ [rowAt s b 0 k] := rfl
    rw [e, shape_snoc]
    by_cases h0 : 0 < b
    · have et : (rowAt s b 0 k).t = b := by
        show (if 0 = 0 ∧ 0 < b then b else s.ls.length) = b
        rw [if_pos ⟨rfl, h0⟩]
      rw [et]
      have eh : headR b = [⟨1, 0, 0⟩] := by unfold headR; rw [if_pos h0]
      rw [eh]
      have hr : RunS s 0 [0] (nextS s ShS.first 1 0) := run_first l1 (by omega) 1 (.inl ⟨rfl, rfl, rfl⟩)
      exact run_first l1 hb b (.inr ⟨run_noF l1 hr (by simp), rfl⟩)
    · have eh : headR b = [] := by unfold headR; rw [if_neg h0]
      rw [eh]
      have eb : b = 0 := by omega
      exact run_first l1 hb _ (.inl ⟨rfl, eb, rfl⟩)
  | n + 1, ks, hn => by
    have hne : ks ≠ [] := by rintro rfl; cases hn
    obtain ⟨k, e⟩ : ∃ k, ks = ks.dropLast ++ [k] := ⟨ks.getLast hne, (List.dropLast_concat_getLast hne).symm⟩
    have hl : ks.dropLast.length = n + 1 := by rw [List.length_dropLast, hn]; rfl
    have ih := run_all l1 hb n ks.dropLast hl
    rw [e, allR_snoc, shape_snoc]
    have et : (rowAt s b ks.dropLast.length k).t = s.ls.length := by
      show (if ks.dropLast.length = 0 ∧ 0 < b then b else s.ls.length) = s.ls.length
      rw [if_neg (by omega)]
    rw [et]
    exact run_next' l1 hb (by intro z; rw [z] at hl; cases hl) ih
end L_k11
end

section
set_option Elab.async false
set_option linter.all false
set_option maxRecDepth 100000
set_option maxHeartbeats
                         1000000
namespace L_k11
open PySem Mp
variable {XS : List SO}
/-! ### lists behind the bag -/
theorem bag_get {st : Store} (hb : Bag XS st) (i : Nat) : st[i + 1]? = XS[i]? := by
  obtain ⟨c, i', b, sd, n, rfl, _⟩ := hb
  rfl
theorem bag_len {st : Store} (hb : Bag XS st) : st.length = XS.length + 1 := by
  obtain ⟨c, i', b, sd, n, rfl, _⟩ := hb
  rfl
theorem bag_set {st : Store} (hb : Bag XS st) (i : Nat) (o : SO) : Bag (XS.set i o) (st.set (i + 1) o) := by
  obtain ⟨c, i', b, sd, n, rfl, h⟩ := hb
  exact ⟨c, i', b, sd, n, rfl, h⟩
theorem bag_push {st : Store} (hb : Bag XS st) (o : SO) : Bag (XS ++ [o]) (st ++ [o]) := by
  obtain ⟨c, i', b, sd, n, rfl, h⟩ := hb
  exact ⟨c, i', b, sd, n, rfl, h⟩
theorem lv_at {st : Store} (hb : Bag XS st) {i : Nat} {xs : List Val} (e : XS[i]? = some (.lst xs)) : LV st (.ref (i + 1)) xs := by
  refine ⟨?_, .inr ⟨_, rfl⟩⟩
  unfold lstOf
  simp only [bag_get hb i, e]
theorem app_at {st : Store} (hb : Bag XS st) {i : Nat} {xs : List Val} (e : XS[i]? = some (.lst xs)) (hl : xs.length ≤ 1000) (v : Val) : bmTy st "append" (.ref (i + 1)) = true ∧ bmV st "append" (.ref (i + 1)) [v] = some (.non, st.set (i + 1) (.lst (xs ++ [v]))) := by
  constructor
  · unfold bmTy lstOf
    simp only [bag_get hb i, e]
    rfl
  · have e1 : bmV st "append" (.ref (i + 1)) [v] = appendV st (.ref (i + 1)) [v] := rfl
    rw [e1]
    unfold appendV
    simp only [bag_get hb i, e]
    rw [if_pos (by show _ < (2 ^ 24 : Nat); omega)]
theorem LV.atn {st : Store} {v : Val} {xs : List Val} (h : LV st v xs) (n : Nat) (hn : n < xs.length) : ixV st v (.int (n : Int)) = some xs[n] := by
  obtain ⟨h1, h2⟩ := h
  rcases h2 with ⟨us, rfl⟩ | ⟨i, rfl⟩
  · cases h1
    exact at_nat (xs := xs) n hn
  · show (match seqOf st (.ref i) with | some ys => L2.atI ys (n : Int) | none => none) = _
    rw [show seqOf st (.ref i) = some xs from h1]
    exact at_nat (xs := xs) n hn
theorem two_0 (a b : SO) : (XS ++ [a, b])[XS.length]? = some a := by simp
theorem two_1 (a b : SO) : (XS ++ [a, b])[XS.length + 1]? = some b := by simp
theorem two_s0 (a b o : SO) : (XS ++ [a, b]).set XS.length o = XS ++ [o, b] := by
  rw [List.set_append_right _ _ (Nat.le_refl _), Nat.sub_self]; rfl
theorem two_s1 (a b o : SO) : (XS ++ [a, b]).set (XS.length + 1) o = XS ++ [a, o] := by
  rw [List.set_append_right _ _ (by omega), show XS.length + 1 - XS.length = 1 by omega]; rfl
/-! ### the law's inner turn -/
abbrev lE (ns : List Int) (o2 o3 o4 o5 o6 o7 o8 o9 o10 o11 o12 o13 o14 : Option Val) : Mp.Env := [some (.scr ns), some (.ref 0), o2, o3, o4, o5, o6, o7, o8, o9, o10, o11, o12, o13, o14]
abbrev wE (ns : List Int) (o2 : Option Val) (s : Sp) (b q : Nat) (o10 o11 o12 o13 o14 : Option Val) : Mp.Env := lE ns o2 (some s.val) (some (bookI s)) (some (.int (s.ls.length : Int))) (some (.int (s.lead + s.hold))) (some (.int (b : Int))) (some (.ref (q + 1))) (some (.ref (q + 2))) o10 o11 o12 o13 o14
theorem shape_cut (S : ShS) (st : Store) : slcV st S.val (some 3) none = some (.tup [.int (S.heads : Int), .tup (S.held.map kindV)]) := rfl
theorem kinds_data : ∀ ks : List Nat, (ks.map kindV).all (dataN 0) = true
  | [] => rfl
  | k :: r => kinds_data r
theorem in_step (d : Nat) (ns : List Int) (o2 : Option Val) (s : Sp) (sok : s.ok) (b : Nat) (hbl : b < s.ls.length) (ks : List Nat) (hks : ∀ k ∈ ks, k < s.ks.length) (hl : ks.length ≤ 20) (o10 o11 o12 o13 o14 : Option Val) {st : Store} (hb : Bag (XS ++ [.lst (ks.map kindV), .lst ((allR s b ks).map Rw.val)]) st) :
    ∃ (k : Nat) (st' : Store) (p10 p11 p12 p13 p14 : Option Val), forF T.prog (call T.prog (d + 9)) (.v 10) b_law_2_5b (.int (0 + (ks.length : Int))) (wE ns o2 s b XS.length o10 o11 o12 o13 o14) st = .ok (.next (wE ns o2 s b XS.length p10 p11 p12 p13 p14)) st' ∧ k < s.ks.length ∧ Bag (XS ++ [.lst ((ks ++ [k]).map kindV), .lst ((allR s b (ks ++ [k])).map Rw.val)]) st' := by
  have l1 := sok.l1
  have l4 := sok.l4
  have eL := lead_eq sok
  have eH := hold_eq sok
  have hK : 0 < s.ks.length ∧ s.ks.length ≤ 2 := by rcases sok.ks with h | h | h <;> rw [h] <;> decide
  have hrl : (allR s b ks).length ≤ 100 := by
    have : ∀ (ks : List Nat) (i : Nat), (rowsFrom s b i ks).length = ks.length := by
      intro ks
      induction ks with
      | nil => intro i; rfl
      | cons k r ih => intro i; show (rowsFrom s b (i + 1) r).length + 1 = _; rw [ih]; rfl
    unfold allR
    rw [List.length_append, this]
    have : (headR b).length ≤ 1 := by unfold headR; split <;> decide
    omega
  obtain ⟨r, st1, e1, r0, r1, hb1⟩ := c_take (d + 8) (s.ks.length : Int) (by omega) (by omega) hb
  obtain ⟨k, rfl⟩ : ∃ k : Nat, r = (k : Int) := ⟨r.toNat, (Int.toNat_of_nonneg r0).symm⟩
  have hk : k < s.ks.length := by omega
  obtain ⟨ty1, ap1⟩ := app_at hb1 (two_0 _ _) (by rw [List.length_map]; omega) (kindV k)
  have ty0 := (app_at hb (two_0 _ _) (by rw [List.length_map]; omega) (kindV k)).1
  have hb2 := bag_set hb1 XS.length (.lst (ks.map kindV ++ [kindV k]))
  rw [two_s0, show ks.map kindV ++ [kindV k] = (ks ++ [k]).map kindV by rw [List.map_append]; rfl] at hb2
  rw [show ks.map kindV ++ [kindV k] = (ks ++ [k]).map kindV by rw [List.map_append]; rfl] at ap1
  generalize st1.set (XS.length + 1) (.lst ((ks ++ [k]).map kindV)) = st2 at ap1 hb2
  have lv2 := lv_at hb2 (two_0 _ _)
  obtain ⟨ty2, ap2⟩ := app_at hb2 (two_1 _ _) (by rw [List.length_map]; omega) (rowAt s b ks.length k).val
  have hb3 := bag_set hb2 (XS.length + 1) (.lst ((allR s b ks).map Rw.val ++ [(rowAt s b ks.length k).val]))
  have eR : (allR s b ks).map Rw.val ++ [(rowAt s b ks.length k).val] = (allR s b (ks ++ [k])).map Rw.val := by rw [allR_snoc, List.map_append]; rfl
  rw [two_s1, eR] at hb3
  rw [eR] at ap2
  generalize st2.set (XS.length + 1 + 1) (.lst ((allR s b (ks ++ [k])).map Rw.val)) = st3 at ap2 hb3
  have lvk := lv_at hb3 (two_0 _ _)
  have lvr := lv_at hb3 (two_1 _ _)
  have hks' : ∀ z ∈ ks ++ [k], z < s.ks.length := by
    intro z hz
    rcases List.mem_append.mp hz with hz |
                                           hz
    · exact hks z hz
    · have : z = k := by simpa using hz
      rw [this]; exact hk
  have hsh := c_shape (d + 1) s sok (.ref (XS.length + 2)) (allR s b (ks ++ [k])) (allR_ok sok b hbl _ hks') (by rw [allR_snoc, List.length_append, List.length_singleton]; omega) st3 lvr
  have run := run_all l1 hbl ks.length (ks ++ [k]) (by simp)
  have klen : (ks ++ [k]).length = ks.length + 1 := by simp
  have z0 : (0 + (ks.length : Int)) = (ks.length : Int) := Int.zero_add _
  rw [z0]
  -- the statements
  have w0 : evalS T.prog (call T.prog (d + 9)) b_law_2_5_0 (wE ns o2 s b XS.length (some (.int (ks.length : Int))) o11 o12 o13 o14) st = .ok (.next (wE ns o2 s b XS.length (some (.int (ks.length : Int))) (some (.int ((rowAt s b ks.length k).t : Int))) o12 o13 o14)) st := by
    unfold b_law_2_5_0
    have tb : evalT T.prog (call T.prog (d + 9)) (.and [(.cmp .eq (.var 10) (.int 0)), (.cmp .gt (.var 7) (.int 0))]) (wE ns o2 s b XS.length (some (.int (ks.length : Int))) o11 o12 o13 o14) st = .ok (decide (ks.length = 0 ∧ 0 < b)) st := by
      by_cases c1 : ks.length = 0
      · have d1 : ((ks.length : Int) == 0) = true := by simp [c1]
        by_cases c2 : 0 < b
        · rw [decide_eq_true ⟨c1, c2⟩]
          simp only [E_var, E_non, E_bl, E_int, E_str, E_glob, E_bin, E_neg, E_cmp, E_chain, E_and, E_or, E_not, E_ite, E_tup, E_lstF, E_lstT, E_ix, E_slc, E_attr, E_call, E_make, E_meth, E_bcall, E_bmeth, E_isin, Es_nil, Es_cons, and_one, and_two, or_one, or_two, T_and, T_or, T_not, T_cmp, T_chain, T_var, T_bl, T_attr, T_call, T_bcall, T_ix, T_isin, andT_one, andT_two, orT_one, orT_two, test_nil, test_one, S_expr, S_set, S_sett, S_setc, S_par, S_fld, S_sub, S_ret, S_retN, S_ite, S_for, S_pass, Ss_nil, Ss_cons, R.then_ok, R.of_some, List.getElem?_cons_zero, List.getElem?_cons_succ, Option.map_some, asB, c_eq, c_gt, d1, show decide ((0 : Int) < (b : Int)) = true from decide_eq_true (by omega)]
        · rw [decide_eq_false (fun z => c2 z.2)]
          simp only [E_var, E_non, E_bl, E_int, E_str, E_glob, E_bin, E_neg, E_cmp, E_chain, E_and, E_or, E_not, E_ite, E_tup, E_lstF, E_lstT, E_ix, E_slc, E_attr, E_call, E_make, E_meth, E_bcall, E_bmeth, E_isin, Es_nil, Es_cons, and_one, and_two, or_one, or_two, T_and, T_or, T_not, T_cmp, T_chain, T_var, T_bl, T_attr, T_call, T_bcall, T_ix, T_isin, andT_one, andT_two, orT_one, orT_two, test_nil, test_one, S_expr, S_set, S_sett, S_setc, S_par, S_fld, S_sub, S_ret, S_retN, S_ite, S_for, S_pass, Ss_nil, Ss_cons, R.then_ok, R.of_some, List.getElem?_cons_zero, List.getElem?_cons_succ, Option.map_some, asB, c_eq, c_gt, d1, show decide ((0 : Int) < (b : Int)) = false from decide_eq_false (by omega)]
      · have d1 : ((ks.length : Int) == 0) = false := by
          simp only [beq_eq_false_iff_ne, ne_eq]
          omega
        rw [decide_eq_false (fun z => c1 z.1)]
        simp only [E_var, E_non, E_bl, E_int, E_str, E_glob, E_bin, E_neg, E_cmp, E_chain, E_and, E_or, E_not, E_ite, E_tup, E_lstF, E_lstT, E_ix, E_slc, E_attr, E_call, E_make, E_meth, E_bcall, E_bmeth, E_isin, Es_nil, Es_cons, and_one, and_two, or_one, or_two, T_and, T_or, T_not, T_cmp, T_chain, T_var, T_bl, T_attr, T_call, T_bcall, T_ix, T_isin, andT_one, andT_two, orT_one, orT_two, test_nil, test_one, S_expr, S_set, S_sett, S_setc, S_par, S_fld, S_sub, S_ret, S_retN, S_ite, S_for, S_pass, Ss_nil, Ss_cons, R.then_ok, R.of_some, List.getElem?_cons_zero, List.getElem?_cons_succ, Option.map_some, asB, c_eq, d1]
    rw [S_set, E_ite, tb]
    by_cases c : ks.length = 0 ∧ 0 < b
    · rw [decide_eq_true c]
      have et : (rowAt s b ks.length k).t = b := by show (if ks.length = 0 ∧ 0 < b then b else s.ls.length) = b; rw [if_pos c]
      rw [et]
      rfl
    · rw [decide_eq_false c]
      have et : (rowAt s b ks.length k).t = s.ls.length := by show (if ks.length = 0 ∧ 0 < b then b else s.ls.length) = s.ls.length; rw [if_neg c]
      rw [et]
      rfl
  have h4 : ∀ st, ixV st s.val (.int 4) = some (.lst (s.ks.map Val.int)) := fun _ => rfl
  have h6 : ∀ st, ixV st s.val (.int 6) = some (.int s.hold) := fun _ => rfl
  have w1 : ∀ o, evalS T.prog (call T.prog (d + 9)) b_law_2_5_1 (wE ns o2 s b XS.length (some (.int (ks.length : Int))) o o12 o13 o14) st = .ok (.next (wE ns o2 s b XS.length (some (.int (ks.length : Int))) o o12 o13 o14)) st2 := fun o => by
    unfold b_law_2_5_1
    simp only [E_var, E_non, E_bl, E_int, E_str, E_glob, E_bin, E_neg, E_cmp, E_chain, E_and, E_or, E_not, E_ite, E_tup, E_lstF, E_lstT, E_ix, E_slc, E_attr, E_call, E_make, E_meth, E_bcall, E_bmeth, E_isin, Es_nil, Es_cons, and_one, and_two, or_one, or_two, T_and, T_or, T_not, T_cmp, T_chain, T_var, T_bl, T_attr, T_call, T_bcall, T_ix, T_isin, andT_one, andT_two, orT_one, orT_two, test_nil, test_one, S_expr, S_set, S_sett, S_setc, S_par, S_fld, S_sub, S_ret, S_retN, S_ite, S_for, S_pass, Ss_nil, Ss_cons, R.then_ok, R.of_some, List.getElem?_cons_zero, List.getElem?_cons_succ, Option.map_some, asB, ty0, h4, v_len, List.length_map, e1]
    show (match bmV st1 "append" (.ref (XS.length + 1)) [kindV k] with | some (v, st') => R.ok v st' | none => R.stuck).then_ _ = _
    rw [ap1]
    rfl
  have xk : ixV st2 (.ref (XS.length + 1)) (.int (ks.length : Int)) = some (kindV k) := by
    rw [lv2.atn ks.length (by rw [List.length_map, klen]; omega)]
    simp
  have w2 : evalS T.prog (call T.prog (d + 9)) b_law_2_5_2 (wE ns o2 s b XS.length (some (.int (ks.length : Int))) (some (.int ((rowAt s b ks.length k).t : Int))) o12 o13 o14) st2 = .ok (.next (wE ns o2 s b XS.length (some (.int (ks.length : Int))) (some (.int ((rowAt s b ks.length k).t : Int))) o12 o13 o14)) st3 := by
    unfold b_law_2_5_2
    simp only [E_var, E_non, E_bl, E_int, E_str, E_glob, E_bin, E_neg, E_cmp, E_chain, E_and, E_or, E_not, E_ite, E_tup, E_lstF, E_lstT, E_ix, E_slc, E_attr, E_call, E_make, E_meth, E_bcall, E_bmeth, E_isin, Es_nil, Es_cons, and_one, and_two, or_one, or_two, T_and, T_or, T_not, T_cmp, T_chain, T_var, T_bl, T_attr, T_call, T_bcall, T_ix, T_isin, andT_one, andT_two, orT_one, orT_two, test_nil, test_one, S_expr, S_set, S_sett, S_setc, S_par, S_fld, S_sub, S_ret, S_retN, S_ite, S_for, S_pass, Ss_nil, Ss_cons, R.then_ok, R.of_some, List.getElem?_cons_zero, List.getElem?_cons_succ, Option.map_some, asB, ty2, xk]
    show (match bmV st2 "append" (.ref (XS.length + 1 + 1)) [(rowAt s b ks.length k).val] with | some (v, st') => R.ok v st' | none => R.stuck).then_ _ = _
    rw [ap2]
    rfl
  have w3 : ∃ hv, evalS T.prog (call T.prog (d + 9)) b_law_2_5_3 (wE ns o2 s b XS.length (some (.int (ks.length : Int))) (some (.int ((rowAt s b ks.length k).t : Int))) o12 o13 o14) st3 = .ok (.next (wE ns o2 s b XS.length (some (.int (ks.length : Int))) (some (.int ((rowAt s b ks.length k).t : Int))) (some (.int ((shapeF s ShS.first (allR s b (ks ++ [k]))).heads : Int))) (some hv) o14)) st3 ∧ LV st3 hv ((shapeF s ShS.first (allR s b (ks ++ [k]))).held.map kindV) := by
    rw [run.heads, run.held]
    have tb : evalT T.prog (call T.prog (d + 9)) (.cmp .lt (.var 10) (.var 6)) (wE ns o2 s b XS.length (some (.int (ks.length : Int))) (some (.int ((rowAt s b ks.length k).t : Int))) o12 o13 o14) st3 = .ok (decide ((ks ++ [k]).length ≤ keptN s)) st3 := by
      have ek : decide ((ks.length : Int) < s.lead + s.hold) = decide ((ks ++ [k]).length ≤ keptN s) := by
        rw [klen]
        unfold keptN
        by_cases c : ks.length + 1 ≤ leadN s + holdN s
        · rw [decide_eq_true c, decide_eq_true (by omega)]
        · rw [decide_eq_false c, decide_eq_false (by omega)]
      simp only [E_var, E_non, E_bl, E_int, E_str, E_glob, E_bin, E_neg, E_cmp, E_chain, E_and, E_or, E_not, E_ite, E_tup, E_lstF, E_lstT, E_ix, E_slc, E_attr, E_call, E_make, E_meth, E_bcall, E_bmeth, E_isin, Es_nil, Es_cons, and_one, and_two, or_one, or_two, T_and, T_or, T_not, T_cmp, T_chain, T_var, T_bl, T_attr, T_call, T_bcall, T_ix, T_isin, andT_one, andT_two, orT_one, orT_two, test_nil, test_one, S_expr, S_set, S_sett, S_setc, S_par, S_fld, S_sub, S_ret, S_retN, S_ite, S_for, S_pass, Ss_nil, Ss_cons, R.then_ok, R.of_some, List.getElem?_cons_zero, List.getElem?_cons_succ, Option.map_some, asB, c_lt, ek]
    unfold b_law_2_5_3
    rw [S_set, E_ite, tb]
    by_cases c : (ks ++ [k]).length ≤ keptN s
    · rw [decide_eq_true c, if_pos c, if_pos c]
      exact ⟨.ref (XS.length + 1), rfl, lvk⟩
    · rw [decide_eq_false c, if_neg c, if_neg c]
      refine ⟨.lst (((ks ++ [k]).drop ((ks ++ [k]).length - holdN s)).map kindV), ?_, LV.lst _ _⟩
      have en : (ks.length : Int) + 1 - s.hold = (((ks ++ [k]).length - holdN s : Nat) : Int) := by
        rw [klen] at c ⊢
        unfold keptN at c
        omega
      have e := lvk.slc (some (((ks ++ [k]).length - holdN s : Nat) : Int)) none
      rw [cut_drop, ← List.map_drop] at e
      have pn : partOf [] = some none := rfl
      have pl : partOf [.int (((ks ++ [k]).length - holdN s : Nat) : Int)] = some (some (((ks ++ [k]).length - holdN s : Nat) : Int)) := rfl
      show ((evalE T.prog (call T.prog (d + 9)) (.tup [(.var 5), (.slc (.var 8) [(.bin .sub (.bin .add (.var 10) (.int 1)) (.ix (.var 3) (.int 6)))] [])]) (wE ns o2 s b XS.length (some (.int (ks.length : Int))) (some (.int ((rowAt s b ks.length k).t : Int))) o12 o13 o14) st3).then_ _) = _
      simp only [E_tup, E_slc, E_bin, E_ix, E_int, E_var, Es_nil, Es_cons, R.then_ok, R.of_some, List.getElem?_cons_zero, List.getElem?_cons_succ, b_add, b_sub, h6, en, pn, pl, e]
      rfl
  obtain ⟨hv, w3, lvh⟩ := w3
  have w4 : evalS T.prog (call T.prog (d + 9)) b_law_2_5_4 (wE ns o2 s b XS.length (some (.int (ks.length : Int))) (some (.int ((rowAt s b ks.length k).t : Int))) (some (.int ((shapeF s ShS.first (allR s b (ks ++ [k]))).heads : Int))) (some hv) o14) st3 = .ok (.next (wE ns o2 s b XS.length (some (.int (ks.length : Int))) (some (.int ((rowAt s b ks.length k).t : Int))) (some (.int ((shapeF s ShS.first (allR s b (ks ++ [k]))).heads : Int))) (some hv) (some (shapeF s ShS.first (allR s b (ks ++ [k]))).val))) st3 := by
    unfold b_law_2_5_4
    rw [S_set]
    show (callM T.prog (call T.prog (d + 9)) .raw "shape_of" [] [bookI s, .ref (XS.length + 2)] [] st3).then_ _ = _
    rw [hsh]; rfl
  have w5 : evalS T.prog (call T.prog (d + 9)) b_law_2_5_5 (wE ns o2 s b XS.length (some (.int (ks.length : Int))) (some (.int ((rowAt s b ks.length k).t : Int))) (some (.int ((shapeF s ShS.first (allR s b (ks ++ [k]))).heads : Int))) (some hv) (some (shapeF s ShS.first (allR s b (ks ++ [k]))).val)) st3 = .ok (.next (wE ns o2 s b XS.length (some (.int (ks.length : Int))) (some (.int ((rowAt s b ks.length k).t : Int))) (some (.int ((shapeF s ShS.first (allR s b (ks ++ [k]))).heads : Int))) (some hv) (some (shapeF s ShS.first (allR s b (ks ++ [k]))).val))) st3 := by
    have i1 : ∀ st, isTs T.prog st (shapeF s ShS.first (allR s b (ks ++ [k]))).val ["tuple"] = some true := fun _ => rfl
    have n1 : ∀ st, bV st "len" [(shapeF s ShS.first (allR s b (ks ++ [k]))).val] = some (.int 5) := fun _ => rfl
    have n2 : ∀ st, cmpV st .ne (.int 5) (.int 5) = some false := fun _ => rfl
    have sl := shape_cut (shapeF s ShS.first (allR s b (ks ++ [k])))
    have et := lvh.tup
    have hlen := (shapeF_ok sok (allR s b (ks ++ [k])) ShS.first (first_ok s) (allR_ok sok b hbl _ hks')).many
    have hdat : dataN 2 (.tup [.int ((shapeF s ShS.first (allR s b (ks ++ [k]))).heads : Int), .tup ((shapeF s ShS.first (allR s b (ks ++ [k]))).held.map kindV)]) = true := by
      show (decide (2 ≤ 1000) && (true && ((decide (((shapeF s ShS.first (allR s b (ks ++ [k]))).held.map kindV).length ≤ 1000) && ((shapeF s ShS.first (allR s b (ks ++ [k]))).held.map kindV).all (dataN 0)) && true))) = true
      have hd : decide (((shapeF s ShS.first (allR s b (ks ++ [k]))).held.map kindV).length ≤ 1000) = true := decide_eq_true (by rw [List.length_map]; omega)
      rw [kinds_data, hd]
      rfl
    have hs := c_same (d + 6) 2 hdat st3
    have pn : partOf [] = some none := rfl
    have pl : partOf [.int 3] = some (some 3) := rfl
    have tt : ∀ st, truV st (.bl true) = some true := fun _ => rfl
    unfold b_law_2_5_5
    refine ite_next ?_
    simp only [E_var, E_non, E_bl, E_int, E_str, E_glob, E_bin, E_neg, E_cmp, E_chain, E_and, E_or, E_not, E_ite, E_tup, E_lstF, E_lstT, E_ix, E_slc, E_attr, E_call, E_make, E_meth, E_bcall, E_bmeth, E_isin, Es_nil, Es_cons, and_one, and_two, or_one, or_two, T_and, T_or, T_not, T_cmp, T_chain, T_var, T_bl, T_attr, T_call, T_bcall, T_ix, T_isin, andT_one, andT_two, orT_one, orT_two, test_nil, test_one, S_expr, S_set, S_sett, S_setc, S_par, S_fld, S_sub, S_ret, S_retN, S_ite, S_for, S_pass, Ss_nil, Ss_cons, R.then_ok, R.of_some, List.getElem?_cons_zero, List.getElem?_cons_succ, Option.map_some, asB, i1, n1, n2, sl, et, hs, pn, pl, tt, Bool.not_true]
  refine ⟨k, st3, some (.int (ks.length : Int)), some (.int ((rowAt s b ks.length k).t : Int)), some (.int ((shapeF s ShS.first (allR s b (ks ++ [k]))).heads : Int)), some hv, some (shapeF s ShS.first (allR s b (ks ++ [k]))).val, ?_, hk, hb3⟩
  exact (Ss_next w0).trans ((Ss_next (w1 _)).trans ((Ss_next w2).trans ((Ss_next w3).trans ((Ss_next w4).trans ((Ss_next w5).trans rfl)))))
end L_k11
end

section
set_option Elab.async false
set_option linter.all false
set_option maxRecDepth 100000
set_option maxHeartbeats
                         1000000
namespace L_k11
open PySem Mp
variable {XS : List SO}
theorem in_loop (d : Nat) (ns : List Int) (o2 : Option Val) (s : Sp) (sok : s.ok) (b : Nat) (hbl : b < s.ls.length) : ∀ (m : Nat) (ks : List Nat), (∀ k ∈ ks, k < s.ks.length) → ks.length + m ≤ 20 → ∀ (o10 o11 o12 o13 o14 : Option Val) {st : Store}, Bag (XS ++ [.lst (ks.map kindV), .lst ((allR s b ks).map Rw.val)]) st →
    ∃ (YS : List SO) (st' : Store) (p10 p11 p12 p13 p14 : Option Val), loopF (forF T.prog (call T.prog (d + 9)) (.v 10) b_law_2_5b) [] ((List.range' ks.length m).map fun (k : Nat) => Val.int (0 + (k : Int))) (wE ns o2 s b XS.length o10 o11 o12 o13 o14) st = .ok (.next (wE ns o2 s b XS.length p10 p11 p12 p13 p14)) st' ∧ Bag YS st'
  | 0, ks, _, _, o10, o11, o12, o13, o14, st, hb => ⟨_, st, o10, o11, o12, o13, o14, rfl, hb⟩
  | m + 1, ks, hks, hl, o10, o11, o12, o13, o14, st, hb => by
    obtain ⟨k, st1, p10, p11, p12, p13, p14, e, hk, hb1⟩ := in_step d ns o2 s sok b hbl ks hks (by omega) o10 o11 o12 o13 o14 hb
    have hlen : (ks ++ [k]).length = ks.length + 1 := by simp
    obtain ⟨YS, st2, r10, r11, r12, r13, r14, e2, hb2⟩ := in_loop d ns o2 s sok b hbl m (ks ++ [k]) (fun z hz => by
      rcases List.mem_append.mp hz with hz |
                                             hz
      · exact hks z hz
      · have : z = k := by simpa using hz
        rw [this]; exact hk) (by rw [hlen]; omega) p10 p11 p12 p13 p14 hb1
    refine ⟨YS, st2, r10, r11, r12, r13, r14, ?_, hb2⟩
    show (forF T.prog (call T.prog (d + 9)) (.v 10) b_law_2_5b (.int (0 + (ks.length : Int))) (wE ns o2 s b XS.length o10 o11 o12 o13 o14) st).then_ _ = _
    rw [e]
    rw [hlen] at e2
    exact e2
theorem turn_ok (d : Nat) (ns : List Int) (x : Val) (o2 o3 o4 o5 o6 o7 o8 o9 o10 o11 o12 o13 o14 : Option Val) {st : Store} (hb : Bag XS st) : ∃ (YS : List SO) (p2 p3 p4 p5 p6 p7 p8 p9 p10 p11 p12 p13 p14 : Option Val) (st' : Store), forF T.prog (call T.prog (d + 9)) (.v 2) b_law_2b x (lE ns o2 o3 o4 o5 o6 o7 o8 o9 o10 o11 o12 o13 o14) st = .ok (.next (lE ns p2 p3 p4 p5 p6 p7 p8 p9 p10 p11 p12 p13 p14)) st' ∧ Bag YS st' := by
  obtain ⟨s, st1, e1, sok, hb1⟩ := spec_ok (d + 5) 4 0 6 (by decide) (by decide) (by decide) (by decide) (by decide) (by decide) hb
  have hk := book_ok (d + 3) s sok st1
  have l1 := sok.l1
  have l4 := sok.l4
  obtain ⟨r, st2, e2, r0, r1, hb2⟩ := c_take (d + 8) (s.ls.length : Int) (by omega) (by omega) hb1
  obtain ⟨b, rfl⟩ : ∃ b : Nat, r = (b : Int) := ⟨r.toNat, (Int.toNat_of_nonneg r0).symm⟩
  have hbl : b < s.ls.length := by omega
  have hb3 := bag_push hb2 (.lst [])
  have len2 := bag_len hb2
  have hb4 := bag_push hb3 (.lst ((allR s b []).map Rw.val))
  have len3 := bag_len hb3
  rw [List.append_assoc] at hb4
  obtain ⟨r2, st5, e5, r20, r21, hb5⟩ := c_take (d + 8) 9 (by decide) (by decide) hb4
  obtain ⟨m, rfl⟩ : ∃ m : Nat, r2 = (m : Int) := ⟨r2.toNat, (Int.toNat_of_nonneg r20).symm⟩
  obtain ⟨YS, st6, p10, p11, p12, p13, p14, e6, hb6⟩ := in_loop (XS := XS) d ns (some x) s sok b hbl (1 + m) [] (fun k hk => (by cases hk)) (by rw [List.length_nil]; omega) o10 o11 o12 o13 o14 hb5
  refine ⟨YS, some x, some s.val, some (bookI s), some (.int (s.ls.length : Int)), some (.int (s.lead + s.hold)), some (.int (b : Int)), some (.ref (XS.length + 1)), some (.ref (XS.length + 2)), p10, p11, p12, p13, p14, st6, ?_, hb6⟩
  show evalSs T.prog (call T.prog (d + 9)) b_law_2b (lE ns (some x) o3 o4 o5 o6 o7 o8 o9 o10 o11 o12 o13 o14) st = _
  have h1 : ∀ st, ixV st s.val (.int 1) = some (.lst (s.ls.map Lev.tup)) := fun _ => rfl
  have h5 : ∀ st, ixV st s.val (.int 5) = some (.int s.lead) := fun _ => rfl
  have h6 : ∀ st, ixV st s.val (.int 6) = some (.int s.hold) := fun _ => rfl
  have q0 : evalS T.prog (call T.prog (d + 9)) b_law_2_0 (lE ns (some x) o3 o4 o5 o6 o7 o8 o9 o10 o11 o12 o13 o14) st = .ok (.next (lE ns (some x) (some s.val) o4 o5 o6 o7 o8 o9 o10 o11 o12 o13 o14)) st1 := by
    unfold b_law_2_0
    rw [S_set]
    show (callM T.prog (call T.prog (d + 9)) .raw "_law_spec" [] [.ref 0, .int 4, .int 0, .int 6] [] st).then_ _ = _
    rw [e1]; rfl
  have q1 : evalS T.prog (call T.prog (d + 9)) b_law_2_1 (lE ns (some x) (some s.val) o4 o5 o6 o7 o8 o9 o10 o11 o12 o13 o14) st1 = .ok (.next (lE ns (some x) (some s.val) (some (bookI s)) o5 o6 o7 o8 o9 o10 o11 o12 o13 o14)) st1 := by
    unfold b_law_2_1
    rw [S_set]
    show (callM T.prog (call T.prog (d + 9)) .raw "_law_book" [] [s.val] [] st1).then_ _ = _
    rw [hk]; rfl
  have q2 : evalS T.prog (call T.prog (d + 9)) b_law_2_2 (lE ns (some x) (some s.val) (some (bookI s)) o5 o6 o7 o8 o9 o10 o11 o12 o13 o14) st1 = .ok (.next (lE ns (some x) (some s.val) (some (bookI s)) (some (.int (s.ls.length : Int))) (some (.int (s.lead + s.hold))) o7 o8 o9 o10 o11 o12 o13 o14)) st1 := by
    unfold b_law_2_2
    simp only [E_var, E_non, E_bl, E_int, E_str, E_glob, E_bin, E_neg, E_cmp, E_chain, E_and, E_or, E_not, E_ite, E_tup, E_lstF, E_lstT, E_ix, E_slc, E_attr, E_call, E_make, E_meth, E_bcall, E_bmeth, E_isin, Es_nil, Es_cons, and_one, and_two, or_one, or_two, T_and, T_or, T_not, T_cmp, T_chain, T_var, T_bl, T_attr, T_call, T_bcall, T_ix, T_isin, andT_one, andT_two, orT_one, orT_two, test_nil, test_one, S_expr, S_set, S_sett, S_setc, S_par, S_fld, S_sub, S_ret, S_retN, S_ite, S_for, S_pass, Ss_nil, Ss_cons, R.then_ok, R.of_some, List.getElem?_cons_zero, List.getElem?_cons_succ, Option.map_some, asB, h1, h5, h6, v_len, List.length_map, b_add]
    rfl
  have q3 : evalS T.prog (call T.prog (d + 9)) b_law_2_3 (lE ns (some x) (some s.val) (some (bookI s)) (some (.int (s.ls.length : Int))) (some (.int (s.lead + s.hold))) o7 o8 o9 o10 o11 o12 o13 o14) st1 = .ok (.next (lE ns (some x) (some s.val) (some (bookI s)) (some (.int (s.ls.length : Int))) (some (.int (s.lead + s.hold))) (some (.int (b : Int))) (some (.ref (XS.length + 1))) o9 o10 o11 o12 o13 o14)) (st2 ++ [.lst []]) := by
    unfold b_law_2_3
    simp only [E_var, E_non, E_bl, E_int, E_str, E_glob, E_bin, E_neg, E_cmp, E_chain, E_and, E_or, E_not, E_ite, E_tup, E_lstF, E_lstT, E_ix, E_slc, E_attr, E_call, E_make, E_meth, E_bcall, E_bmeth, E_isin, Es_nil, Es_cons, and_one, and_two, or_one, or_two, T_and, T_or, T_not, T_cmp, T_chain, T_var, T_bl, T_attr, T_call, T_bcall, T_ix, T_isin, andT_one, andT_two, orT_one, orT_two, test_nil, test_one, S_expr, S_set, S_sett, S_setc, S_par, S_fld, S_sub, S_ret, S_retN, S_ite, S_for, S_pass, Ss_nil, Ss_cons, R.then_ok, R.of_some, List.getElem?_cons_zero, List.getElem?_cons_succ, Option.map_some, asB, e2, len2]
    rfl
  have q4 : evalS T.prog (call T.prog (d + 9)) b_law_2_4 (lE ns (some x) (some s.val) (some (bookI s)) (some (.int (s.ls.length : Int))) (some (.int (s.lead + s.hold))) (some (.int (b : Int))) (some (.ref (XS.length + 1))) o9 o10 o11 o12 o13 o14) (st2 ++ [.lst []]) = .ok (.next (wE ns (some x) s b XS.length o10 o11 o12 o13 o14)) (st2 ++ [.lst []] ++ [.lst ((allR s b []).map Rw.val)]) := by
    have eln : (XS ++ [SO.lst []]).length + 1 = XS.length + 2 := by simp
    unfold b_law_2_4
    rw [S_set, E_ite]
    by_cases c : 0 < b
    · have eh : (allR s b []).map Rw.val = [.tup [.int 1, .int 0, .int 0]] := by
        show ((headR b ++ []).map Rw.val) = _
        unfold headR
        rw [if_pos c]; rfl
      have tb : evalT T.prog (call T.prog (d + 9)) (.cmp .gt (.var 7) (.int 0)) (lE ns (some x) (some s.val) (some (bookI s)) (some (.int (s.ls.length : Int))) (some (.int (s.lead + s.hold))) (some (.int (b : Int))) (some (.ref (XS.length + 1))) o9 o10 o11 o12 o13 o14) (st2 ++ [.lst []]) = .ok true (st2 ++ [.lst []]) := by
        simp only [E_var, E_non, E_bl, E_int, E_str, E_glob, E_bin, E_neg, E_cmp, E_chain, E_and, E_or, E_not, E_ite, E_tup, E_lstF, E_lstT, E_ix, E_slc, E_attr, E_call, E_make, E_meth, E_bcall, E_bmeth, E_isin, Es_nil, Es_cons, and_one, and_two, or_one, or_two, T_and, T_or, T_not, T_cmp, T_chain, T_var, T_bl, T_attr, T_call, T_bcall, T_ix, T_isin, andT_one, andT_two, orT_one, orT_two, test_nil, test_one, S_expr, S_set, S_sett, S_setc, S_par, S_fld, S_sub, S_ret, S_retN, S_ite, S_for, S_pass, Ss_nil, Ss_cons, R.then_ok, R.of_some, List.getElem?_cons_zero, List.getElem?_cons_succ, Option.map_some, asB, c_gt, show decide ((0 : Int) < (b : Int)) = true from decide_eq_true (by omega)]
      rw [tb, eh]
      show (R.ok (Val.ref (st2 ++ [SO.lst []]).length) _).then_ _ = _
      rw [len3, eln]
      rfl
    · have eh : (allR s b []).map Rw.val = [] := by
        show ((headR b ++ []).map Rw.val) = _
        unfold headR
        rw [if_neg c]; rfl
      have tb : evalT T.prog (call T.prog (d + 9)) (.cmp .gt (.var 7) (.int 0)) (lE ns (some x) (some s.val) (some (bookI s)) (some (.int (s.ls.length : Int))) (some (.int (s.lead + s.hold))) (some (.int (b : Int))) (some (.ref (XS.length + 1))) o9 o10 o11 o12 o13 o14) (st2 ++ [.lst []]) = .ok false (st2 ++ [.lst []]) := by
        simp only [E_var, E_non, E_bl, E_int, E_str, E_glob, E_bin, E_neg, E_cmp, E_chain, E_and, E_or, E_not, E_ite, E_tup, E_lstF, E_lstT, E_ix, E_slc, E_attr, E_call, E_make, E_meth, E_bcall, E_bmeth, E_isin, Es_nil, Es_cons, and_one, and_two, or_one, or_two, T_and, T_or, T_not, T_cmp, T_chain, T_var, T_bl, T_attr, T_call, T_bcall, T_ix, T_isin, andT_one, andT_two, orT_one, orT_two, test_nil, test_one, S_expr, S_set, S_sett, S_setc, S_par, S_fld, S_sub, S_ret, S_retN, S_ite, S_for, S_pass, Ss_nil, Ss_cons, R.then_ok, R.of_some, List.getElem?_cons_zero, List.getElem?_cons_succ, Option.map_some, asB, c_gt, show decide ((0 : Int) < (b : Int)) = false from decide_eq_false (by omega)]
      rw [tb, eh]
      show (R.ok (Val.ref (st2 ++ [SO.lst []]).length) _).then_ _ = _
      rw [len3, eln]
      rfl
  have q5 : evalS T.prog (call T.prog (d + 9)) b_law_2_5 (wE ns (some x) s b XS.length o10 o11 o12 o13 o14) (st2 ++ [.lst []] ++ [.lst ((allR s b []).map Rw.val)]) = .ok (.next (wE ns (some x) s b XS.length p10 p11 p12 p13 p14)) st6 := by
    have hsrc : srcE T.prog (call T.prog (d + 9)) .range1 [(.bin .add (.int 1) (.call .raw "_law_take" [(.var 1), (.int 9)] [] []))] (wE ns (some x) s b XS.length o10 o11 o12 o13 o14) (st2 ++ [.lst []] ++ [.lst ((allR s b []).map Rw.val)]) = .ok ((List.range' 0 (1 + m)).map fun (k : Nat) => Val.int (0 + (k : Int)), []) st5 := by
      unfold srcE
      simp only [Es_cons, Es_nil, E_bin, E_int, E_var, E_call, R.then_ok, R.of_some, List.getElem?_cons_zero, List.getElem?_cons_succ, e5, b_add]
      show R.of (if _ then _ else none) st5 = _
      rw [if_pos (by omega), show (1 + (m : Int)).toNat = 1 + m by omega, List.range_eq_range']
      rfl
    unfold b_law_2_5
    rw [S_for, hsrc]
    exact e6
  exact (Ss_next q0).trans ((Ss_next q1).trans ((Ss_next q2).trans ((Ss_next q3).trans ((Ss_next q4).trans ((Ss_next q5).trans rfl)))))
theorem f_law : T.prog.fn "law" = some ⟨1, 15, b_law⟩ := rfl
theorem law_ok (ns : List Int) (hn : ns.length ≤ 63) : ∃ st', call T.prog 25 "law" [.scr ns] [] = .ok (.bl true) st' := by
  obtain ⟨st1, e0, hb⟩ := bag_ok 23 ns
  obtain ⟨env', st', e2, ⟨⟨p2, p3, p4, p5, p6, p7, p8, p9, p10, p11, p12, p13, p14, rfl⟩, _⟩⟩ := loop_inv (I := fun env st' => (∃ p2 p3 p4 p5 p6 p7 p8 p9 p10 p11 p12 p13 p14, env = lE ns p2 p3 p4 p5 p6 p7 p8 p9 p10 p11 p12 p13 p14) ∧ ∃ YS, Bag YS st') (step := forF T.prog (call T.prog 24) (.v 2) b_law_2b) (items := (List.range 4).map fun (k : Nat) => Val.int (0 + (k : Int))) (fun x hx env st' ⟨⟨p2, p3, p4, p5, p6, p7, p8, p9, p10, p11, p12, p13, p14, he⟩, YS, hst⟩ => by
    subst he
    obtain ⟨ZS, q2, q3, q4, q5, q6, q7, q8, q9, q10, q11, q12, q13, q14, st'', e, hb'⟩ := turn_ok 15 ns x p2 p3 p4 p5 p6 p7 p8 p9 p10 p11 p12 p13 p14 hst
    exact ⟨_, _, e, ⟨q2, q3, q4, q5, q6, q7, q8, q9, q10, q11, q12, q13, q14, rfl⟩, ZS, hb'⟩) (lE ns none none none none none none none none none none none none none) st1 ⟨⟨_, _, _, _, _, _, _, _, _, _, _, _, _, rfl⟩, [], hb⟩
  refine ⟨st', ?_⟩
  rw [unf f_law]
  have q0 : evalS T.prog (call T.prog 24) b_law_0 [some (.scr ns), none, none, none, none, none, none, none, none, none, none, none, none, none, none] [] = .ok (.next (lE ns none none none none none none none none none none none none none)) st1 := by
    unfold b_law_0
    rw [S_set]
    show (callM T.prog (call T.prog 24) .raw "_law_bag" [] [.scr ns] [] []).then_ _ = _
    rw [e0]; rfl
  have q1 : evalS T.prog (call T.prog 24) b_law_1 (lE ns none none none none none none none none none none none none none) st1 = .ok (.next (lE ns none none none none none none none none none none none none none)) st1 := by
    have hf := c_first 23 st1
    have hs := c_same 21 2 (v := ShS.first.val) rfl st1
    unfold b_law_1
    refine ite_next ?_
    rw [T_not, T_call, Es_cons]
    show ((((callM T.prog (call T.prog 24) .raw "first_shape" [] [] [] st1).then_ _).then_ _).then_ _).then_ _ = _
    rw [hf]
    show (((callM T.prog (call T.prog 24) .raw "_law_same" [] [ShS.first.val, ShS.first.val] [] st1).then_ _).then_ _) = _
    rw [hs]
    rfl
  have q2 : evalS T.prog (call T.prog 24) b_law_2 (lE ns none none none none none none none none none none none none none) st1 = .ok (.next (lE ns p2 p3 p4 p5 p6 p7 p8 p9 p10 p11 p12 p13 p14)) st' := by
    unfold b_law_2
    rw [S_for]
    exact e2
  exact run_ret rfl ((Ss_next q0).trans ((Ss_next q1).trans ((Ss_next q2).trans (Ss_ret rfl))))
end L_k11
end
theorem PySem.Challenge.cw_sheetsums_k11_rows_that_are_held_holds : PySem.Challenge.rw_sheetsums_k11_rows_that_are_held.Holds := by
  exact L_k11.done L_k11.law_ok
