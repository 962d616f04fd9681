import PyProof.Rows.All
import Wide.All
import OpenK.AllK
import Wide.FinOn
import HandS.ForMost
import HandS.Exc
import HandS.TryOnly
import HandS.ExcOwn
import HandS.WordsExc
import HandS.Defaults
import HandS.MakeKw
import HandS.MakeKwOnly
import HandS.Property
import HandS.FStr
import HandS.IsInst
import HandS.HeadEnd
import HandS.HeadHook1
import HandS.HeadHook2
import HandS.Wide
import HandS.TupLe
import HandS.ExcInit
import HandS.ExcIs
import HandS.ExcField
import HandS.TryMany
import HandS.HotCalls
import HandS.Lambda
import KE.KExcSuper
import KE.KExcLine
import HandS.HeadWalk
import KE.KExcIs
import HandS.Comp
import HandS.Text
import HandS.Deep
import KE.KDflt
import HandS.Star
import HandS.Iter
import OpenK.KOps
import OpenK.KWalk
import PyProof.InstEq
import PyProof.EnumMake
import PyProof.WalksMore
import HandS.Dict
import HandS.SetKeys
import PyProof.DictMoreH
import HandS.OwnEq
import HandS.Style
import HandS.Head2
import HandS.Head0
import HandS.Head1
import PySem.Challenge.RW_sheetsums_k07_books_refused
section
set_option Elab.async false
set_option linter.all false
set_option maxRecDepth 100000
namespace Mp
open PySem
inductive Val where
  | non | bl (b : Bool) | int (i : Int) | str (x : Str)
  | tup (xs : List Val) | lst (xs : List Val)
  | ins (c : Str) (ns : List Str) (vs : List Val)
  | scr (ns : List Int)
  | ref (i : Nat)
  | clo (i : Nat)
inductive SO where
  | lst (xs : List Val)
  | ins (c : Str) (ns : List Str) (vs : List Val)
abbrev Store := List SO
abbrev Env := List (Option Val)
def dN : Str := "dict"
def dT : Str := "dictT"
def encI (i : Int) : Nat := if 0 ≤ i then 2 * i.toNat else 2 * (-i).toNat - 1
def decI (n : Nat) : Int := if n % 2 = 0 then (n / 2 : Nat) else -((n + 1) / 2 : Nat)
theorem decI_encI (i : Int) : decI (encI i) = i := by
  unfold decI encI
  split <;> split <;> omega
def encK (x : Str) (i : Int) : Str := ⟨x.cps.push (encI i)⟩
inductive Bop where | add | sub | mul | fdiv | mod | pow
  deriving DecidableEq
inductive Cop where | eq | ne | lt | le | gt | ge | isn | notn | inn | notin
  deriving DecidableEq
inductive Mode where | raw | pure | fresh | back
  deriving DecidableEq
inductive SrcK where | seq | range1 | range2 | range3 | enum | zip
  deriving DecidableEq
inductive MT where
  | v (i : Nat)
  | t (ts : List MT)
inductive Src where
  | pos (i : Nat)
  | kw (i : Nat)
  | dfl (j : Nat) (v : Val)
  | rest (i : Nat)
inductive ME where
  | var (i : Nat)
  | non | bl (b : Bool) | int (i : Int) | str (x : Str)
  | glob (x : Str)
  | bin (op : Bop) (a b : ME)
  | neg (a : ME)
  | cmp (op : Cop) (a b : ME)
  | chain (o1 o2 : Cop) (a b c : ME)
  | and (es : List ME)
  | or (es : List ME)
  | not (a : ME)
  | ite (c a b : ME)
  | tup (es : List ME)
  | lst (mu : Bool) (es : List ME)
  | ix (a b : ME)
  | slc (a : ME) (lo hi : List ME)
  | attr (a : ME) (f : Str)
  | call (m : Mode) (f : Str) (es : List ME) (kn : List Str) (ks : List ME)
  | make (m : Mode) (c : Str) (es : List ME) (kn : List Str) (ks : List ME)
  | meth (m : Mode) (a : ME) (f : Str) (es : List ME)
  | bcall (f : String) (es : List ME)
  | bmeth (f : String) (a : ME) (es : List ME)
  | isin (a : ME) (ts : List Str)
  | comp (mu : Bool) (elt : ME) (tg : MT) (k : SrcK) (es : List ME) (ifs : List ME)
  | fstr (es : List ME)
  | own1 (len : Bool) (a : ME)
  | own2 (ne : Bool) (a b : ME)
  | lcopy (a : ME)
  | ladd (a b : ME)
  | dict (ks : List Str) (es : List ME)
  | dget (a : ME) (f : Str)
  | dictT
  | dsetd (a : ME) (ks : List ME)
  | dgetT (a : ME) (ks : List ME)
  | dgetL (a : ME) (ks : List ME)
  | methk (m : Mode) (a : ME) (f : Str) (es : List ME) (kn : List Str) (ks : List ME)
  | ownL (ne : Bool) (a b : ME)
  | lam (i : Nat)
  | got (i : Nat)
  | gotall (a : ME)
  | makeS (m : Mode) (c : Str) (e1 e2 : ME) (kn : List Str) (ks : List ME)
  | scall (m : Mode) (f c a : Str) (es : List ME) (kn : List Str) (ks : List ME)
  | lstS (mu : Bool) (e1 e2 : ME)
  | comp2 (mu : Bool) (elt : ME) (tg : MT) (k : SrcK) (es ifs : List ME) (tg1 : MT) (k1 : SrcK) (es1 ifs1 : List ME)
inductive MS where
  | expr (e : ME)
  | set (t : MT) (e : ME)
  | setc (i : Nat) (e : ME)
  | sett (t : MT) (e : ME)
  | par (i j : Nat) (a b : ME)
  | par3 (i j l : Nat) (es : List ME)
  | fld (o : ME) (f : Str) (e : ME)
  | fldaug (o : ME) (f : Str) (op : Bop) (e : ME)
  | sub (o i e : ME)
  | dput (o : ME) (f : Str) (e : ME)
  | dpar (i : Nat) (ks : List Str) (e : ME)
  | aug (i : Nat) (op : Bop) (e : ME)
  | subaug (o i : ME) (op : Bop) (e : ME)
  | ret (e : ME)
  | retN
  | ite (c : ME) (a b : List MS)
  | for_ (t : MT) (k : SrcK) (es : List ME) (body : List MS)
  | while_ (c : ME) (body : List MS)
  | pass | brk | cont
  | never
  | raise_ (c : Str) (es : List ME)
structure MFun where
  np : Nat
  ns : Nat
  body : List MS
mutual
def veq : Val → Val → Bool
  | .non, .non => true
  | .bl a, .bl b => a == b
  | .bl a, .int j => (if a then 1 else 0) == j
  | .int i, .bl b => i == (if b then 1 else 0)
  | .int i, .int j => i == j
  | .str x, .str y => x == y
  | .tup xs, .tup ys => veqs xs ys
  | .lst xs, .lst ys => veqs xs ys
  | _, _ => false
def veqs : List Val → List Val → Bool
  | [], [] => true
  | x :: xs, y :: ys => veq x y && veqs xs ys
  | _, _ => false
end
mutual
def isD : Val → Bool
  | .non | .bl _ | .int _ | .str _ => true
  | .tup xs | .lst xs => isDs xs
  | _ => false
def isDs : List Val → Bool
  | [] => true
  | x :: xs => isD x && isDs xs
end
mutual
def vdep : Val → Nat
  | .tup xs | .lst xs => vdeps xs + 1
  | _ => 0
def vdeps : List Val → Nat
  | [] => 0
  | x :: xs => max (vdep x) (vdeps xs)
end
inductive R (α : Type) where
  | ok (a : α) (st : Store)
  | err (c : Str) (ns : List Str) (vs : List Val) (st : Store)
  | stuck
def R.then_ {α β : Type} (r : R α) (k : α → Store → R β) : R β := match r with
  | .ok a st => k a st
  | .err c ns vs st => .err c ns vs st
  | .stuck => .stuck
theorem R.then_ok {α β : Type} (a : α) (st : Store) (k : α → Store → R β) : (R.ok a st).then_ k = k a st := rfl
def R.of {α : Type} (o : Option α) (st : Store) : R α := match o with
  | some a => .ok a st
  | none => .stuck
theorem R.of_some {α : Type} (a : α) (st : Store) : R.of (some a) st = .ok a st := rfl
abbrev Cal := Str → List Val → Store → R Val
structure Prog where
  fn : Str → Option MFun
  glob : Str → Option Val
  meth : Str → Str → Option Str
  prop : Str → Str → Option Str
  con : Str → Str → Option Val
  stat : Str → Str → Option Str
  bind : Str → Nat → List Str → Option (List Src)
  sub : Str → Str → Option Bool
  fl : Str → Str → Bool
  isg : Str → Bool
  isc : Str → Bool
  fuel : Nat
  exc : Str → Option (List Str)
  xsub : Str → Str → Option Bool
  lam : Cal → Nat → Env → Store → R Val
  lck : Nat → Arguments → Expr → Scope → Bool
  gots : Bool
  alls : Bool
mutual
def frzV (rd : Nat → Option Val) : Val → Option Val
  | .non => some .non
  | .bl b => some (.bl b)
  | .int i => some (.int i)
  | .str x => some (.str x)
  | .tup xs => (frzVs rd xs).map .tup
  | .lst xs => (frzVs rd xs).map .lst
  | .ins c ns vs => (frzVs rd vs).map (.ins c ns)
  | .scr ns => some (.scr ns)
  | .ref i => rd i
  | .clo _ => none
def frzVs (rd : Nat → Option Val) : List Val → Option (List Val)
  | [] => some []
  | x :: xs => match frzV rd x with
    | none => none
    | some y => match frzVs rd xs with
      | none => none
      | some ys => some (y :: ys)
end
def rdK (st : Store) (n : Nat) (sk : Option Nat) : Nat → Nat → Option Val
  | 0, i => if i < n then some (.ref i) else none
  | k + 1, i => if i < n then some (.ref i) else if some i = sk then none else match st[i]? with
    | some (.lst xs) => (frzVs (rdK st n sk k) xs).map .lst
    | some (.ins c ns vs) => (frzVs (rdK st n sk k) vs).map (.ins c ns)
    | none => none
def frzO (rd : Nat → Option Val) : SO → Option SO
  | .lst xs => (frzVs rd xs).map .lst
  | .ins c ns vs => (frzVs rd vs).map (.ins c ns)
def frzOs (rd : Nat → Option Val) : Store → Option Store
  | [] => some []
  | o :: os => match frzO rd o with
    | none => none
    | some b => match frzOs rd os with
      | none => none
      | some bs => some (b :: bs)
def rdV (st : Store) (n : Nat) (v : Val) : Option Val := frzV (rdK st n none 8) v
end Mp
end
section
set_option Elab.async false
set_option linter.all false
set_option maxRecDepth 100000
namespace Mp
open PySem
def lstOf (st : Store) : Val → Option (List Val)
  | .lst xs => some xs
  | .ref i => match st[i]? with
    | some (.lst xs) => some xs
    | _ => none
  | _ => none
def seqOf (st : Store) : Val → Option (List Val)
  | .tup xs => some xs
  | v => lstOf st v
def binI : Bop → Int → Int → Option Int
  | .add, i, j => some (i + j)
  | .sub, i, j => some (i - j)
  | .mul, i, j => if (-(2 ^ 64) < i ∧ i < 2 ^ 64) ∨ (-(2 ^ 64) < j ∧ j < 2 ^ 64) then some (i * j) else none
  | .fdiv, i, j => if 0 < j ∧ j < 1073741824 then some (i / j) else none
  | .mod, i, j => if 0 < j then some (i % j) else none
  | .pow, i, j => if 0 ≤ j ∧ j ≤ 1000000 ∧ i.natAbs < 2 ^ 64 then some (i ^ j.toNat) else none
def binV (st : Store) (op : Bop) (a b : Val) : Option Val :=
  match a, b with
  | .int i, .int j => (binI op i j).map .int
  | .str x, .str y => if op = .add ∧ x.length + y.length ≤ sizeLine then some (.str (x ++ y)) else none
  | .tup xs, .tup ys => if op = .add ∧ xs ≠ [] ∧ xs.length + ys.length ≤ sizeLine then some (.tup (xs ++ ys)) else none
  | .lst xs, .int k => if op = .mul ∧ 0 ≤ k ∧ k ≤ 1000 ∧ xs.length ≤ 1000 then some (.lst (List.replicate k.toNat xs).flatten) else none
  | a, b => match lstOf st a, lstOf st b with
    | some xs, some ys => if op = .add ∧ xs.length + ys.length ≤ sizeLine then some (.lst (xs ++ ys)) else none
    | _, _ => none
def cmpI : Cop → Int → Int → Option Bool
  | .lt, i, j => some (decide (i < j))
  | .le, i, j => some (decide (i ≤ j))
  | .gt, i, j => some (decide (j < i))
  | .ge, i, j => some (decide (j ≤ i))
  | .eq, i, j => some (decide (i = j))
  | .ne, i, j => some (!decide (i = j))
  | _, _, _ => none
def top (st : Store) (v : Val) : Val := match lstOf st v with
  | some xs => .lst xs
  | none => v
def okD (v : Val) : Bool := isD v && decide (vdep v ≤ 60)
def top2 (st : Store) (v : Val) : Val := match lstOf st v with
  | some xs => .lst (xs.map (top st))
  | none => v
def eqD (st : Store) (a b : Val) : Option Bool := if okD (top st a) && okD (top st b) then some (veq (top st a) (top st b)) else if okD (top2 st a) && okD (top2 st b) then some (veq (top2 st a) (top2 st b)) else none
def flat : Val → Bool
  | .non | .bl _ | .int _ | .str _ => true
  | _ => false
def inL (x : Val) (xs : List Val) : Bool := xs.any fun y => veq y x
def inS (x y : Str) : Bool := !(Builtin.Str.occurrences y x 0 y.length 1).isEmpty
def isNon : Val → Bool
  | .non => true
  | _ => false
def isTup : Val → Bool
  | .tup _ => true
  | _ => false
def memV (st : Store) (a b : Val) : Option Bool := match seqOf st b with
  | some xs => if flat a && xs.all flat then some (inL a xs) else if okD (top st a) && okD (top st b) && ((lstOf st b).isSome || isTup b) then some (inL (top st a) xs) else none
  | none => none
def cmpV (st : Store) (op : Cop) (a b : Val) : Option Bool :=
  match op with
  | .isn => match b, a with
    | .non, a => some (isNon a)
    | .bl y, .bl x => some (decide (x = y))
    | _, _ => none
  | .notn => match b, a with
    | .non, a => some (!isNon a)
    | .bl y, .bl x => some (!decide (x = y))
    | _, _ => none
  | .inn => match a, b with
    | .str x, .str y => some (inS x y)
    | a, b => memV st a b
  | .notin => match a, b with
    | .str x, .str y => some (!inS x y)
    | a, b => (memV st a b).map (!·)
  | .eq => eqD st a b
  | .ne => (eqD st a b).map (!·)
  | op => match a, b with
    | .int i, .int j => cmpI op i j
    | _, _ => none
def truV (st : Store) : Val → Option Bool
  | .non => some false
  | .bl b => some b
  | .int i => some (i != 0)
  | .str x => some ((x.length : Int) != 0)
  | .tup xs => some (!xs.isEmpty)
  | v => (lstOf st v).map fun xs => !xs.isEmpty
def ixV (st : Store) (a b : Val) : Option Val :=
  match a, b with
  | .str z, .int i => (L2.atI z.cps.toList i).map fun c => .str ⟨#[c]⟩
  | a, .int i => match seqOf st a with
    | some xs => L2.atI xs i
    | none => none
  | _, _ => none
def cut {α : Type} (xs : List α) (lo hi : Option Int) : List α := (xs.drop (HT.sIx xs.length 0 lo)).take (HT.sIx xs.length xs.length hi - HT.sIx xs.length 0 lo)
def partOf : List Val → Option (Option Int)
  | [] => some none
  | [.int i] => some (some i)
  | _ => none
def slcV (st : Store) (a : Val) (lo hi : Option Int) : Option Val :=
  match a with
  | .tup xs => if HT.sIx xs.length 0 lo = 0 ∧ HT.sIx xs.length xs.length hi = xs.length then none else some (.tup (cut xs lo hi))
  | .str z => some (.str (L2.cutS z lo hi))
  | .scr ns => some (.lst ((cut ns lo hi).map .int))
  | a => (lstOf st a).map fun xs => .lst (cut xs lo hi)
def intL : List Val → Option (List Int)
  | [] => some []
  | .int i :: r => (intL r).map (i :: ·)
  | _ :: _ => none
def boolL : List Val → Option (List Bool)
  | [] => some []
  | .bl b :: r => (boolL r).map (b :: ·)
  | _ :: _ => none
def strL : List Val → Option (List Str)
  | [] => some []
  | .str x :: r => (strL r).map (x :: ·)
  | _ :: _ => none
def smallI (i : Int) : Bool := decide (i.natAbs.log2 < 1920)
def digV (z : Str) : Option Int := if z.length ≤ 640 then PySem.intText? z else none
def bV (st : Store) (f : String) (vs : List Val) : Option Val :=
  match f, vs with
  | "len", [.str z] => some (.int z.length)
  | "len", [v] => (seqOf st v).map fun xs => .int xs.length
  | "sum", [v] => ((lstOf st v).bind intL).map fun ns => .int ns.sum
  | "any", [v] => ((lstOf st v).bind boolL).map fun bs => .bl (bs.any id)
  | "all", [v] => ((lstOf st v).bind boolL).map fun bs => .bl (bs.all id)
  | "int", [.int i] => some (.int i)
  | "int", [.bl b] => some (.int (if b then 1 else 0))
  | "int", [.str z] => (digV z).map .int
  | "str", [.int i] => if smallI i then some (.str (toString i)) else none
  | "list", [v] => (seqOf st v).map .lst
  | "tuple", [v] => (seqOf st v).map .tup
  | "max", [.int i, .int j] => some (.int (if j > i then j else i))
  | "min", [.int i, .int j] => some (.int (if j < i then j else i))
  | _, _ => none
def bmTy (st : Store) (f : String) : Val → Bool
  | .str _ => decide (f = "join")
  | v => (decide (f = "append") || decide (f = "extend") || decide (f = "clear") || decide (f = "pop") || decide (f = "count")) && (lstOf st v).isSome
def appendV (st : Store) : Val → List Val → Option (Val × Store)
  | .ref i, [v] => match st[i]? with
    | some (.lst xs) => if xs.length < sizeLine then some (.non, st.set i (.lst (xs ++ [v]))) else none
    | _ => none
  | _, _ => none
def extendV (st : Store) : Val → List Val → Option (Val × Store)
  | .ref i, [v] => match st[i]?, lstOf st v with
    | some (.lst xs), some ys => if xs.length + ys.length ≤ sizeLine then some (.non, st.set i (.lst (xs ++ ys))) else none
    | _, _ => none
  | _, _ => none
def clearV (st : Store) : Val → List Val → Option (Val × Store)
  | .ref i, [] => match st[i]? with
    | some (.lst _) => some (.non, st.set i (.lst []))
    | _ => none
  | _, _ => none
def popV (st : Store) : Val → List Val → Option (Val × Store)
  | .ref i, [] => match st[i]? with
    | some (.lst xs) => (xs[xs.length - 1]?).map fun y => (y, st.set i (.lst xs.dropLast))
    | _ => none
  | .ref i, [.int 0] => match st[i]? with
    | some (.lst (y :: xs)) => some (y, st.set i (.lst xs))
    | _ => none
  | _, _ => none
def joinV (st : Store) : Val → List Val → Option (Val × Store)
  | .str x, [v] => match (lstOf st v).bind strL with
    | some ys => if (ys.map (·.length)).sum + ys.length * x.length ≤ 16777216 then some (.str (Str.join x ys), st) else none
    | none => none
  | _, _ => none
def countV (st : Store) : Val → List Val → Option (Val × Store)
  | .ref i, [v] => match st[i]? with
    | some (.lst xs) => if okD (.lst xs) && okD (top st v) then some (.int (xs.countP fun z => veq z (top st v)), st) else none
    | _ => none
  | _, _ => none
def bmV (st : Store) (f : String) (a : Val) (vs : List Val) : Option (Val × Store) :=
  if f = "append" then appendV st a vs else if f = "extend" then extendV st a vs else if f = "clear" then clearV st a vs else if f = "join" then joinV st a vs else if f = "pop" then popV st a vs else if f = "count" then countV st a vs else none
def setV (st : Store) (o i v : Val) : Option Store :=
  match o, i with
  | .ref k, .int j => match st[k]? with
    | some (.lst xs) => (L2.ixN xs.length j).map fun n => st.set k (.lst (xs.set n v))
    | _ => none
  | _, _ => none
def insOf (st : Store) : Val → Option (Str × List Str × List Val)
  | .ins c ns vs => some (c, ns, vs)
  | .ref i => match st[i]? with
    | some (.ins c ns vs) => some (c, ns, vs)
    | _ => none
  | _ => none
def fld : List Str → List Val → Str → Option Val
  | n :: ns, v :: vs, f => if n = f then some v else fld ns vs f
  | _, _, _ => none
def putV : List Str → List Val → Str → Val → List Str × List Val
  | n :: ns, v :: vs, f, y => if n = f then (n :: ns, y :: vs) else let r := putV ns vs f y; (n :: r.1, v :: r.2)
  | _, _, f, y => ([f], [y])
def dctOf (st : Store) (v : Val) : Option (List Str × List Val) := match insOf st v with
  | some (c, ns, vs) => if c = dN then some (ns, vs) else none
  | none => none
def dgetV (st : Store) (v : Val) (f : Str) : Option Val := (dctOf st v).bind fun p => fld p.1 p.2 f
def dputV (st : Store) (o : Val) (f : Str) (y : Val) : Option Store :=
  match o with
  | .ref i => match st[i]? with
    | some (.ins c ns vs) => if c = dN ∧ ns.length < 1000 ∧ ns.Nodup then some (st.set i (.ins c (putV ns vs f y).1 (putV ns vs f y).2)) else none
    | _ => none
  | _ => none
def dctT (st : Store) (v : Val) : Option (List Str × List Val) := match insOf st v with
  | some (c, ns, vs) => if c = dT then some (ns, vs) else none
  | none => none
def dgetTV (st : Store) (v : Val) (ks : List Val) : Option Val := match dctT st v, ks with
  | some p, [.str x, .int i] => fld p.1 p.2 (encK x i)
  | _, _ => none
def dgetLV (st : Store) (v : Val) (ks : List Val) : Option Val := match dctT st v, ks with
  | some p, [.str x, .int i] => match fld p.1 p.2 (encK x i) with
    | some y => some y
    | none => some (.ref st.length)
  | _, _ => none
def dsetdV (st : Store) (o : Val) (ks : List Val) : Option (Val × Store) :=
  match o, ks with
  | .ref j, [.str x, .int i] => match st[j]? with
    | some (.ins c ns vs) => if c = dT ∧ ns.length < 1000000 ∧ ns.Nodup then (match fld ns vs (encK x i) with
      | some y => some (y, st ++ [SO.lst []])
      | none => some (Val.ref st.length, List.set (st ++ [SO.lst []]) j (SO.ins c (ns ++ [encK x i]) (vs ++ [Val.ref st.length])))) else none
    | _ => none
  | _, _ => none
def dputsV : Store → Val → List Str → List Val → Option Store
  | st, _, [], [] => some st
  | st, o, f :: fs, y :: ys => match dputV st o f y with
    | some st' => dputsV st' o fs ys
    | none => none
  | _, _, _, _ => none
def fldSet (P : Prog) (st : Store) (o : Val) (f : Str) (y : Val) : Option Store :=
  match o with
  | .ref i => match st[i]? with
    | some (.ins c ns vs) => if ns.length < 1000 ∧ P.fl c f = true ∧ P.isc c = true then some (st.set i (.ins c (putV ns vs f y).1 (putV ns vs f y).2)) else none
    | _ => none
  | _ => none
def tyN (st : Store) : Val → Option Str
  | .non => some "NoneType"
  | .bl _ => some "bool"
  | .int _ => some "int"
  | .str _ => some "str"
  | .tup _ => some "tuple"
  | v => match lstOf st v with
    | some _ => some "list"
    | none => (insOf st v).map (·.1)
def liveOf (v : Val) (xs : List Val) : List (Nat × List Val) := match v with
  | .ref i => [(i, xs)]
  | _ => []
def seqS (st : Store) : List Val → Option (List Val × List (Nat × List Val))
  | [.scr ns] => some (ns.map .int, [])
  | [.str z] => some (z.cps.toList.map fun c => .str ⟨#[c]⟩, [])
  | [.tup xs] => some (xs, [])
  | [v] => (lstOf st v).map fun xs => (xs, liveOf v xs)
  | _ => none
def rng1S : List Val → Option (List Val × List (Nat × List Val))
  | [.int j] => if -16777216 ≤ j ∧ j ≤ 16777216 then some ((List.range j.toNat).map fun (k : Nat) => .int (0 + k), []) else none
  | _ => none
def rng2S : List Val → Option (List Val × List (Nat × List Val))
  | [.int i, .int j] => if -16777216 ≤ i ∧ i ≤ 16777216 ∧ -16777216 ≤ j ∧ j ≤ 16777216 then some ((List.range (j - i).toNat).map fun (k : Nat) => .int (i + k), []) else none
  | _ => none
def rng3S : List Val → Option (List Val × List (Nat × List Val))
  | [.int i, .int j, .int c] => if c = -1 ∧ -16777216 ≤ i ∧ i ≤ 16777216 ∧ -16777216 ≤ j ∧ j ≤ 16777216 then some ((List.range (i - j).toNat).map fun (k : Nat) => .int (i + (k : Nat) * -1), []) else none
  | _ => none
def enumS (st : Store) : List Val → Option (List Val × List (Nat × List Val))
  | [.tup xs] => some (((List.range xs.length).zip xs).map fun p => .tup [.int p.1, p.2], [])
  | [v] => (lstOf st v).map fun xs => (((List.range xs.length).zip xs).map fun p => .tup [.int p.1, p.2], liveOf v xs)
  | _ => none
def zipS (st : Store) : List Val → Option (List Val × List (Nat × List Val))
  | [v, u] => match lstOf st v, lstOf st u with
    | some xs, some ys => some ((xs.zip ys).map fun p => .tup [p.1, p.2], liveOf v xs ++ liveOf u ys)
    | _, _ => none
  | _ => none
def srcV (st : Store) (k : SrcK) (vs : List Val) : Option (List Val × List (Nat × List Val)) := match k with
  | .seq => seqS st vs
  | .range1 => rng1S vs
  | .range2 => rng2S vs
  | .range3 => rng3S vs
  | .enum => enumS st vs
  | .zip => zipS st vs
mutual
def same : Val → Val → Bool
  | .non, .non => true
  | .bl a, .bl b => a == b
  | .int i, .int j => decide (i = j)
  | .str x, .str y => decide (x = y)
  | .tup xs, .tup ys => sames xs ys
  | .lst xs, .lst ys => sames xs ys
  | .ins c ns vs, .ins d ms us => decide (c = d) && (decide (ns = ms) && sames vs us)
  | .scr ns, .scr ms => decide (ns = ms)
  | .ref i, .ref j => decide (i = j)
  | .clo i, .clo j => decide (i = j)
  | _, _ => false
def sames : List Val → List Val → Bool
  | [], [] => true
  | x :: xs, y :: ys => same x y && sames xs ys
  | _, _ => false
end
mutual
theorem same_eq : ∀ (a b : Val), same a b = true → a = b
  | .non, b, h => by cases b <;> first | rfl | cases h
  | .bl a, b, h => by
    cases b <;> first | (cases h; done) | skip
    exact congrArg Val.bl (eq_of_beq h)
  | .int a, b, h => by
    cases b <;> first | (cases h; done) | skip
    exact congrArg Val.int (of_decide_eq_true h)
  | .str a, b, h => by
    cases b <;> first | (cases h; done) | skip
    exact congrArg Val.str (of_decide_eq_true h)
  | .tup xs, b, h => by
    cases b <;> first | (cases h; done) | skip
    exact congrArg Val.tup (sames_eq xs _ h)
  | .lst xs, b, h => by
    cases b <;> first | (cases h; done) | skip
    exact congrArg Val.lst (sames_eq xs _ h)
  | .ins c ns vs, b, h => by
    cases b <;> first | (cases h; done) | skip
    rename_i d ms us
    replace h : (decide (c = d) && (decide (ns = ms) && sames vs us)) = true := h
    simp only [Bool.and_eq_true, decide_eq_true_eq] at
                                                       h
    obtain ⟨rfl, rfl, h3⟩ := h
    rw [sames_eq vs us h3]
  | .scr ns, b, h => by
    cases b <;> first | (cases h; done) | skip
    exact congrArg Val.scr (of_decide_eq_true h)
  | .ref i, b, h => by
    cases b <;> first | (cases h; done) | skip
    exact congrArg Val.ref (of_decide_eq_true h)
  | .clo i, b, h => by
    cases b <;> first | (cases h; done) | skip
    exact congrArg Val.clo (of_decide_eq_true h)
theorem sames_eq : ∀ (a b : List Val), sames a b = true → a = b
  | [], b, h => by cases b <;> first | rfl | cases h
  | x :: xs, b, h => by
    cases b with
    | nil => cases h
    | cons y ys =>
      replace h : (same x y && sames xs ys) = true := h
      rw [Bool.and_eq_true] at h
      rw [same_eq x y h.1, sames_eq xs ys h.2]
end
mutual
theorem same_refl : ∀ a : Val, same a a = true
  | .non => rfl
  | .bl a => by cases a <;> rfl
  | .int a => decide_eq_true rfl
  | .str a => decide_eq_true rfl
  | .tup xs => sames_refl xs
  | .lst xs => sames_refl xs
  | .ins c ns vs => by
    show (decide (c = c) && (decide (ns = ns) && sames vs vs)) = true
    simp [sames_refl vs]
  | .scr ns => decide_eq_true rfl
  | .ref i => decide_eq_true rfl
  | .clo i => decide_eq_true rfl
theorem sames_refl : ∀ a : List Val, sames a a = true
  | [] => rfl
  | x :: xs => by
    show (same x x && sames xs xs) = true
    rw [same_refl x, sames_refl xs]; rfl
end
def sameO : SO → SO → Bool
  | .lst xs, .lst ys => sames xs ys
  | .ins c ns vs, .ins d ms us => decide (c = d) && (decide (ns = ms) && sames vs us)
  | _, _ => false
theorem sameO_eq {a b : SO} (h : sameO a b = true) : a = b := by
  cases a <;> cases b <;> first | (cases h; done) | skip
  · exact congrArg SO.lst (sames_eq _ _ h)
  · rename_i c ns vs d ms us
    replace h : (decide (c = d) && (decide (ns = ms) && sames vs us)) = true := h
    simp only [Bool.and_eq_true, decide_eq_true_eq] at
                                                       h
    obtain ⟨rfl, rfl, h3⟩ := h
    rw [sames_eq vs us h3]
theorem sameO_refl (a : SO) : sameO a a = true := by
  cases a with
  | lst xs => exact sames_refl xs
  | ins c ns vs =>
    show (decide (c = c) && (decide (ns = ns) && sames vs vs)) = true
    simp [sames_refl vs]
def begins : Store → Store → Bool
  | [], _ => true
  | _ :: _, [] => false
  | a :: as, b :: bs => sameO a b && begins as bs
theorem begins_eq : ∀ {a b : Store}, begins a b = true → b.take a.length = a
  | [], _, _ => by simp
  | _ :: _, [], h => by cases h
  | a :: as, b :: bs, h => by
    replace h : (sameO a b && begins as bs) = true := h
    rw [Bool.and_eq_true] at h
    rw [List.length_cons, List.take_succ_cons, ← sameO_eq h.1, begins_eq h.2]
theorem begins_app : ∀ (a b : Store), begins a (a ++ b) = true
  | [], _ => rfl
  | a :: as, b => by
    show (sameO a a && begins as (as ++ b)) = true
    rw [sameO_refl, begins_app as b]; rfl
theorem begins_refl (a : Store) : begins a a = true := by
  have := begins_app a []
  rwa [List.append_nil] at this
def stillB (st : Store) : List (Nat × List Val) → Bool
  | [] => true
  | p :: l => (match st[p.1]? with
    | some (.lst ys) => sames p.2 ys
    | _ => false) && stillB st l
def still (st : Store) (l : List (Nat × List Val)) : Prop := ∀ p ∈ l, st[p.1]? = some (.lst p.2)
theorem still_of {st : Store} : ∀ {l : List (Nat × List Val)}, stillB st l = true → still st l
  | [], _, p, h => by cases h
  | q :: l, h, p, hp => by
    unfold stillB at h
    rw [Bool.and_eq_true] at h
    rcases List.mem_cons.mp hp with e |
                                        hp
    · subst e
      have h1 := h.1
      split at h1
      · rename_i ys e2
        rw [e2, sames_eq _ _ h1]
      · cases h1
    · exact still_of h.2 p hp
mutual
def bindT : MT → Val → Env → Option Env
  | .v i, v, env => if i < env.length then some (env.set i (some v)) else none
  | .t ts, .tup vs, env => bindTs ts vs env
  | .t ts, .lst vs, env => bindTs ts vs env
  | .t _, _, _ => none
def bindTs : List MT → List Val → Env → Option Env
  | [], [], env => some env
  | t :: ts, v :: vs, env => match bindT t v env with
    | some env' => bindTs ts vs env'
    | none => none
  | _, _, _ => none
end
mutual
def slots : MT → List Nat
  | .v i => [i]
  | .t ts => slotsL ts
def slotsL : List MT → List Nat
  | [] => []
  | t :: ts => slots t ++ slotsL ts
end
def wipeE (env : Env) : List Nat → Env
  | [] => env
  | v :: vs => (wipeE env vs).set v none
def finish (m : Mode) (st : Store) (r : R Val) : R Val := match m with
  | .raw => r
  | .back => r.then_ fun v st' => if st.length ≤ st'.length then (match rdV st' st.length v, frzOs (rdK st' st.length none 8) (st'.take st.length) with
    | some y, some base => .ok y base
    | _, _ => .stuck) else .stuck
  | .pure => r.then_ fun v st' => if begins st st' = true then (match rdV st' st.length v with
    | some y => .ok y st
    | none => .stuck) else .stuck
  | .fresh => r.then_ fun v st' => if begins st st' = true then (match v with
    | .ref i => if st.length ≤ i then (match st'[i]? with
      | some (.lst xs) => match frzVs (rdK st' st.length (some i) 8) xs with
        | some ys => .ok (.ref st.length) (st ++ [.lst ys])
        | none => .stuck
      | _ => .stuck) else .stuck
    | _ => .stuck) else .stuck
end Mp
end
section
set_option Elab.async false
set_option linter.all false
set_option maxRecDepth 100000
namespace Mp
open PySem
inductive Fl where
  | next (env : Env) | ret (v : Val) | brk (env : Env) | cont (env : Env)
def noErr {α : Type} : R α → R α
  | .ok a st => .ok a st
  | _ => .stuck
def compL (f : Val → Store → R (Option Val)) (live : List (Nat × List Val)) : List Val → List Val → Store → R (List Val)
  | [], acc, st => if stillB st live = true then .ok acc st else .stuck
  | x :: r, acc, st => if stillB st live = true then (noErr (f x st)).then_ fun o st' => match o with
      | some y => compL f live r (acc ++ [y]) st'
      | none => compL f live r acc st'
    else .stuck
def comp2L (f : Val → List Val → Store → R (List Val)) (live : List (Nat × List Val)) : List Val → List Val → Store → R (List Val)
  | [], acc, st => if stillB st live = true then .ok acc st else .stuck
  | x :: r, acc, st => if stillB st live = true then (noErr (f x acc st)).then_ fun acc' st' => comp2L f live r acc' st'
    else .stuck
def loopF (step : Val → Env → Store → R Fl) (live : List (Nat × List Val)) : List Val → Env → Store → R Fl
  | [], env, st => if stillB st live = true then .ok (.next env) st else .stuck
  | x :: r, env, st => if stillB st live = true then (step x env st).then_ fun f st' => match f with
      | .next env' => loopF step live r env' st'
      | .cont env' => loopF step live r env' st'
      | .brk env' => .ok (.next env') st'
      | .ret v => .ok (.ret v) st'
    else .stuck
def loopW (c : Env → Store → R Bool) (step : Env → Store → R Fl) : Nat → Env → Store → R Fl
  | 0, _, _ => .stuck
  | n + 1, env, st => (c env st).then_ fun b st1 => match b with
    | false => .ok (.next env) st1
    | true => (step env st1).then_ fun f st' => match f with
      | .next env' => loopW c step n env' st'
      | .cont env' => loopW c step n env' st'
      | .brk env' => .ok (.next env') st'
      | .ret v => .ok (.ret v) st'
section
variable (P : Prog) (Φ : Cal)
def srcs (vs ks : List Val) : List Src → Option (List Val)
  | [] => some []
  | .pos i :: r => match vs[i]? with
    | some v => (srcs vs ks r).map (v :: ·)
    | none => none
  | .kw i :: r => match ks[i]? with
    | some v => (srcs vs ks r).map (v :: ·)
    | none => none
  | .dfl _ v :: r => (srcs vs ks r).map (v :: ·)
  | .rest i :: r => if (vs.drop i).length ≤ 1000 then (srcs vs ks r).map (.tup (vs.drop i) :: ·) else none
def callM (m : Mode) (f : Str) (kn : List Str) (vs ks : List Val) (st : Store) : R Val :=
  match P.bind f vs.length kn with
  | none => .stuck
  | some tp => match srcs vs ks tp with
    | none => .stuck
    | some args => finish m st (Φ f args st)
def makeM (m : Mode) (c : Str) (kn : List Str) (vs ks : List Val) (st : Store) : R Val :=
  match P.meth c "__init__" with
  | none => .stuck
  | some f => if P.isc c then match P.bind f (vs.length + 1) kn with
    | none => .stuck
    | some tp => match srcs (.ref st.length :: vs) ks tp with
      | none => .stuck
      | some args => finish m st ((Φ f args (st ++ [.ins c [] []])).then_ fun v st' => match v with
        | .non => .ok (.ref st.length) st'
        | _ => .stuck)
    else .stuck
def methG (a : Val) (f : Str) (n : Nat) (st : Store) : Option Str :=
  match insOf st a with
  | none => none
  | some (c, ns, ws) => match P.isc c, fld ns ws f, P.meth c f with
    | true, none, some g => match P.bind g n [] with
      | some _ => some g
      | none => none
    | _, _, _ => none
def methK (a : Val) (f : Str) (n : Nat) (kn : List Str) (st : Store) : Option Str :=
  match insOf st a with
  | none => none
  | some (c, ns, ws) => match P.isc c, fld ns ws f, P.meth c f with
    | true, none, some g => match P.bind g n kn with
      | some _ => some g
      | none => none
    | _, _, _ => none
def attrM (a : Val) (f : Str) (st : Store) : R Val :=
  match insOf st a with
  | none => .stuck
  | some (c, ns, ws) => if P.isc c then (match P.prop c f with
    | some g => noErr (finish .pure st (Φ g [a] st))
    | none => match fld ns ws f with
      | some v => if P.fl c f then .ok v st else .stuck
      | none => R.of (P.con c f) st) else .stuck
def cmpM (P : Prog) (Φ : Cal) (op : Cop) (a b : Val) (st : Store) : R Val := R.of ((cmpV st op a b).map .bl) st
def bcallM (f : String) (vs : List Val) (st : Store) : R Val := R.of (bV st f vs) st
def isT (st : Store) (v : Val) (t : Str) : Option Bool := (tyN st v).bind fun n => if (insOf st v).isSome && !P.isc n then none else P.sub n t
def isTs (st : Store) (v : Val) : List Str → Option Bool
  | [] => some false
  | t :: ts => match isT P st v t with
    | none => none
    | some true => some true
    | some false => isTs st v ts
def specM (g : Str) (args : List Val) (st : Store) : R Val := noErr (callM P Φ .pure g [] args [] st)
def back1 (len : Bool) : Val → Store → R Val := fun r st => match len, r with
  | true, .int n => if 0 ≤ n ∧ n < 9223372036854775808 then .ok (.int n) st else .stuck
  | false, .str z => .ok (.str z) st
  | _, _ => .stuck
def name1 (len : Bool) : Str := if len = true then "__len__" else "__repr__"
def own1M (len : Bool) (v : Val) (st : Store) : R Val := match insOf st v with
  | some (c, _, _) => if P.isc c = true then (match P.meth c (name1 len) with
    | some g => (specM P Φ g [v] st).then_ (back1 len)
    | none => .stuck) else .stuck
  | none => .stuck
def besideB (c : Str) (st : Store) (b : Val) : Bool := match tyN st b with
  | some n => !((insOf st b).isSome && !P.isc n) && (decide (n = c) || decide (P.sub n c = some false))
  | none => false
def back2 (ne : Bool) : Val → Store → R Val := fun r st => match r with
  | .bl v => .ok (.bl (xor ne v)) st
  | _ => .stuck
def own2M (ne : Bool) (a b : Val) (st : Store) : R Val := match insOf st a with
  | some (c, _, _) => if P.isc c = true ∧ besideB P c st b = true then (match P.meth c "__eq__" with
    | some g => (specM P Φ g [a, b] st).then_ (back2 ne)
    | none => .stuck) else .stuck
  | none => .stuck
def isTr : R Val → Bool
  | .ok (.bl true) _ => true
  | _ => false
def pairsB (st : Store) : List Val → List Val → Bool
  | [], [] => true
  | x :: xs, y :: ys => isTr (own2M P Φ false x y st) && (insOf st y).isSome && pairsB st xs ys
  | _, _ => false
def ownLM (ne : Bool) (a b : Val) (st : Store) : R Val := match lstOf st a, lstOf st b with
  | some xs, some ys => if pairsB P Φ st xs ys = true then .ok (.bl !ne) st else .stuck
  | _, _ => .stuck
def fmt : Val → Option Val
  | .str y => some (.str y)
  | .int i => if smallI i then some (.str (toString i)) else none
  | _ => none
def anyX (P : Prog) (c : Str) : List Str → Option Bool
  | [] => some false
  | t :: ts => match P.xsub c t with
    | none => none
    | some true => some true
    | some false => anyX P c ts
def fieldX {α : Type} (is : List Str → Option Bool) (look : Str → Option α) (non : α) : List (List Str × Str) → Option α
  | [] => some non
  | (cs, f) :: r => match is cs with
    | none => none
    | some true => look f
    | some false => fieldX is look non r
def fieldL : List (List Str × Str) := [(["BadBook"], "part"), (["TooLow"], "least"), (["BadRow"], "index"), (["BadFault"], "word"), (["BadWish"], "wish"), (["BadCount", "BadLimit"], "value"), (["BadText"], "line"), (["BadName", "Taken", "NoBook"], "name"), (["Full"], "bound"), (["BadCommand"], "at")]
def gotR (P : Prog) : R Val → R Val
  | .ok v st => .ok (.tup [.str Str.empty, v]) st
  | .err c ns vs st => match P.exc c, fld ns vs "code", fieldX (anyX P c) (fld ns vs) .non fieldL with
    | some fs, some cv, some v => if ns = fs ++ [("code" : Str)] then .ok (.tup [cv, v]) st else .stuck
    | _, _, _ => .stuck
  | .stuck => .stuck
def gotF (P : Prog) (f : Nat → Store → R Val) : Val → Store → R (Option Val) := fun x st => match x with
  | .clo i => (gotR P (f i st)).then_ fun v st => .ok (some v) st
  | _ => .stuck
def raiseM (P : Prog) (c : Str) (vs : List Val) (st : Store) : R Fl := match P.exc c with
  | some fs => if vs.length = fs.length then .err c (fs ++ [("code" : Str)]) (vs ++ [.str c]) st else .stuck
  | none => .stuck
def asB : R Val → R Bool
  | .ok (.bl b) st => .ok b st
  | .err c ns vs st => .err c ns vs st
  | _ => .stuck
mutual
def evalE : ME → Env → Store → R Val
  | .var i, env, st => match env[i]? with
    | some (some v) => .ok v st
    | _ => .stuck
  | .non, _, st => .ok .non st
  | .bl b, _, st => .ok (.bl b) st
  | .int i, _, st => .ok (.int i) st
  | .str x, _, st => .ok (.str x) st
  | .glob x, _, st => R.of (P.glob x) st
  | .bin op a b, env, st => (evalE a env st).then_ fun x st => (evalE b env st).then_ fun y st => R.of (binV st op x y) st
  | .neg a, env, st => (evalE a env st).then_ fun x st => match x with
    | .int i => .ok (.int (-i)) st
    | _ => .stuck
  | .cmp op a b, env, st => (evalE a env st).then_ fun x st => (evalE b env st).then_ fun y st => cmpM P Φ op x y st
  | .chain o1 o2 a b c, env, st => (evalE a env st).then_ fun x st => (evalE b env st).then_ fun y st => match cmpV st o1 x y with
    | none => .stuck
    | some false => .ok (.bl false) st
    | some true => (evalE c env st).then_ fun z st => R.of ((cmpV st o2 y z).map .bl) st
  | .and es, env, st => andE es env st
  | .or es, env, st => orE es env st
  | .not a, env, st => (evalE a env st).then_ fun x st => match x with
    | .bl b => .ok (.bl !b) st
    | _ => .stuck
  | .ite c a b, env, st => (evalT c env st).then_ fun k st => match k with
    | true => evalE a env st
    | false => evalE b env st
  | .tup es, env, st => (evalEs es env st).then_ fun vs st => .ok (.tup vs) st
  | .lst mu es, env, st => (evalEs es env st).then_ fun vs st => match mu with
    | true => .ok (.ref st.length) (st ++ [.lst vs])
    | false => .ok (.lst vs) st
  | .ix a b, env, st => (evalE a env st).then_ fun x st => (evalE b env st).then_ fun y st => R.of (ixV st x y) st
  | .slc a lo hi, env, st => (evalE a env st).then_ fun x st => (evalEs lo env st).then_ fun l st => match partOf l with
    | none => .stuck
    | some l => (evalEs hi env st).then_ fun h st => match partOf h with
      | none => .stuck
      | some h => R.of (slcV st x l h) st
  | .attr a f, env, st => (evalE a env st).then_ fun x st => attrM P Φ x f st
  | .call m f es kn ks, env, st => (evalEs es env st).then_ fun vs st => (evalEs ks env st).then_ fun zs st => callM P Φ m f kn vs zs st
  | .make m c es kn ks, env, st => (evalEs es env st).then_ fun vs st => (evalEs ks env st).then_ fun zs st => makeM P Φ m c kn vs zs st
  | .scall m f c a es kn ks, env, st => (evalEs es env st).then_ fun vs st => (evalEs ks env st).then_ fun zs st => callM P Φ m f kn vs zs st
  | .lstS mu e1 e2, env, st => (evalE e1 env st).then_ fun x st => match seqOf st x with
    | none => .stuck
    | some xs => (evalE e2 env st).then_ fun y st => if xs.length + 1 ≤ sizeLine then (match mu with
      | true => .ok (.ref st.length) (st ++ [.lst (xs ++ [y])])
      | false => .ok (.lst (xs ++ [y])) st) else .stuck
  | .makeS m c e1 e2 kn ks, env, st => (evalE e1 env st).then_ fun v st => (evalE e2 env st).then_ fun x st => match seqOf st x with
    | none => .stuck
    | some xs => (evalEs ks env st).then_ fun zs st => makeM P Φ m c kn (v :: xs) zs st
  | .meth m a f es, env, st => (evalE a env st).then_ fun x st => match methG P x f (es.length + 1) st with
    | none => .stuck
    | some g => (evalEs es env st).then_ fun vs st => callM P Φ m g [] (x :: vs) [] st
  | .methk m a f es kn ks, env, st => (evalE a env st).then_ fun x st => match methK P x f (es.length + 1) kn st with
    | none => .stuck
    | some g => (evalEs es env st).then_ fun vs st => (evalEs ks env st).then_ fun zs st => callM P Φ m g kn (x :: vs) zs st
  | .bcall f es, env, st => (evalEs es env st).then_ fun vs st => bcallM f vs st
  | .bmeth f a es, env, st => (evalE a env st).then_ fun x st => match bmTy st f x with
    | false => .stuck
    | true => (evalEs es env st).then_ fun vs st => match bmV st f x vs with
      | some (v, st') => .ok v st'
      | none => .stuck
  | .isin a ts, env, st => (evalE a env st).then_ fun x st => R.of ((isTs P st x ts).map .bl) st
  | .comp mu elt tg k es ifs, env, st => ((evalEs es env st).then_ fun vs st => R.of (srcV st k vs) st).then_ fun p st => if p.1.length ≤ sizeLine then (compL (fun x st => match bindT tg x (wipeE env (slots tg)) with
        | none => .stuck
        | some env' => (testL ifs env' st).then_ fun b st => match b with
          | true => (evalE elt env' st).then_ fun y st => .ok (some y) st
          | false => .ok none st) p.2 p.1 [] st).then_ fun ys st => match mu with
      | true => .ok (.ref st.length) (st ++ [.lst ys])
      | false => .ok (.lst ys) st else .stuck
  | .comp2 mu elt tg k es ifs tg1 k1 es1 ifs1, env, st => ((evalEs es env st).then_ fun vs st => R.of (srcV st k vs) st).then_ fun p st => (comp2L (fun x acc st => match bindT tg x (wipeE env (slots tg ++ slots tg1)) with
        | none => .stuck
        | some env' => (testL ifs env' st).then_ fun b st => match b with
          | true => ((evalEs es1 env' st).then_ fun vs st => R.of (srcV st k1 vs) st).then_ fun p st => if acc.length + p.1.length ≤ sizeLine then compL (fun x st => match bindT tg1 x (wipeE env' (slots tg1)) with
              | none => .stuck
              | some env' => (testL ifs1 env' st).then_ fun b st => match b with
                | true => (evalE elt env' st).then_ fun y st => .ok (some y) st
                | false => .ok none st) p.2 p.1 acc st else .stuck
          | false => .ok acc st) p.2 p.1 [] st).then_ fun ys st => match mu with
      | true => .ok (.ref st.length) (st ++ [.lst ys])
      | false => .ok (.lst ys) st
  | .fstr es, env, st => fmtL es Str.empty env st
  | .own1 o a, env, st => (evalE a env st).then_ fun x st => own1M P Φ o x st
  | .lcopy a, env, st => (evalE a env st).then_ fun x st => match seqOf st x with
    | some xs => .ok (.ref st.length) (st ++ [.lst xs])
    | none => .stuck
  | .own2 o a b, env, st => (evalE a env st).then_ fun x st => (evalE b env st).then_ fun y st => own2M P Φ o x y st
  | .ownL o a b, env, st => (evalE a env st).then_ fun x st => (evalE b env st).then_ fun y st => ownLM P Φ o x y st
  | .ladd a b, env, st => (evalE a env st).then_ fun x st => (evalE b env st).then_ fun y st => match lstOf st x, lstOf st y with
    | some xs, some ys => if xs.length + ys.length ≤ sizeLine then .ok (.ref st.length) (st ++ [.lst (xs ++ ys)]) else .stuck
    | _, _ => .stuck
  | .dict ks es, env, st => (evalEs es env st).then_ fun vs st => .ok (.ref st.length) (st ++ [.ins dN ks vs])
  | .dget a f, env, st => (evalE a env st).then_ fun x st => R.of (dgetV st x f) st
  | .dictT, _, st => .ok (.ref st.length) (st ++ [.ins dT [] []])
  | .dgetT a ks, env, st => (evalE a env st).then_ fun x st => (evalEs ks env st).then_ fun ys st => R.of (dgetTV st x ys) st
  | .dgetL a ks, env, st => (evalE a env st).then_ fun x st => match dctT st x with
    | none => .stuck
    | some _ => (evalEs ks env st).then_ fun ys st => R.of (dgetLV st x ys) (st ++ [.lst []])
  | .dsetd a ks, env, st => (evalE a env st).then_ fun x st => match dctT st x with
    | none => .stuck
    | some _ => (evalEs ks env st).then_ fun ys st => match dsetdV st x ys with
      | some (v, st') => .ok v st'
      | none => .stuck
  | .lam i, _, st => .ok (.clo i) st
  | .got i, env, st => gotR P (P.lam Φ i env st)
  | .gotall a, env, st => (evalE a env st).then_ fun x st => match lstOf st x with
    | some xs => if xs.length ≤ sizeLine then (compL (gotF P fun i st => P.lam Φ i env st) (liveOf x xs) xs [] st).then_ fun ys st => .ok (.lst ys) st else .stuck
    | none => .stuck
def evalEs : List ME → Env → Store → R (List Val)
  | [], _, st => .ok [] st
  | e :: es, env, st => (evalE e env st).then_ fun v st => (evalEs es env st).then_ fun vs st => .ok (v :: vs) st
def andE : List ME → Env → Store → R Val
  | [], _, _ => .stuck
  | [e], env, st => evalE e env st
  | e :: e' :: es, env, st => (evalE e env st).then_ fun v st => match v with
    | .bl true => andE (e' :: es) env st
    | .bl false => .ok (.bl false) st
    | _ => .stuck
def orE : List ME → Env → Store → R Val
  | [], _, _ => .stuck
  | [e], env, st => evalE e env st
  | e :: e' :: es, env, st => (evalE e env st).then_ fun v st => match v with
    | .bl false => orE (e' :: es) env st
    | .bl true => .ok (.bl true) st
    | _ => .stuck
def fmtL : List ME → Str → Env → Store → R Val
  | [], acc, _, st => .ok (.str acc) st
  | e :: es, acc, env, st => (evalE e env st).then_ fun v st => match fmt v with
    | some (.str y) => if (acc ++ y).length ≤ sizeLine then fmtL es (acc ++ y) env st else .stuck
    | _ => .stuck
def evalT : ME → Env → Store → R Bool
  | .and es, env, st => andT es env st
  | .or es, env, st => orT es env st
  | .not a, env, st => (evalT a env st).then_ fun b st => .ok (!b) st
  | .cmp op a b, env, st => asB ((evalE a env st).then_ fun x st => (evalE b env st).then_ fun y st => cmpM P Φ op x y st)
  | .chain o1 o2 a b c, env, st => asB ((evalE a env st).then_ fun x st => (evalE b env st).then_ fun y st => match cmpV st o1 x y with
    | none => .stuck
    | some false => .ok (.bl false) st
    | some true => (evalE c env st).then_ fun z st => R.of ((cmpV st o2 y z).map .bl) st)
  | .ite _ _ _, _, _ => .stuck
  | .own2 o a b, env, st => asB ((evalE a env st).then_ fun x st => (evalE b env st).then_ fun y st => own2M P Φ o x y st)
  | .ownL o a b, env, st => asB ((evalE a env st).then_ fun x st => (evalE b env st).then_ fun y st => ownLM P Φ o x y st)
  | .var i, env, st => match env[i]? with
    | some (some v) => R.of (truV st v) st
    | _ => .stuck
  | .bl b, _, st => .ok b st
  | .glob x, _, st => .stuck
  | .attr a f, env, st => ((evalE a env st).then_ fun x st => attrM P Φ x f st).then_ fun v st => R.of (truV st v) st
  | .call m f es kn ks, env, st => ((evalEs es env st).then_ fun vs st => (evalEs ks env st).then_ fun zs st => callM P Φ m f kn vs zs st).then_ fun v st => R.of (truV st v) st
  | .meth m a f es, env, st => ((evalE a env st).then_ fun x st => match methG P x f (es.length + 1) st with
    | none => .stuck
    | some g => (evalEs es env st).then_ fun vs st => callM P Φ m g [] (x :: vs) [] st).then_ fun v st => R.of (truV st v) st
  | .bcall f es, env, st => ((evalEs es env st).then_ fun vs st => bcallM f vs st).then_ fun v st => R.of (truV st v) st
  | .ix a b, env, st => ((evalE a env st).then_ fun x st => (evalE b env st).then_ fun y st => R.of (ixV st x y) st).then_ fun v st => R.of (truV st v) st
  | .isin a ts, env, st => ((evalE a env st).then_ fun x st => R.of ((isTs P st x ts).map .bl) st).then_ fun v st => R.of (truV st v) st
  | .dget a f, env, st => ((evalE a env st).then_ fun x st => R.of (dgetV st x f) st).then_ fun v st => R.of (truV st v) st
  | _, _, _ => .stuck
def andT : List ME → Env → Store → R Bool
  | [], _, _ => .stuck
  | [e], env, st => evalT e env st
  | e :: e' :: es, env, st => (evalT e env st).then_ fun b st => match b with
    | true => andT (e' :: es) env st
    | false => .ok false st
def orT : List ME → Env → Store → R Bool
  | [], _, _ => .stuck
  | [e], env, st => evalT e env st
  | e :: e' :: es, env, st => (evalT e env st).then_ fun b st => match b with
    | false => orT (e' :: es) env st
    | true => .ok true st
def testL : List ME → Env → Store → R Bool
  | [], _, st => .ok true st
  | e :: es, env, st => match es with
    | [] => evalT e env st
    | _ => .stuck
end
def fldGet (P : Prog) (st : Store) (x : Val) (f : Str) : Option (Str × Int) := match insOf st x with
  | some (c, ns, vs) => if P.isc c = true ∧ P.fl c f = true then (match fld ns vs f with
    | some (.int i) => some (c, i)
    | _ => none) else none
  | none => none
def binJ (op : Bop) (i : Int) (v : Val) : Option Int := match op, v with
  | .add, .int j => some (i + j)
  | .sub, .int j => some (i - j)
  | _, _ => none
def subGet (st : Store) : Val → Val → Option Int
  | .ref k, .int j => match st[k]? with
    | some (.lst xs) => match L2.atI xs j with
      | some (.int a) => some a
      | _ => none
    | _ => none
  | _, _ => none
mutual
def evalS : MS → Env → Store → R Fl
  | .expr e, env, st => (evalE P Φ e env st).then_ fun _ st => .ok (.next env) st
  | .set t e, env, st => (evalE P Φ e env st).then_ fun v st => match bindT t v env with
    | some env' => .ok (.next env') st
    | none => .stuck
  | .setc i e, env, st => (evalE P Φ e env st).then_ fun v st => if i < env.length then .ok (.next (env.set i (some v))) st else .stuck
  | .sett t e, env, st => (evalE P Φ e env st).then_ fun v st => match bindT t v env with
    | some env' => .ok (.next env') st
    | none => .stuck
  | .par3 i j l es, env, st => (evalEs P Φ es env st).then_ fun vs st => match vs with
    | [u, v, w] => if i < env.length ∧ j < env.length ∧ l < env.length then .ok (.next (((env.set i (some u)).set j (some v)).set l (some w))) st else .stuck
    | _ => .stuck
  | .par i j a b, env, st => (evalE P Φ a env st).then_ fun v st => (evalE P Φ b env st).then_ fun u st =>
    if i < env.length ∧ j < env.length then .ok (.next ((env.set i (some v)).set j (some u))) st else .stuck
  | .fld o f e, env, st => (evalE P Φ e env st).then_ fun v st => (evalE P Φ o env st).then_ fun x st => match fldSet P st x f v with
    | some st' => .ok (.next env) st'
    | none => .stuck
  | .fldaug o f op e, env, st => (evalE P Φ o env st).then_ fun x st => match fldGet P st x f with
    | none => .stuck
    | some (c, i) => (evalE P Φ e env st).then_ fun v st => match binJ op i v with
      | none => .stuck
      | some k => if (insOf st x).map (·.1) = some c then (match fldSet P st x f (.int k) with
          | some st' => .ok (.next env) st'
          | none => .stuck) else .stuck
  | .sub o i e, env, st => (evalE P Φ e env st).then_ fun v st => (evalE P Φ o env st).then_ fun x st => (evalE P Φ i env st).then_ fun y st => match setV st x y v with
    | some st' => .ok (.next env) st'
    | none => .stuck
  | .dput o f e, env, st => (evalE P Φ e env st).then_ fun v st => (evalE P Φ o env st).then_ fun x st => match dputV st x f v with
    | some st' => .ok (.next env) st'
    | none => .stuck
  | .dpar i ks e, env, st => (evalE P Φ e env st).then_ fun v st => match v, env[i]? with
    | .tup vs, some (some x) => (match dputsV st x ks vs with
      | some st' => .ok (.next env) st'
      | none => .stuck)
    | _, _ => .stuck
  | .aug i op e, env, st => match env[i]? with
    | some (some (.int a)) => (evalE P Φ e env st).then_ fun v st => match binJ op a v with
      | some k => .ok (.next (env.set i (some (.int k)))) st
      | none => .stuck
    | _ => .stuck
  | .subaug o i op e, env, st => (evalE P Φ o env st).then_ fun x st => (evalE P Φ i env st).then_ fun y st => match subGet st x y with
    | none => .stuck
    | some a => (evalE P Φ e env st).then_ fun v st => match binJ op a v with
      | none => .stuck
      | some k => match setV st x y (.int k) with
        | some st' => .ok (.next env) st'
        | none => .stuck
  | .ret e, env, st => (evalE P Φ e env st).then_ fun v st => .ok (.ret v) st
  | .retN, _, st => .ok (.ret .non) st
  | .ite c a b, env, st => (evalT P Φ c env st).then_ fun k st => match k with
    | true => evalSs a env st
    | false => evalSs b env st
  | .for_ t k es body, env, st => ((evalEs P Φ es env st).then_ fun vs st => R.of (srcV st k vs) st).then_ fun p st => loopF (fun x env st => match bindT t x env with
        | none => .stuck
        | some env' => evalSs body env' st) p.2 p.1 env st
  | .while_ c body, env, st => loopW (fun env st => evalT P Φ c env st) (fun env st => evalSs body env st) P.fuel env st
  | .pass, env, st => .ok (.next env) st
  | .brk, env, st => .ok (.brk env) st
  | .cont, env, st => .ok (.cont env) st
  | .never, _, _ => .stuck
  | .raise_ c es, env, st => (evalEs P Φ es env st).then_ fun vs st => raiseM P c vs st
def evalSs : List MS → Env → Store → R Fl
  | [], env, st => .ok (.next env) st
  | s :: ss, env, st => (evalS s env st).then_ fun f st => match f with
    | .next env' => evalSs ss env' st
    | f => .ok f st
end
def runF (F : MFun) (args : List Val) (st : Store) : R Val :=
  if args.length = F.np then (evalSs P Φ F.body (args.map some ++ List.replicate (F.ns - args.length) none) st).then_ fun f st => match f with
    | .next _ => .ok .non st
    | .ret v => .ok v st
    | _ => .stuck
  else .stuck
end
def call (P : Prog) : Nat → Cal
  | 0 => fun _ _ _ => .stuck
  | d + 1 => fun f args st => match P.fn f with
    | some F => runF P (call P d) F args st
    | none => .stuck
end Mp
end
section
set_option Elab.async false
set_option linter.all false
set_option maxRecDepth 100000
set_option maxHeartbeats
                         1000000
namespace Mp
open PySem L2 PySem.Spec PyProof.Rows
def NoStar (es : List Expr) : Prop := ∀ env, starEach es env = es.map fun e => (false, eval e env)
theorem NoStar.cons {e : Expr} {es : List Expr} (h : NoStar (e :: es)) (h2 : NoStar es) (env : PySem.Env) : starEach (e :: es) env = (false, eval e env) :: starEach es env := by rw [h, h2]; rfl
theorem NoStar.any {es : List Expr} (h : NoStar es) (pos : Pos) (env : PySem.Env) : (backTo pos (starEach es env)).any (·.1) = false := by
  rw [h]; unfold backTo; simp
theorem NoStar.all {es : List Expr} (h : NoStar es) (pos : Pos) (env : PySem.Env) : (backTo pos (starEach es env)).all (fun x => !x.1) = true := by
  rw [h]; unfold backTo; simp
inductive KwsOk : List Str → List Keyword → Prop
  | nil : KwsOk [] []
  | cons {n : Str} {kn : List Str} {e : Expr} {p : Pos} {kws : List Keyword} (h : KwsOk kn kws) : KwsOk (n :: kn) (⟨some n, e, p⟩ :: kws)
theorem KwsOk.all {kn : List Str} {kws : List Keyword} (h : KwsOk kn kws) (pos : Pos) (env : PySem.Env) : (backToKw pos (keywordEach kws env)).all (·.1.isSome) = true := by
  induction h with
  | nil => rfl
  | cons h ih =>
    show (true && (backToKw pos (keywordEach _ env)).all (·.1.isSome)) = true
    rw [ih]; rfl
theorem KwsOk.names {kn : List Str} {kws : List Keyword} (h : KwsOk kn kws) (pos : Pos) (env : PySem.Env) : (backToKw pos (keywordEach kws env)).filterMap (·.1) = kn := by
  induction h with
  | nil => rfl
  | @cons n kn e p kws h ih =>
    show List.filterMap (·.1) ((some n, _) :: backToKw pos (keywordEach kws env)) = _
    rw [List.filterMap_cons_some (by rfl), ih]
theorem KwsOk.none {kn : List Str} {kws : List Keyword} (h : KwsOk kn kws) (pos : Pos) (env : PySem.Env) : (backToKw pos (keywordEach kws env)).any (·.1.isNone) = false := by
  induction h with
  | nil => rfl
  | cons h ih =>
    show (false || (backToKw pos (keywordEach _ env)).any (·.1.isNone)) = false
    rw [ih]; rfl
section
variable {X : Cx}
theorem _root_.L2.PE.imp {e : Expr} {t t' : TE} (h : PE X e t) (i : ∀ σ H Q, t' σ H Q → t σ H Q) : PE X e t' := ⟨fun pins s σ H Q I q => h.run pins s σ H Q I (i σ H Q q)⟩
theorem _root_.L2.PT.imp {e : Expr} {t t' : TT} (h : PT X e t) (i : ∀ σ H Q, t' σ H Q → t σ H Q) : PT X e t' := ⟨fun pins s σ H Q I q => h.run pins s σ H Q I (i σ H Q q)⟩
theorem _root_.L2.PA.imp {e : List Expr} {t t' : TA} (h : PA X e t) (i : ∀ σ H Q, t' σ H Q → t σ H Q) : PA X e t' := ⟨fun pos pins s σ H Q I q => h.run pos pins s σ H Q I (i σ H Q q)⟩
theorem _root_.L2.PS.imp {e : Stmt} {t t' : TS} (h : PS X e t) (i : ∀ D σ H, t' D σ H → t D σ H) : PS X e t' := ⟨fun pins s σ H Q I q => h.run pins s σ H Q I (i Q σ H q)⟩
theorem _root_.L2.PSs.imp {e : List Stmt} {t t' : TS} (h : PSs X e t) (i : ∀ D σ H, t' D σ H → t D σ H) : PSs X e t' := ⟨fun pins s σ H Q I q => h.run pins s σ H Q I (i Q σ H q)⟩
end
end Mp
end
section
set_option Elab.async false
set_option linter.all false
set_option maxRecDepth 100000
set_option maxHeartbeats
                         4000000
namespace Mp
open PySem L2 PySem.Spec PyProof.Rows
def isRf : Value → Bool
  | .ref _ => true
  | _ => false
def refsT (t l : List Value) : Bool := l.dropWhile isRf == t
theorem refsT_ind {p : List Value → Prop} {t : List Value} (h0 : p t) (h1 : ∀ c r, p r → p (.ref c :: r)) : ∀ l, refsT t l = true → p l
  | [], e => by
    have e' : ([] : List Value) = t := by
      unfold refsT at e
      exact beq_iff_eq.mp e
    rw [e']; exact h0
  | a :: r, e => by
    cases ha : isRf a with
    | false =>
      unfold refsT at e
      rw [List.dropWhile_cons_of_neg (by rw [ha]; decide)] at e
      rw [beq_iff_eq.mp e]; exact h0
    | true =>
      have e2 : refsT t r = true := by
        unfold refsT at e ⊢
        rwa [List.dropWhile_cons_of_pos ha] at e
      cases a <;> first | (cases ha; done) | skip
      exact h1 _ r (refsT_ind h0 h1 r e2)
structure BaseX (B newId initId : String) (bmB : List Value) : Prop where
  F : ExcBaseFacts B newId initId bmB
  KF : PySem.W.KxsFacts B initId
  pass : ∀ self, PySem.refuseLoop self "__setattr__" bmB = pure ()
  obj : bmB.contains (.type "object") = true
  ne : bmB.isEmpty = false
theorem baseX_VE : BaseX "ValueError" "ValueError.__new__" "ValueError.__init__" [.type "ValueError", .type "Exception", .type "BaseException", .type "object"] :=
  ⟨PySem.F.excBase_ValueError, PySem.W.kxs_ValueError, fun self => PySem.F.store_ValueError.passes self, by decide +kernel, rfl⟩
theorem baseX_IE : BaseX "IndexError" "IndexError.__new__" "IndexError.__init__" [.type "IndexError", .type "LookupError", .type "Exception", .type "BaseException", .type "object"] :=
  ⟨PySem.F.excBase_IndexError, PySem.W.kxs_IndexError, fun self => PySem.F.store_IndexError.passes self, by decide +kernel, rfl⟩
theorem baseX_LE : BaseX "LookupError" "LookupError.__new__" "LookupError.__init__" [.type "LookupError", .type "Exception", .type "BaseException", .type "object"] :=
  ⟨PySem.F.excBase_LookupError, PySem.W.kxs_LookupError, fun self => PySem.F.store_LookupError.passes self, by decide +kernel, rfl⟩
section
variable {B newId initId : String} {bmB : List Value}
theorem BaseX.passes (b : BaseX B newId initId bmB) (self : Value) : ∀ l, refsT bmB l = true → PySem.refuseLoop self "__setattr__" l = pure () :=
  refsT_ind (b.pass self) fun c r h => by rw [refuseLoop_ref]; exact h
theorem refsT_contains {t : List Value} (X : String) : ∀ l, refsT t l = true → l.contains (.type X) = t.contains (.type X) :=
  refsT_ind (p := fun l => l.contains (.type X) = t.contains (.type X)) rfl fun c r h => by rw [List.contains_cons, h]; rfl
theorem refsT_ne {t : List Value} (h : t.isEmpty = false) : ∀ l, refsT t l = true → l.isEmpty = false := refsT_ind (p := fun l => l.isEmpty = false) h fun _ _ _ => rfl
end
end Mp
namespace Mp
open PySem.W PySem.Calls PySem.HandSPX PySem PySem.Spec PyProof.Rows Builtin Builtin.ObjectAttr
section
variable {prog : Program} {w : World} {A : Around} {E : Value → Shared → Prop} {R : Result → Shared → Prop} {hp : Heap} {g : Array GenState} {d : Drawn} {t : Nat} {os : OsState} {B newId initId : String} {bmB : List Value}
theorem err_store (b : BaseX B newId initId bmB) {K : W.Frag} {fld : Str} {tk : Tok} {v : Value} {e C : Addr} {oe : Obj} {od : Option Obj} {cd : ClassData} (kin : K.In hp) (at_ : W.InstAt hp e oe C od) (cls : W.clsIn K C = some cd) (over : refsT bmB cd.mro = true) (non : W.findIn K (.ref C) fld = some none)
    (rest : wpAny (model prog w) A.in1 (storeInOwnDict (.ref e) (.ref C) (.str fld tk) fld v false) (fun fin s' => match fin with
      | .done fl => R (.ok fl) s'
      | .again c2 => c2.quiet = true ∧ codeAny (model prog w) A c2 R s') (fun x s' => R (.error x) s') ⟨hp, g, d, t, os⟩) :
    codeAny (model prog w) A (.call (.builtin "object.__setattr__") ⟨[.ref e, .str fld tk, v], []⟩) R ⟨hp, g, d, t, os⟩ := by
  have nonempty := refsT_ne b.ne _ over
  have anc : W.mroIn K C (.type "object") = some true := by
    unfold W.mroIn
    rw [cls, Option.bind_some, if_neg (by rw [nonempty]; decide), refsT_contains "object" _ over, b.obj]
  have inst : W.Looks (model prog w) hp (isInstance (.ref e) (.type "object")) true := at_.type.andThen (W.looks_mroIn kin anc)
  have sf := F.store_object
  refine codeAny_call_builtin sf.slot.plain sf.entry ?_
  refine W.check_slot (M := model prog w) (s := ⟨hp, g, d, t, os⟩) (i := "object.__setattr__") (owner := "object") (n := "__setattr__") (self := .ref e) (rest := [.str fld tk, v]) (kw := []) sf.kind sf.split inst (sf.args (.ref e) (.str fld tk) v) ?_
  rw [W.osa_eq, refuse_eq]
  have order : W.Looks (model prog w) hp (mroOf (.ref C)) cd.mro := W.Looks.andThen (W.looks_clsIn kin cls) .now
  have taker : W.Looks (model prog w) hp (storeTaker? none) none := .now
  refine wpAny_bind (wpAny_bind (at_.type.at ?_))
  refine wpAny_bind (order.at ?_)
  rw [b.passes _ _ over]
  refine wpAny_pure (wpAny_bind (at_.type.at ?_))
  refine wpAny_bind ((W.looks_findIn kin non).at ?_)
  refine wpAny_bind (taker.at ?_)
  exact rest
theorem err_dict1 {K : W.Frag} {fld : Str} {tk : Tok} {v : Value} {e C : Addr} {fv : Array Value} {cd : ClassData} (kin : K.In hp) (obj : hp.get? e = some { cls := .ref C, data := .fields fv }) (cls : W.clsIn K C = some cd) (dict : cd.hasDict = true) {Qr : Fin → Shared → Prop} {Er : Value → Shared → Prop}
    (go : ∀ h2 tk2, h2.Ns1 hp.objs.size (fun y => if y = fld then some v else none) → Heap.SameBut hp.objs.size ((hp.push { cls := .type "dict", data := .dict #[] }).update e fun o => { o with dict := some hp.objs.size }) h2 → Qr (.done (.ret .none)) ⟨h2, g, d, tk2, os⟩) :
    wpAny (model prog w) A (storeInOwnDict (.ref e) (.ref C) (.str fld tk) fld v false) Qr Er ⟨hp, g, d, t, os⟩ := by
  have ne : hp.objs.size ≠ e := fun z => Nat.lt_irrefl _ (by have := Heap.lt_size obj; rw [← z] at this; exact this)
  have known : W.Looks (model prog w) hp (classData C) cd := W.looks_clsIn kin cls
  obtain ⟨_, _, _, _, _, hasd, _, _, _, _, _⟩ := cd
  cases (show hasd = true from dict)
  unfold storeInOwnDict
  unfold ownDictForStores
  repeat (first
    | with_reducible refine store_in_new ?_ ?_
    | with_reducible refine wpAny_loadPart_at obj ?_
    | with_reducible refine known.at ?_
    | wp_step)
  · exact ⟨_, #[], _,
      (Heap.get?_update_ne _ _ _ _ ne).trans (Heap.get?_push_at rfl rfl),
      rfl, fun _ hm => absurd hm (by simp), fun _ => rfl⟩
  · exact fun h2 tk2 hn hs => go h2 tk2 hn hs
theorem err_dict2 {K : W.Frag} {fld : Str} {tk : Tok} {v : Value} {e C dx : Addr} {fv : Array Value} {cd : ClassData} {m0 : Str → Option Value} {nl : List Str} (kin : K.In hp) (obj : hp.get? e = some { cls := .ref C, dict := some dx, data := .fields fv }) (ns : hp.Ns1 dx m0) (wi : Within m0 nl) (few : nl.length ≤ 1000) (cls : W.clsIn K C = some cd) (dict : cd.hasDict = true) {Qr : Fin → Shared → Prop} {Er : Value → Shared → Prop}
    (go : ∀ h2 tk2, h2.Ns1 dx (fun y => if y = fld then some v else m0 y) → Heap.SameBut dx hp h2 → Qr (.done (.ret .none)) ⟨h2, g, d, tk2, os⟩) :
    wpAny (model prog w) A (storeInOwnDict (.ref e) (.ref C) (.str fld tk) fld v false) Qr Er ⟨hp, g, d, t, os⟩ := by
  have known : W.Looks (model prog w) hp (classData C) cd := W.looks_clsIn kin cls
  obtain ⟨_, _, _, _, _, hasd, _, _, _, _, _⟩ := cd
  cases (show hasd = true from dict)
  unfold storeInOwnDict
  unfold ownDictForStores
  repeat (first
    | with_reducible refine PySem.OEX.store_in_old ns wi few ?_
    | with_reducible refine wpAny_loadPart_at obj ?_
    | with_reducible refine known.at ?_
    | wp_step)
  exact fun h2 tk2 hn hs => go h2 tk2 hn hs
end
end Mp
namespace Mp
open PySem L2 PySem.Spec PyProof.Rows
structure OexG (K : PySem.W.Frag) (C : Addr) (newId : String) (bmB : List Value) : Prop where
  cls : ∃ nm q N bs bm sn sub ab col dd k0 k1 k2 k3 k5, K.lookup C = some (excClassObj nm q C N bs bm true sn sub ab col dd k0 k1 k2 k3 k5 newId) ∧ refsT bmB bm = true
  sa : PySem.W.findIn K (.ref C) "__setattr__" = some (some (.builtin
                                                                      "object.__setattr__"))
  exC : PySem.W.subIn K (.ref C) (.type "BaseException") = some
                                                                true
  tyC : PySem.W.typeIn K (.ref C) = some (.type
                                                "type")
  kC : PySem.W.keepIn K (.ref C) =
                                   true
section
variable {X : Cx} {pins : List (Addr × Obj)} {σ : L2.St} {H : Hp} {s : Shared} {a C dx : Addr} {f : Str} {y : V} {u : Value} {fs : List (Str × V)} {Q : Unit → Shared → Prop} {E : Value → Shared → Prop} {A : Around} {B newId initId : String} {bmB : List Value}
theorem OexG.rec_ (T : OexG X.K C newId bmB) : ∃ cd : ClassData, PySem.W.clsIn X.K C = some cd ∧ refsT bmB cd.mro = true ∧ cd.hasDict = true := by
  obtain ⟨_, _, _, _, bm, _, _, _, _, _, _, _, _, _, _, look, over⟩ := T.cls
  have e : ∃ cd : ClassData, PySem.W.clsIn X.K C = some cd ∧ cd.mro = .ref C :: bm ∧ cd.hasDict = true := by
    unfold PySem.W.clsIn
    rw [look]
    exact ⟨_, rfl, rfl, rfl⟩
  obtain ⟨cd, e1, e2, e3⟩ := e
  exact ⟨cd, e1, by rw [e2]; exact over, e3⟩
theorem ostN (b : BaseX B newId initId bmB) (T : OexG X.K C newId bmB) (I : L2.Inv X pins σ H s) (e : H a = some (exo a C none)) (hno : PySem.W.findIn X.K (.ref C) f = some none) (ry : RelV y u)
    (h : ∀ dx s', H dx = none → dx ≠ a → L2.Inv X pins σ (upd (upd H dx (exd dx [(f, y)])) a (exo a C (some dx))) s' → Q () s') : wpAny (model X.prog X.w) A (setAttr (.ref a) f u) Q E s := by
  obtain ⟨cd, c1, c2, c3⟩ := T.rec_
  obtain ⟨heap, g, d, t, os⟩ := s
  obtain ⟨tr, was⟩ := exo_at I.hok e
  have inst : PySem.W.InstAt heap a _ C none := ⟨was, rfl, rfl, trivial⟩
  refine PySem.W.set_plain I.kIn inst T.sa ?_
  refine err_store b I.kIn inst c1 c2 hno (err_dict1 I.kIn was c1 c3 fun h2 tk2 names same => ?_)
  have lt : a < heap.objs.size := Heap.lt_size was
  have ne : heap.objs.size ≠ a := fun z => Nat.lt_irrefl _ (by rw [z] at lt; exact lt)
  have pushed : (heap.push { cls := .type "dict", data := .dict #[] }).get? a = some _ := Heap.get?_push_of_some _ was
  have now : h2.get? a = some { cls := .ref C, dict := some heap.objs.size, data := .fields #[.ref tr, .none, .none, .none, .bool false, .none] } := (same.2 a ne.symm).trans (Heap.get?_update_self _ pushed rfl)
  have others : ∀ c o, c ≠ a → heap.get? c = some o → h2.get? c = some o := fun c o n q => by
    have far : c ≠ heap.objs.size := fun z => Nat.lt_irrefl _ (by have := Heap.lt_size q; rw [z] at this; exact this)
    exact (same.2 c far).trans ((Heap.get?_update_ne _ _ _ _ n).trans (Heap.get?_push_of_some _ q))
  -- as if the dict were there ahead of the store
  let h1 : Heap := h2.update a fun _ => { cls := .ref C, dict := none, data := .fields #[.ref tr, .none, .none, .none, .bool false, .none] }
  have back : h1.get? a = some { cls := .ref C, dict := none, data := .fields #[.ref tr, .none, .none, .none, .bool false, .none] } := Heap.get?_update_self _ now rfl
  have stay : ∀ c, c ≠ a → h1.get? c = h2.get? c := fun c n => Heap.get?_update_ne _ _ _ _ n
  have keepAll : ∀ c o, heap.get? c = some o → h1.get? c = some o := fun c o q => by
    by_cases n : c = a
    · subst n
      rw [was] at q
      rw [back]; exact q
    · rw [stay c n]; exact others c o n q
  have names1 : h1.Ns1 heap.objs.size fun z => if z = f then some u else none := by
    obtain ⟨o, es, ep, q, r⟩ := names
    exact ⟨o, es, ep, by rw [stay _ ne]; exact q, r⟩
  have J := I.laid (h' := h1) (a := heap.objs.size) (o := exd heap.objs.size [(f, y)]) (t' := tk2) keepAll (Nat.le_refl _) (exd_ok names1 (relO_put (fs := []) ry fun _ => True.intro))
  have J2 := J.write (h' := h2) (x := a) (e := a) (o := exo a C (some heap.objs.size)) (t' := tk2) (by rw [upd_ne ne.symm, e]; exact True.intro) (.inl rfl) (fun c o n q => by rw [← stay c n]; exact q) ⟨_, now⟩ (exo_ok now)
  exact h heap.objs.size _ (I.hok.fresh (Nat.le_refl _)) ne J2
theorem ostO (b : BaseX B newId initId bmB) (T : OexG X.K C newId bmB) (I : L2.Inv X pins σ H s) (e : H a = some (exo a C (some dx))) (ed : H dx = some (exd dx fs)) (hl : fs.length ≤ 900) (hno : PySem.W.findIn X.K (.ref C) f = some none) (ry : RelV y u)
    (h : ∀ s', L2.Inv X pins σ (upd H dx (exd dx ((f, y) :: fs))) s' → Q () s') : wpAny (model X.prog X.w) A (setAttr (.ref a) f u) Q E s := by
  obtain ⟨cd, c1, c2, c3⟩ := T.rec_
  obtain ⟨heap, g, d, t, os⟩ := s
  obtain ⟨tr, was⟩ := exo_at I.hok e
  obtain ⟨m0, names, told⟩ := exd_at I.hok ed
  have wi := within_of told
  obtain ⟨od, _, _, q, _⟩ := id names
  have inst : PySem.W.InstAt heap a _ C (some od) := ⟨was, rfl, rfl, q⟩
  refine PySem.W.set_plain I.kIn inst T.sa ?_
  refine err_store b I.kIn inst c1 c2 hno (err_dict2 I.kIn was names wi (by rw [List.length_map]; omega) c1 c3 fun h2 tk2 after same => ?_)
  have there : ∃ o, h2.get? dx = some o := after.elim fun o ⟨_, _, z, _⟩ => ⟨o, z⟩
  refine h _ (I.write (t' := tk2) (x := dx) (e := dx) (o := exd dx ((f, y) :: fs)) ?_ (.inl rfl) (fun c o n z => (same.2 c n).trans z) there (exd_ok after (relO_put ry told)))
  rw [ed]; exact True.intro
end
def tOsG (K : PySem.W.Frag) (C : Addr) (f : Str) (to te : TE) : TS := fun D σ H => te σ H fun y H1 => to σ H1 fun x H2 => ∃ a : Addr, x = .ref a ∧ PySem.W.findIn K (.ref C) f = some none ∧
  ((H2 a = some (exo a C none) ∧ ∀ dx, H2 dx = none → dx ≠ a → D.nx σ (upd (upd H2 dx (exd dx [(f, y)])) a (exo a C (some dx))))
                                                                                                                                 ∨
    ∃ (dx : Addr) (fs : List (Str × V)), H2 a = some (exo a C (some dx)) ∧ H2 dx = some (exd dx fs) ∧ fs.length ≤ 900 ∧ D.nx σ (upd H2 dx (exd dx ((f, y) ::
                                                                                                                                                             fs))))
theorem ps_osG {X : Cx} {o e : Expr} {to te : TE} {f : Str} {p' pos : Pos} {C : Addr} {B newId initId : String} {bmB : List Value} (b : BaseX B newId initId bmB) (T : OexG X.K C newId bmB) (ho : PE X o to) (he : PE X e te) (hs : swapsWith e (some (.Attribute o f p')) pos.line X.env = pure false) : PS X (.Assign [.Attribute o f p'] e pos) (tOsG X.K C f to te) := by
  refine ⟨fun pins s σ H D I h =>
                                  ?_⟩
  refine plainObj_wpAny_Assign_Attribute (thn (he.run pins s σ H _ I h) fun v s1 ⟨y, H1, I1, r1, q1⟩ => thn (ho.run pins s1 σ H1 _ I1 q1) fun u s2 ⟨x, H2, I2, r2, a, ex, hno, q⟩ => ?_) hs
  subst ex
  obtain rfl : u = Value.ref a :=
                                  r2
  rcases q with ⟨ea, q⟩ | ⟨dx, fs, ea, ed, hl,
                                               q⟩
  · exact ostN b T I2 ea hno r1 fun dx s' n ne J => ⟨σ, _, J, q dx n ne⟩
  · exact ostO b T I2 ea ed hl hno r1 fun s' J => ⟨σ, _, J, q⟩
end Mp
end
section
set_option Elab.async false
set_option linter.all false
set_option maxRecDepth 100000
set_option maxHeartbeats
                         4000000
namespace Mp
open PySem L2 PySem.Spec PyProof.Rows
structure InitF (prog : Program) (K : PySem.W.Frag) (C f : Addr) (fd : FuncData) (body : List Stmt) (ps : List Str) (initId : String) : Prop where
  lk : ∃ oc od osl, K.lookup f = some ⟨oc, od, .func fd, osl⟩
  body_ : fd.body = .stmts body
  gl : fd.globals = mainGlobals
  bl : fd.builtins = builtinsNs
  clo : ∃ cc cl cld csl, fd.closure = [(("__class__" : Str), cc)] ∧ K.lookup cc = some ⟨cl, cld, .cell (some (.ref C)), csl⟩
  code : ∃ cda oc od vs osl file tf, fd.code = .ref cda ∧ K.lookup cda = some ⟨oc, od, .fields vs, osl⟩ ∧ vs[2]? = some (.str file tf) ∧ ((prog.main.file : Str) == file) = true
  hcd : PySem.W.codeIn K fd.code fd.qualname = true
  kind : fd.scope.kind = .function
  co : fd.scope.isCoroutine = false
  gen : fd.scope.isGenerator = false
  noc : ∀ x ∈ fd.scope.names, x.2 ≠ .cell
  loc : ∀ x ∈ ps, fd.scope.names.lookup x = some .local
  free : ∀ y, fd.scope.names.lookup y = some .free → y = "__class__"
  cfree : fd.scope.names.lookup ("__class__" : Str) = some .free
  sup : fd.scope.names.lookup ("super" : Str) = some .globalImplicit
  par : (fd.params.posonlyargs ++ fd.params.args).head?.map (·.arg) = ps.head?
  nosup : PySem.W.nsIn K mainGlobals "super" = some none
  top : (prog.main.scope.names.lookup ("super" : Str)).isSome = false
  opq : PySem.W.nsIn K cStatics "thirdparty.any" = some none
  self : PySem.W.mroIn K C (.ref C) = some true
  up : PySem.W.ks_superIn K C C "__init__" = some (some (.builtin initId))
def cxI (CX : CXT) (P : Program) (w : World) (K : PySem.W.Frag) (mg : Str → Option Value) (base : Heap) (N : List Str) (fd : FuncData) (f : Addr) (A : Around) (outer : List PySem.Env) (s : Shared) (H : Hp) (E : XK) : Cx where
  prog := P
  w := w
  K := K
  mg := mg
  base := base
  A := A.deeper (callEnv fd s.heap.objs.size f)
  N := N
  s_0 := s
  H_0 := H
  env := callEnv fd s.heap.objs.size f
  outer := outer
  stack := callEnv fd s.heap.objs.size f :: outer
  ex := []
  fn := fun _ => false
  calm := true
  pn := []
  xe := fun e s' => wpAny (model P w) (A.deeper (callEnv fd s.heap.objs.size f)) (leaving (callEnv fd s.heap.objs.size f) e) (fun _ s'' => CX outer H s E e s'') (fun e' s'' => CX outer H s E e' s'') s'
theorem zip_look {x : Str} {u : Value} : ∀ {ps : List Str} {us : List Value} {i : Nat}, ps.Nodup → ps[i]? = some x → us[i]? = some u → (ps.zip us).reverse.lookup x = some u := by
  intro ps us i nd h1 h2
  have mem : (x, u) ∈ (ps.zip us).reverse := by
    rw [List.mem_reverse]
    refine List.mem_iff_getElem?.mpr ⟨i, ?_⟩
    rw [List.getElem?_zip_eq_some]
    exact ⟨h1, h2⟩
  have uniq : ∀ v, (x, v) ∈ (ps.zip us).reverse → v = u := fun v hv => by
    rw [List.mem_reverse] at hv
    obtain ⟨j, hj⟩ := List.mem_iff_getElem?.mp hv
    rw [List.getElem?_zip_eq_some] at hj
    have e : j = i := nodup_ix nd hj.1 h1
    subst e
    rw [h2] at hj
    exact (Option.some.inj hj.2).symm
  have key : ∀ (l : List (Str × Value)), (x, u) ∈ l → (∀ v, (x, v) ∈ l → v = u) → l.lookup x = some u := by
    intro l
    induction l with
    | nil => intro h; cases h
    | cons p r ih =>
      intro h hu
      obtain ⟨y, v⟩ := p
      rw [List.lookup_cons]
      cases e : x == y with
      | true =>
        have e' : x = y := eq_of_beq e
        subst e'
        have := hu v (List.mem_cons_self ..)
        rw [this]
      | false =>
        refine ih ?_ fun w hw => hu w (List.mem_cons_of_mem _ hw)
        rcases List.mem_cons.mp h with z |
                                           z
        · cases z
          simp at e
        · exact z
  exact key _ mem uniq
section
variable {CX : CXT} {P : Program} {w : World} {K : PySem.W.Frag} {mg : Str → Option Value} {base : Heap} {ps : List Str} {fd : FuncData} {f C : Addr} {A : Around} {outer : List PySem.Env} {s : Shared} {H : Hp} {E : XK} {body : List Stmt} {initId newId B : String} {bmB : List Value}
theorem inv_startI (F : InitF P K C f fd body ps initId) (nd : ps.Nodup) (hd : A.handled = none) (e0 : Env0 P w K mg base A outer s H) {us : List Value} {vs : List V} (r : Vals vs us) (hl : vs.length = ps.length) {h0 : Heap} {tk : Nat}
    (hns : h0.Ns s.heap.objs.size fun x => (ps.zip us).reverse.lookup x) (kp : ∀ b o, s.heap.get? b = some o → h0.get? b = some o) :
    L2.Inv (cxI CX P w K mg base ps fd f A outer s H E) [] (L2.start ps vs) H { s with heap := h0, toks := tk } := by
  obtain ⟨cc, cl, cld, csl, hclo, hcc⟩ := F.clo
  have hcells : (callEnv fd s.heap.objs.size f).cells = [(("__class__" : Str), cc)] := hclo
  have bcc : base.get? cc = some ⟨cl, cld, .cell (some (.ref C)), csl⟩ := e0.mod.kin _ _ hcc
  have noA : ∀ b : Addr, b ∉ (cxI CX P w K mg base ps fd f A outer s H E).ex := fun b z => absurd (show b ∈ ([] : List Addr) from z) (by simp)
  have one : ∀ {y : Str} {c : Addr}, (callEnv fd s.heap.objs.size f).cells.lookup y = some c → y = "__class__" ∧ c = cc := fun {y c} h => by
    rw [hcells, List.lookup_cons] at h
    cases e : y == ("__class__" : Str) with
    | true =>
      rw [e] at h
      exact ⟨eq_of_beq e, (Option.some.inj h).symm⟩
    | false => rw [e] at h; cases h
  refine ⟨⟨e0.mod, F.kind, F.gl, F.bl, Nat.le_refl _, fun y z c h1 h2 => ?_, fun y hy => ?_, fun y c h _ => ?_, fun _ => hd, Around.frames_deeper e0.frames, .inr ⟨rfl, rfl⟩, fun b z => absurd z (noA b), e0.bs, e0.bsz, fun b _ _ => noA b, fun b z => absurd z (noA b), e0.funs, e0.frf⟩,
    rfl, e0.bare, Un.kept kp, ⟨_, hns, fun i y v h1 h2 h3 => ?_⟩, fun y c h => ?_, e0.hok.fresh (Nat.le_refl _), fun y c h => ?_, fun p hp => absurd (show p ∈ ([] : List (Addr × Obj)) from hp) (by simp), e0.hok.kept kp, ?_⟩
  · rw [(one h1).1, (one h2).1]
  · refine ⟨cc, ?_⟩
    have : y = "__class__" := by
      rcases hy with hy | hy
      · exact absurd rfl (F.noc _ (PySem.mem_of_lookup hy))
      · exact F.free y hy
    subst this
    show (callEnv fd s.heap.objs.size f).cells.lookup _ = _
    rw [hcells]; rfl
  · cases h
  · have hi : i < vs.length :=
                               by
      unfold L2.start at h2
      by_cases hi : i < vs.length
      · exact hi
      · rw [List.getElem?_append_right (by simpa using hi), List.getElem?_replicate] at h2
        split at h2 <;> cases h2
    have ha : vs[i]? = some v :=
                                 by
      unfold L2.start at h2
      rw [List.getElem?_append_left (by simpa using hi), List.getElem?_map] at
                                                                               h2
      cases e : vs[i]? with
      | none => rw [e] at h2; cases
                                    h2
      | some a => rw [e] at h2; cases h2;
                                          rfl
    obtain ⟨u, hu, rv⟩ := r.get
                                ha
    exact ⟨u, rv, .inl ⟨F.loc y (List.mem_of_getElem? h1), zip_look nd h1 hu⟩⟩
  · obtain ⟨_, rfl⟩ := one h
    exact ⟨some (.ref C), _, kp _ _ ((e0.bs _ _ bcc).1), rfl⟩
  · obtain ⟨_, rfl⟩ := one h
    exact (e0.bs _ _ bcc).2
  · unfold L2.start
    show _ = ps.length
    rw [List.length_append, List.length_map,
                                             List.length_replicate]
    omega
end
end Mp
end
section
set_option Elab.async false
set_option linter.all false
set_option maxRecDepth 100000
set_option maxHeartbeats
                         4000000
namespace Mp
open PySem L2 PySem.Spec PyProof.Rows
section
variable {X : Cx} {pins : List (Addr × Obj)} {σ : L2.St} {H : Hp} {s : Shared} {a C : Addr} {E : Value → Shared → Prop} {A : Around} {B newId initId : String} {bmB : List Value}
theorem call_mwI (b : BaseX B newId initId bmB) (T : OexG X.K C newId bmB) (I : L2.Inv X pins σ H s) (e : H a = some (exo a C none)) {u : Addr} (hu : s.heap.get? u = some (PySem.W.kxs_mw initId a)) {rest : List Value} (hz : rest.length ≤ sizeLine) {Q : Value → Shared → Prop} (q : ∀ s', L2.Inv X pins σ H s' → Q .none s') :
    wpAny (model X.prog X.w) A (PySem.call (.ref u) rest) Q E s := by
  obtain ⟨nm, qn, N, bs, bm, sn, sub, ab, col, dd, k0, k1, k2, k3, k5, hC, hbm⟩ := T.cls
  obtain ⟨t1, ho⟩ := exo_at I.hok
                                  e
  have hC' := I.kIn _ _ hC
  obtain ⟨hh, g, d, tk, os⟩ :=
                               s
  refine wpAny_call (codeAny_of_tree
                                     ?_)
  show wpAny _ A.in1 (callAny (.ref u) ⟨rest, []⟩) _ _
                                                       _
  simp only [callAny]
  refine wpAny_bind (wpAny_load hu
                                   ?_)
  simp only [PySem.W.kxs_mw, show (Value.type "method-wrapper" == Value.type "method" || Value.type "method-wrapper" == Value.type "builtin_function_or_method" || Value.type "method-wrapper" == Value.type "method-wrapper") = true by decide, if_true]
  refine PySem.W.KFB.if_so (by decide)
                                       ?_
  refine wpAny_bind (PySem.W.check_bound_init b.F.toExcCallFacts hC' ho rfl ?_)
  refine wpAny_bind (wpAny_pure (wpAny_pure
                                            ?_))
  refine ⟨plainId_quiet b.F.init.plain _, codeAny_builtin b.F.initEntry ?_⟩
  refine PySem.W.exc_init_tree (cls := .ref C) (t0 := t1) (dv := none) (c2 := .none) (c3 := .none) (b4 := .bool false) ho hz fun h' k hx _ => ?_
  have J := I.write (t' := tk) (x := a) (e := a) (o := exo a C none) (by rw [e]; exact True.intro) (.inl rfl) k ⟨_, hx⟩ (exo_ok hx)
  have eu : upd H a (exo a C none) = H :=
                                          by
    funext b
    by_cases hb : b = a
    · rw [hb, upd_same, e]
    · rw [upd_ne hb]
  rw [eu] at J
  exact q _ J
theorem super_init {fd : FuncData} {body : List Stmt} {ps : List Str} {f : Addr} {L : Addr} (b : BaseX B newId initId bmB) (T : OexG X.K C newId bmB) (F : InitF X.prog X.K C f fd body ps initId) (hB : PySem.W.subIn X.K (.ref C) (.type B) = some true) (hboot : bootBuiltins "super" = some (.type "super"))
    (henv : X.env = callEnv fd L f) (hN : X.N = ps) {sf : Str} (h0 : ps[0]? = some sf) (I : L2.Inv X pins σ H s) (hσ : σ[0]? = some (some (.ref a))) (e : H a = some (exo a C none)) {m : Str} {j : Nat} {p0 p1 p2 p3 p4 p5 : Pos} (hp : (p2.endLine == p4.line) = true) {Q : Shared → Prop} (q : ∀ s', L2.Inv X pins σ H s' → Q s') :
    PySem.wpAt (model X.prog X.w) X.A (.func body X.env) (exec (.Expr (.Call (.Attribute (.Call (.Name "super" p0) [] [] p1) "__init__" p2) [.Constant (.str m) j p3] [] p4) p5) X.env) (fun fl s' => fl = .next ∧ Q s') X.xe s := by
  obtain ⟨nm, qn, N, bs, bm, sn, sub, ab, col, dd, k0, k1, k2, k3, k5, hC, hbm⟩ := T.cls
  obtain ⟨cc, cl, cld, csl, hclo, hcc⟩ := F.clo
  obtain ⟨cda, o1, o2, vs, o3, file, tf, hcode, hcda, hvs, hfile⟩ := F.code
  obtain ⟨oc, od, osl, lk⟩ := F.lk
  have KX := I.kIn
  have hcl : PySem.W.clsIn X.K C = some { name := nm, bases := bs, mro := .ref C :: bm, ns := N, qualname := qn, hasDict := true, slotNames := sn, subclasses := sub, abstract := ab, collection := col, hasDel := false } := by unfold PySem.W.clsIn; rw [hC] <;> rfl
  have hpar : (fd.params.posonlyargs ++ fd.params.args).head?.map (·.arg) = some sf := by
    rw [F.par, ← h0]; cases ps <;> rfl
  obtain ⟨ar, har, hsf⟩ := Option.map_eq_some_iff.mp hpar
  obtain ⟨mm, hns, hlk⟩ := I.loc
  have hselfl : X.env.kindOf sf = some .local := by rw [henv]; exact F.loc sf (List.mem_of_getElem? h0)
  obtain ⟨u0, ru, lu⟩ := hlk 0 sf (.ref a) (by rw [hN]; exact h0) hσ (.inl hselfl)
  obtain rfl : u0 = Value.ref a := ru
  have hm : mm sf = some (.ref a) := by
    rcases lu with ⟨_, z⟩ | ⟨z, _⟩
    · exact z
    · rw [hselfl] at z; rcases z with z | z <;> cases z
  have hk : X.env.scope.kind = .function := I.ok.kind
  have hsup : X.env.kindOf "super" = some .globalImplicit := by rw [henv]; exact F.sup
  have hcf : X.env.kindOf "__class__" = some .free := by rw [henv]; exact F.cfree
  have hcells : X.env.cells.lookup ("__class__" : Str) = some cc := by
    rw [henv]
    show fd.closure.lookup _ = _
    rw [hclo]; rfl
  have hfu : X.env.func = some f := by rw [henv]; rfl
  have hco : X.env.code = .ref cda := by rw [henv]; exact hcode
  obtain ⟨t1, ho⟩ := exo_at I.hok
                                  e
  have hCh := KX _ _ hC
  have hint : interactive X.env = false := by
    rw [henv]
    show interactive (callEnv fd L f) = false
    unfold interactive callEnv newEnv
    simp [F.kind]
  refine PySem.ks_wpAt_Expr_any ?_ hint rfl
  refine PySem.ks_wpAt_MethodCall (pl := plainOf (.Call (.Name "super" p0) [] [] p1) X.env) ?_ (by
    show (do
      let ov ← attributeBase (.Call (.Name "super" p0) [] [] p1) "__init__" X.env (eval (.Call (.Name "super" p0) [] [] p1) X.env)
      standAt p2.atName
      methodCall (.Call (.Name "super" p0) [] [] p1) "__init__" p2 p4 X.env ov 1 (backTo p4 (starEach [.Constant (.str m) j p3] X.env)) []) = _
    simp only [mcall_line (o := .Call (.Name "super" p0) [] [] p1) (m := "__init__") (env := X.env) (n := 1) (args := backTo p4 (starEach [.Constant (.str m) j p3] X.env)) (kws := []) rfl hp])
  refine PySem.ks_wpAt_super_base hsup hcf (by decide) hfu (KX _ _ lk) rfl har hco (KX _ _ hcda) rfl hvs hfile F.top ?_
  rw [hsf]
  obtain ⟨mb, hb1, hb2⟩ := I.mod.blt
  have hmg : X.mg "super" = none := PySem.W.mg_none_of I.mod.kin I.mod.glob F.nosup
  refine PySem.W.ks_loadName_global hk hsup (Calls.loadGlobal_builtin (by rw [I.ok.glob]; exact I.mod.glob.keeps I.bk) hmg (by rw [I.ok.blt]; exact hb1.keeps I.bk) ((hb2 "super" (by decide)).trans hboot) ⟨rfl, ?_⟩)
  refine wpAny_loadName_free hk hcf hcells ⟨_, KX _ _ hcc, rfl⟩ ?_
  refine wpAny_loadName_local hk hselfl hns hm ?_
  refine PySem.ks_wpAny_isType_cls hCh rfl ⟨rfl, ?_⟩
  obtain ⟨hh, g, d, t, os⟩ := s
  refine PySem.ks_wpAny_call_super hCh rfl ho rfl (fun c z => by cases z) (PySem.W.looks_mroIn KX F.self) fun h' hso k => ?_
  have I1 : L2.Inv X pins σ H ⟨h', g, d, t, os⟩ := I.kept (t' := t) k
  have ho1 := k _ _ ho
  have hCh1 := k _ _ hCh
  have KX1 := I1.kIn
  have hI : PySem.W.Looks (model X.prog X.w) h' (isInstance (.ref a) (.type B)) true := by
    have J : PySem.W.InstAt h' a { cls := .ref C, dict := none, data := .fields #[.ref t1, .none, .none, .none, .bool false, .none] } C none := ⟨ho1, rfl, rfl, trivial⟩
    exact J.type.andThen (PySem.W.looks_subIn KX1 hB)
  have hne : a ≠ C := fun z => by
    rw [z] at ho
    have := ho.symm.trans hCh
    cases this
  have hup := F.up
  unfold PySem.W.ks_superIn at hup
  rw [hcl] at hup
  refine PySem.W.kxs_getMethod b.KF hso (PySem.W.looks_opaque KX1 F.opq) (l₀ := .ref C :: bm) ?_ rfl KX1 hup hI hne (by decide) ?_
  · exact fun A Q E s k q => wpAny_bind ((PySem.W.looks_clsIn KX1 hcl) A _ E s k (wpAny_pure q))
  · have I2 : L2.Inv X pins σ H ⟨h'.push (PySem.W.kxs_mw initId a), g, d, t + 1, os⟩ := I1.kept (t' := t + 1) fun b o z => Heap.get?_push_of_some _ z
    have hu : (h'.push (PySem.W.kxs_mw initId a)).get? h'.objs.size = some (PySem.W.kxs_mw initId a) := Heap.get?_push_at rfl rfl
    have nH : H h'.objs.size = none := I1.hok.fresh (Nat.le_refl _)
    have nL : h'.objs.size ≠ X.env.locals := fun z => by
      have := I1.lt
      rw [← z] at this
      exact Nat.lt_irrefl _ this
    have I3 : L2.Inv X ((h'.objs.size, PySem.W.kxs_mw initId a) :: pins) σ H ⟨h'.push (PySem.W.kxs_mw initId a), g, d, t + 1, os⟩ := I2.pins_of fun p hp => by
      rcases List.mem_cons.mp hp with rfl |
                                            hp
      · exact ⟨hu, nH, nL, I1.nofs (Nat.le_refl _), fun v z => by cases z⟩
      · exact I2.pin p (List.mem_append_right _ hp)
    refine PySem.W.kxs_callWith (i := initId) (x := a) (first := []) rfl ?_
    show wpAny _ _ (evalArgs (.ref h'.objs.size) true ((false, eval (.Constant (.str m) j p3) X.env) :: backTo p4 (starEach [] X.env)) []) _ _ _
    refine Calls.evalArgs_plain ?_
    refine thn (((pa_cons (X := X) (e := .Constant (.str m) j p3) (es := []) pe_str pa_nil rfl).run p4 _ _ σ H (fun vs H1 => vs = [.str m] ∧ H1 = H) I3 ⟨rfl, rfl⟩)) fun us s1 ⟨ws, H1, J, rv, ew, eH⟩ => ?_
    subst ew
    subst eH
    have hpin := (J.pin (h'.objs.size, PySem.W.kxs_mw initId a) (List.mem_append_right _ (by simp))).1
    refine ⟨hpin, ?_⟩
    have J2 : L2.Inv X pins σ H1 s1 := J.pins_of fun p hp => J.pin p (List.mem_append_right _ (List.mem_cons_of_mem _ hp))
    exact call_mwI b T J2 e hpin (by show us.length ≤ _; rw [← rv.length, sizeLine_eq]; show 1 ≤ 16777216; decide) fun s' I' => ⟨rfl, q s' I'⟩
end
def xfs (c : Str) (fs : List Str) (vs : List V) : List (Str × V) := fs.zip vs ++ [(("code" : Str), .str c)]
def spI (C : Addr) (c : Str) (fs : List Str) : Sp := fun vs H Q _ => ∃ a rest, vs = .ref a :: rest ∧ rest.length = fs.length ∧ H a = some (exo a C none) ∧
  ∀ d, H d = none → d ≠ a → Q .non (upd (upd H d (exd d (xfs c fs rest))) a (exo a C (some d)))
inductive InitT (c : Str) : List Str → List Str → List Stmt → Prop
  | none {sf m : Str} {j j2 : Nat} {p0 p1 p2 p3 p4 p5 q1 q2 q3 q4 : Pos} : (p2.endLine == p4.line) = true → (sf == ("__debug__" : Str)) = false → (sf == ("__classdict__" : Str)) = false →
      InitT c [] [sf] [.Expr (.Call (.Attribute (.Call (.Name "super" p0) [] [] p1) "__init__" p2) [.Constant (.str m) j p3] [] p4) p5, .Assign [.Attribute (.Name sf q1) "code" q2] (.Constant (.str c) j2 q3) q4]
  | one {sf par m f : Str} {j j2 : Nat} {p0 p1 p2 p3 p4 p5 q1 q2 q3 q4 r1 r2 r3 r4 : Pos} : (p2.endLine == p4.line) = true → (sf == ("__debug__" : Str)) = false → (sf == ("__classdict__" : Str)) = false → (par == ("__debug__" : Str)) = false → (par == ("__classdict__" : Str)) = false → sf ≠ par →
      InitT c [f] [sf, par] [.Expr (.Call (.Attribute (.Call (.Name "super" p0) [] [] p1) "__init__" p2) [.Constant (.str m) j p3] [] p4) p5, .Assign [.Attribute (.Name sf q1) "code" q2] (.Constant (.str c) j2 q3) q4, .Assign [.Attribute (.Name sf r1) f r2] (.Name par r3) r4]
section
variable {P : Program} {w : World} {K : PySem.W.Frag} {mg : Str → Option Value} {base : Heap} {ps : List Str} {fd : FuncData} {f C : Addr} {body : List Stmt} {initId newId B : String} {bmB : List Value}
theorem init_fn {k : Nat} {c : Str} {fs : List Str} (b : BaseX B newId initId bmB) (T : OexG K C newId bmB) (F : InitF P K C f fd body ps initId) (hB : PySem.W.subIn K (.ref C) (.type B) = some true) (hboot : bootBuiltins "super" = some (.type "super"))
    (hno : ∀ g ∈ ("code" : Str) :: fs, PySem.W.findIn K (.ref C) g = some none) (hT : InitT c fs ps body) : FnOk P w K mg base (L2.CX P w) (k + 1) f fd ps (spI C c fs) := by
  have hps : ps.Nodup ∧ ps.length = fs.length + 1 := by
    cases hT with
    | none => exact ⟨by simp, rfl⟩
    | one _ _ _ _ _ h => exact ⟨by simpa using h, rfl⟩
  refine ⟨fun vs H Q E ⟨a, rest, e, hl, _⟩ => by rw [e, List.length_cons, hl, hps.2], fun A outer s H args us vs Q E hr e0 hb r hsp => ?_⟩
  obtain ⟨a, rest, rfl, hrl, ha, hq⟩ := hsp
  obtain ⟨oc, od, osl, lk⟩ := F.lk
  have KX : K.In s.heap := e0.mod.kin.keeps fun b o e => (e0.bs b o
                                                                    e).1
  have lim : s.heap.NoLimit := e0.mod.nolimit.keeps fun b o e => (e0.bs b o
                                                                            e).1
  have hl : (V.ref a :: rest).length = ps.length := by rw [List.length_cons, hrl, hps.2]
  refine PySem.ks_codeAny_call_defAt hr.depth (KX _ _ lk) rfl lim (PySem.W.codeRec_of KX F.hcd) F.body_ hb F.noc (fun x hx => F.loc x.1 (List.of_mem_zip (show (x.1, x.2) ∈ _ from hx)).1) (fun h0 hns kp => ?_) F.co F.gen F.kind
  have I : L2.Inv (cxI (L2.CX P w) P w K mg base ps fd f A outer s H E) [] (L2.start ps (.ref a :: rest)) H { s with heap := h0, toks := s.toks + (ps.zip us).length } := inv_startI F hps.1 hr.hd e0 r hl hns kp
  have fin : ∀ {fl : Flow} {s' : Shared}, SP (cxI (L2.CX P w) P w K mg base ps fd f A outer s H E) [] { nx := fun _ H' => Q .non H', rt := Q } fl s' → CR (L2.CX P w) outer P w H s Q E (.ok (.ret (match fl with | .ret v => v | _ => .none))) s' := fun {fl s'} h => by
    cases fl with
    | ret u =>
      obtain ⟨v, σ', H', J, rv, q⟩ := h
      exact ⟨v, H', J.os, J.bare, J.base, J.hok, rv, q⟩
    | next =>
      obtain ⟨σ', H', J, q⟩ := h
      exact ⟨.non, H', J.os, J.bare, J.base, J.hok, rfl, q⟩
    | brk =>
      obtain ⟨_, _, _, q⟩ := h
      exact False.elim q
    | cont =>
      obtain ⟨_, _, _, q⟩ := h
      exact False.elim q
  cases hT with
  | @none sf m j j2 p0 p1 p2 p3 p4 p5 q1 q2 q3 q4 hp n1 n2 =>
    have hrest : rest = [] := List.length_eq_zero_iff.mp hrl
    subst hrest
    have pself : PE (cxI (L2.CX P w) P w K mg base [sf] fd f A outer s H E) (.Name sf q1) (tVar 0) := pe_var (i := 0) rfl (.inl (F.loc sf (by simp))) n1 n2
    have hrun : ∀ s', L2.Inv (cxI (L2.CX P w) P w K mg base [sf] fd f A outer s H E) [] (L2.start [sf] [.ref a]) H s' → _ := fun s' J => (pss_one (ps_osG (X := cxI (L2.CX P w) P w K mg base [sf] fd f A outer s H E) (p' := q2) (pos := q4) b T pself (pe_str (x := c) (j := j2) (pos := q3)) rfl)).run [] s' _ H { nx := fun _ H' => Q .non H', rt := Q } J
      ⟨.ref a, rfl, a, rfl, hno _ (by simp), .inl ⟨ha, fun dx hd hne => hq dx hd hne⟩⟩
    refine PySem.ks_wpAt_execs_cons (PySem.wpAt_mono (super_init (L := s.heap.objs.size) b T F hB hboot rfl rfl rfl I rfl ha hp fun s' J => hrun s' J) (fun fl s' ⟨e, h⟩ => ?_) fun _ _ z => z)
    subst e
    exact PySem.wpAt_of_wpAny (wpAny_mono h (fun fl s'' h => fin h) fun _ _ z => z)
  | @one sf par m fld j j2 p0 p1 p2 p3 p4 p5 q1 q2 q3 q4 r1 r2 r3 r4 hp n1 n2 n3 n4 nsp =>
    obtain ⟨y, rfl⟩ := List.length_eq_one_iff.mp hrl
    have pself : ∀ p : Pos, PE (cxI (L2.CX P w) P w K mg base [sf, par] fd f A outer s H E) (.Name sf p) (tVar 0) := fun p => pe_var (i := 0) rfl (.inl (F.loc sf (by simp))) n1 n2
    have ppar : PE (cxI (L2.CX P w) P w K mg base [sf, par] fd f A outer s H E) (.Name par r3) (tVar 1) := pe_var (i := 1) rfl (.inl (F.loc par (by simp))) n3 n4
    have hfin : ∀ dx, H dx = none → dx ≠ a → Q .non (upd (upd (upd H dx (exd dx [(("code" : Str), V.str c)])) a (exo a C (some dx))) dx (exd dx ((fld, y) :: [(("code" : Str), V.str c)]))) := fun dx hd hne => by
      have q := hq dx hd hne
      have e : upd (upd (upd H dx (exd dx [(("code" : Str), V.str c)])) a (exo a C (some dx))) dx (exd dx ((fld, y) :: [(("code" : Str), V.str c)])) = upd (upd H dx (exd dx (xfs c [fld] [y]))) a (exo a C (some dx)) := by
        funext b
        by_cases h1 : b = dx
        · subst h1
          rw [upd_same, upd_ne hne, upd_same]; rfl
        · rw [upd_ne h1]
          by_cases h2 : b = a
          · subst h2; rw [upd_same, upd_same]
          · rw [upd_ne h2, upd_ne h2, upd_ne h1, upd_ne h1]
      rw [e]; exact q
    have hrun : ∀ s', L2.Inv (cxI (L2.CX P w) P w K mg base [sf, par] fd f A outer s H E) [] (L2.start [sf, par] [.ref a, y]) H s' → _ := fun s' J => (pss_cons (ps_osG (X := cxI (L2.CX P w) P w K mg base [sf, par] fd f A outer s H E) (p' := q2) (pos := q4) b T (pself q1) (pe_str (x := c) (j := j2) (pos := q3)) rfl)
        (pss_one (ps_osG (X := cxI (L2.CX P w) P w K mg base [sf, par] fd f A outer s H E) (p' := r2) (pos := r4) b T (pself r1) ppar rfl))).run [] s' _ H { nx := fun _ H' => Q .non H', rt := Q } J
      ⟨.ref a, rfl, a, rfl, hno _ (by simp), .inl ⟨ha, fun dx hd hne => ⟨y, rfl, .ref a, rfl, a, rfl, hno _ (by simp), .inr ⟨dx, [(("code" : Str), .str c)], upd_same, by rw [upd_ne hne, upd_same], by show 1 ≤ 900; decide, hfin dx hd hne⟩⟩⟩⟩
    refine PySem.ks_wpAt_execs_cons (PySem.wpAt_mono (super_init (L := s.heap.objs.size) b T F hB hboot rfl rfl rfl I rfl ha hp fun s' J => hrun s' J) (fun fl s' ⟨e, h⟩ => ?_) fun _ _ z => z)
    subst e
    exact PySem.wpAt_of_wpAny (wpAny_mono h (fun fl s'' h => fin h) fun _ _ z => z)
end
end Mp
end
section
set_option Elab.async false
set_option linter.all false
set_option maxRecDepth 100000
set_option maxHeartbeats
                         4000000
namespace Mp
open PySem L2 PySem.Spec PyProof.Rows
structure ExOk (P : Program) (K : PySem.W.Frag) (C : Addr) (c : Str) (fs : List Str) : Prop where
  ex : ∃ (B newId initId : String) (bmB : List Value) (fI : Addr) (fd : FuncData) (body : List Stmt) (ps : List Str), BaseX B newId initId bmB ∧ OexG K C newId bmB ∧ InitF P K C fI fd body ps initId ∧
    PySem.W.subIn K (.ref C) (.type B) = some true ∧ InitT c fs ps body ∧ PySem.W.findIn K (.ref C) "__init__" = some (some (.ref fI)) ∧ PySem.W.typeIn K (.ref fI) = some (.type "function") ∧ L2.Binds K fd ps []
  no : ∀ g ∈ ("code" : Str) :: fs, PySem.W.findIn K (.ref C) g = some none
theorem boot_super : bootBuiltins "super" = some (.type "super") := by
  first
  | exact PyProof.Rows.Boot.«super»
  | kernel_rfl
def tMkG (C : Addr) (c : Str) (fs : List Str) (ta : TA) : L2.St → Hp → XK → Prop := fun σ H Q => ta σ H fun vs H1 => vs.length = fs.length ∧ ∀ d, H1 d = none → Q (.ref C) (some d) (upd H1 d (.xd (xfs c fs vs)))
section
variable {X : Cx} {pins : List (Addr × Obj)} {σ : L2.St} {H : Hp} {s : Shared} {C : Addr} {c : Str} {fs : List Str}
theorem ex_fs {P : Program} {K : PySem.W.Frag} (T : ExOk P K C c fs) : fs.length ≤ 1 := by
  obtain ⟨_, _, _, _, _, _, _, _, _, _, _, _, hT, _⟩ := T.ex
  cases hT <;> simp
theorem make_exc {k : Nat} (T : ExOk X.prog X.K C c fs) (hr : Room (k + 2) X.A) {Q : XK} {us : List Value} {vs : List V} (I1 : L2.Inv X pins σ H s) (r1 : Vals vs us) (hlen : vs.length = fs.length) (q : ∀ d, H d = none → Q (.ref C) (some d) (upd H d (.xd (xfs c fs vs)))) :
    wpAny (model X.prog X.w) X.A (PySem.call (.ref C) us) (MkP X pins σ Q) X.xe s := by
  obtain ⟨B, newId, initId, bmB, fI, fd, body, ps, b, TG, F, hB, hT, iC, tI, hb⟩ := T.ex
  have F1 : FnOk X.prog X.w X.K X.mg X.base (L2.CX X.prog X.w) (k + 1) fI fd ps (spI C c fs) := init_fn b TG F hB boot_super T.no hT
  obtain ⟨nm, qn, N, bs, bm, sn, sub, ab, col, dd, k0, k1, k2, k3, k5, hC, hbm⟩ := TG.cls
  obtain ⟨hp, g, dr, tk, os⟩ :=
                                s
  have hsz : hp.objs.size ≤ hp.objs.size + 1 := Nat.le_succ
                                                            _
  have hn : H (hp.objs.size + 1) = none := I1.hok.fresh hsz
  have kk : ∀ b o, hp.get? b = some o → ((hp.push (PySem.W.kdv_tup us)).push (PySem.HandSPX.excO C hp.objs.size)).get? b = some o := fun b o e => Heap.get?_push_of_some _ (Heap.get?_push_of_some _
                                                                                                                                                                                                     e)
  have hget : ((hp.push (PySem.W.kdv_tup us)).push (PySem.HandSPX.excO C hp.objs.size)).get? (hp.objs.size + 1) = some (PySem.HandSPX.excO C hp.objs.size) := by
                                                                                                                                                                 heap_get
  have I2 : L2.Inv X pins σ (upd H (hp.objs.size + 1) (exo (hp.objs.size + 1) C none)) ⟨(hp.push (PySem.W.kdv_tup us)).push (PySem.HandSPX.excO C hp.objs.size), g, dr, tk, os⟩ :=
    I1.laid (t' := tk) (a := hp.objs.size + 1) (o := exo (hp.objs.size + 1) C none) (h' := (hp.push (PySem.W.kdv_tup us)).push (PySem.HandSPX.excO C hp.objs.size)) kk hsz (exo_ok
                                                                                                                                                                                   hget)
  have r2 : Vals (V.ref (hp.objs.size + 1) :: vs) (Value.ref (hp.objs.size + 1) :: us) := .cons rfl
                                                                                                    r1
  have hq : spI C c fs (V.ref (hp.objs.size + 1) :: vs) (upd H (hp.objs.size + 1) (exo (hp.objs.size + 1) C none))
      (fun v H2 => v = .non ∧ ∃ (d : Addr) (f2 : List (Str × V)), H2 (hp.objs.size + 1) = some (exo (hp.objs.size + 1) C (some d)) ∧ H2 d = some (exd d f2) ∧ H d = none ∧ Q (.ref C) (some d) (upd (del H2 (hp.objs.size + 1)) d (.xd f2))) (fun _ _ _ => False) := by
    refine ⟨_, _, rfl, hlen, upd_same, fun d hd hne => ⟨rfl, d, xfs c fs vs, upd_same, by rw [upd_ne hne, upd_same], by rw [upd_ne hne] at hd; exact hd, ?_⟩⟩
    have hd0 : H d = none := by rw [upd_ne hne] at hd; exact hd
    have e : upd (del (upd (upd (upd H (hp.objs.size + 1) (exo (hp.objs.size + 1) C none)) d (exd d (xfs c fs vs))) (hp.objs.size + 1) (exo (hp.objs.size + 1) C (some d))) (hp.objs.size + 1)) d (HO.xd (xfs c fs vs)) = upd H d (.xd (xfs c fs vs)) := by
      funext b
      by_cases h1 : b = d
      · subst h1; rw [upd_same, upd_same]
      · rw [upd_ne h1, upd_ne h1]
        by_cases h2 : b = hp.objs.size + 1
        · subst h2; rw [del_same, hn]
        · rw [del_ne h2, upd_ne h2, upd_ne h1, upd_ne h2]
    rw [e]; exact q d hd0
  have hl : (Value.ref (hp.objs.size + 1) :: us).length = ps.length := by
    have e := r2.length
    rw [F1.len _ _ _ _ hq] at e
    exact e.symm
  have hus : us.length ≤ sizeLine :=
                                     by
    have := ex_fs T
    rw [← Paired.length r1,
                            sizeLine_eq]
    omega
  have hbb := hb ⟨(hp.push (PySem.W.kdv_tup us)).push (PySem.HandSPX.excO C hp.objs.size), g, dr, tk, os⟩ (Value.ref (hp.objs.size + 1) :: us) I2.kIn (by rw [List.append_nil]; exact hl)
  rw [List.append_nil] at hbb
  refine wpAny_call (PySem.HandSPX.call_own b.F (fun Y => refsT_contains Y bm hbm) (I1.kIn _ _ hC) (PySem.W.looks_findIn I1.kIn iC) (fun self => PySem.W.bind_fn I1.kIn self tI) hus
    (codeAny_mono (F1.run _ X.stack _ _ ⟨Value.ref (hp.objs.size + 1) :: us, []⟩ (Value.ref (hp.objs.size + 1) :: us) _ _ (fun _ _ _ => False) (hr.make C us []) (I2.env0.make C us []) hbb r2 hq) fun r s' hq' => ?_))
  cases r with
  | error er =>
    obtain ⟨_, _, _, _, _, _, _, _, _, _, _, _, z⟩ := hq'
    exact z.elim
  | ok fl =>
    cases fl with
    | ret u =>
      obtain ⟨v, H2, os2, bare2, un2, hok2, rv, ev, d, fs2, ea, ed, hd1, q2⟩ := hq'
      subst ev
      obtain ⟨h2, g2, d2, t2, os'⟩ :=
                                      s'
      exact ⟨rv, mk_end (raises_own TG.exC TG.tyC) I1 hsz kk un2 hok2 os2 bare2 ea ed hd1 q2⟩
    | next => exact False.elim
                               hq'
    | brk => exact False.elim hq'
    | cont => exact False.elim
                               hq'
theorem pmk_g {k : Nat} {x : Str} {es : List Expr} {ta : TA} {p pos : Pos} (T : ExOk X.prog X.K C c fs) (hr : Room (k + 2) X.A) (hg : Gl X x) (hm : X.mg x = some (.ref C)) (kC : PySem.W.keepIn X.K (.ref C) = true) (ns : NoStar es) (ns2 : ∀ e es', es = e :: es' → NoStar es') (ha : PA X es ta) (hnil : es = [] → ∀ σ H Q, ta σ H Q → Q [] H)
    (hdb : (x == ("__debug__" : Str)) = false) : PMk X (.Call (.Name x p) es [] pos) (tMkG C c fs ta) := by
  intro pins s σ H Q I h
  refine wpAny_Call_Name_kw (ld_glob I hg hm ?_
                                                hdb)
  cases es with
  | nil =>
    obtain ⟨hl, q⟩ := hnil rfl σ H _ h
    exact PySem.W.callWith_K0 (first := []) I.kIn kC (make_exc T hr I .nil hl q)
  | cons e es =>
    refine PySem.W.callWith_K (first := []) (h₀ := X.base) I.ok.mod.kin kC (thn (ha.run pos pins s σ H _ I h) fun us s1 ⟨vs, H1, I1, r1, hl, q⟩ => ⟨I1.kIn, ?_⟩) (ns.cons (ns2 e es rfl) _) ((ns2 e es rfl).any _ _)
    exact make_exc T hr I1 r1 hl q
end
end Mp
end
section
set_option Elab.async false
set_option linter.all false
set_option maxRecDepth 100000
set_option maxHeartbeats
                         4000000
namespace Mp
open PySem L2 PySem.Spec PyProof.Rows
structure HeldX (Y : Cx) (a D dd : Addr) (fs : List (Str × V)) : Prop where
  pin : ∃ oe : Obj, (a, oe) ∈ Y.pn ∧ oe.cls = .ref D ∧ oe.dict = some dd ∧ ∃ vs, oe.data = .fields vs
  cls : ExcC Y.K D
theorem held_kit {K : PySem.W.Frag} {D x : Addr} {ox : Obj} {od : Option Obj} (c : ExcC K D) : PySem.W.KitX K (.ref x) (.ref D) (fun h => PySem.W.InstAt h x ox D od) :=
  PySem.W.kitx_exc (by
    obtain ⟨cd, e, _⟩ := PySem.W.any_some c.hd
    rw [e]; rfl) c.hg c.hk c.hs c.ha c.hn c.ht c.hm
section
variable {Y : Cx} {pins : List (Addr × Obj)} {σ : L2.St} {H : Hp} {s : Shared} {a D dd : Addr} {fs : List (Str × V)}
theorem HeldX.inst (X : HeldX Y a D dd fs) (I : L2.Inv Y pins σ H s) (hd : H dd = some (.xd fs)) : ∃ (oe od : Obj) (mA : Str → Option Value), PySem.W.InstAt s.heap a oe D (some od) ∧ s.heap.get? dd = some od ∧ s.heap.Ns1 dd mA ∧ ∀ f, RelO (fs.lookup f) (mA f) := by
  obtain ⟨oe, hp, hc, hdi, vs, hv⟩ := X.pin
  obtain ⟨hget, _⟩ := I.pin (a, oe) (List.mem_append_left _ hp)
  have hx : ObjOk Y.prog Y.w H s.heap dd (.xd fs) := I.hok dd _ hd
  obtain ⟨mA, hns, hr⟩ := hx
  obtain ⟨od, es, ep, ho, q⟩ := id hns
  exact ⟨oe, od, mA, ⟨hget, hc, by unfold PySem.W.notCls; rw [hv] <;> rfl, by rw [hdi]; exact ho⟩, ho, hns, hr⟩
theorem call_isX (X : HeldX Y a D dd fs) : CallR Y (.builtin "isinstance") (fun xs H Q => ∃ (c : V) (cv : Value) (b : Bool), xs = [.ref a, c] ∧ ClsV c cv ∧ PySem.W.kitOne Y.K (.ref D) cv = some b ∧ H dd = some (.xd fs) ∧ Q (.bl b) H) := by
  intro pins s σ H xs us Q I r
                               h
  obtain ⟨c, cv, b, rfl, hcv, e, hd, q⟩ := h
  obtain ⟨u1, u2, rfl, r1, r2⟩ := vals2
                                        r
  cases (show u1 = Value.ref a from
                                    r1)
  have e2 := hcv.eq r2
  subst e2
  obtain ⟨oe, od, mA, J, _⟩ := X.inst I hd
  exact PySem.W.kia_one (held_kit X.cls) I.kIn J e (fun z => nomatch z) fun tk => ⟨.bl b, H, I.tok tk, rfl, q⟩
theorem call_isXT (X : HeldX Y a D dd fs) : CallR Y (.builtin "isinstance") (fun xs H Q => ∃ (tp : Addr) (cs : List V) (ws : List Value) (b : Bool), xs = [.ref a, .ref tp] ∧ H tp = some (.tup cs) ∧ Paired ClsV cs ws ∧ PySem.W.kitAny Y.K (.ref D) ws = some b ∧ H dd = some (.xd fs) ∧ Q (.bl b) H) := by
  intro pins s σ H xs us Q I r
                               h
  obtain ⟨tp, cs, ws, b, rfl, hT, k, e, hd, q⟩ := h
  obtain ⟨u1, u2, rfl, r1, r2⟩ := vals2
                                        r
  cases (show u1 = Value.ref a from
                                    r1)
  cases (show u2 = Value.ref tp from
                                     r2)
  obtain ⟨_, its, rv, o, h1, h2, n, h3⟩ := (show ObjOk Y.prog Y.w H s.heap tp (.tup cs) from I.hok tp _ hT)
  have e3 := ClsV.all k rv
  subst e3
  obtain ⟨oc, od', dt, sl⟩ := o
  simp only at h2 h3
  subst h2 h3
  obtain ⟨oe, od, mA, J, _⟩ := X.inst I hd
  exact PySem.W.kia_tup (held_kit X.cls) I.kIn J h1 e (fun z => nomatch z) fun tk => ⟨.bl b, H, I.tok tk, rfl, q⟩
theorem pe_xfY (X : HeldX Y a D dd fs) {e : Expr} {te : TE} {pos : Pos} {n : Str} (hno : PySem.W.findIn Y.K (.ref D) n = some none) (he : PE Y e te) (hb : attributeBase e n Y.env (eval e Y.env) = eval e Y.env) :
    PE Y (.Attribute e n pos) (fun σ H Q => te σ H fun x H1 => x = .ref a ∧ H1 dd = some (.xd fs) ∧ ∃ v, fs.lookup n = some v ∧ Q v H1) := by
  refine ⟨fun pins s σ H Q I h =>
                                  ?_⟩
  refine attr_of hb (thn (he.run pins s σ H _ I h) fun u s1 ⟨x, H1, I1, rx, ex, hd, v, l, q⟩ => ?_)
  subst ex
  obtain rfl : u = Value.ref a :=
                                  rx
  obtain ⟨oe, od, mA, J, ho, hns, hr⟩ := X.inst I1 hd
  obtain ⟨od2, ho2, hl⟩ := lookIn_ns hns
  rw [ho] at ho2
  cases ho2
  obtain ⟨u, hu, ru⟩ := RelO.some_of (v := v) (o := mA n) (by rw [← l]; exact hr
                                                                                 n)
  exact HandSPX.exc_get I1.kIn J X.cls.hg X.cls.hk X.cls.hs (PySem.W.findObj_own X.cls.hd hno rfl (by rw [hl, hu])) (handed_of ru) ⟨v, H1, I1.tok _, ru, q⟩
end
end Mp
end
section
set_option Elab.async false
set_option linter.all false
set_option maxRecDepth 100000
namespace Mp
open PySem L2
structure Zs where
  T : List (Addr × Str)
  C : Nat → Addr → Addr → Addr → HO → HO → HO → Prop
structure KZ where
  K : PySem.W.Frag
  B : Zs
instance : Coe KZ PySem.W.Frag := ⟨KZ.K⟩
structure Wd where
  F : Hp
  e : List Addr
  G : Hp
structure Le (w w' : Wd) : Prop where
  F : ∀ p o, w.F p = some o → w'.F p = some o
  e : ∀ (i : Nat) (p : Addr), w.e[i]? = some p → w'.e[i]? = some p
  G : w'.G = w.G
theorem Le.refl (w : Wd) : Le w w := ⟨fun _ _ h => h, fun _ _ h => h, rfl⟩
theorem Le.trans {a b c : Wd} (h : Le a b) (k : Le b c) : Le a c := ⟨fun p o q => k.F p o (h.F p o q), fun i p q => k.e i p (h.e i p q), k.G.trans h.G⟩
def sOk (x : Str) : Prop := x.length ≤ sizeLine ∧ PyData.strOk x = true
def cA (K : PySem.W.Frag) (c : Str) : Addr := He.ga K c
def decK (f : Str) : List Key := match f.cps.back? with
  | none => []
  | some n => [.inr ⟨f.cps.pop⟩, .inl (decI n)]
theorem decK_enc (x : Str) (i : Int) : decK (encK x i) = [.inr x, .inl i] := by
  unfold decK encK
  simp [decI_encI]
theorem decI_inj {n m : Nat} (h : decI n = decI m) : n = m := by
  unfold decI at h
  split at h <;> split at h <;> omega
theorem decK_inj {f g : Str} (h : decK f = decK g) : f = g := by
  obtain ⟨⟨l⟩⟩ := f
  obtain ⟨⟨m⟩⟩ := g
  unfold decK at h
  rw [List.back?_toArray, List.back?_toArray, List.pop_toArray, List.pop_toArray] at h
  have key : ∀ (l : List Nat), l.getLast? = none ∨ ∃ n, l.getLast? = some n ∧ l = l.dropLast ++ [n] := by
    intro l
    rcases List.eq_nil_or_concat l with rfl | ⟨r, n, rfl⟩
    · exact .inl rfl
    · exact .inr ⟨n, by simp, by simp⟩
  rcases key l with e1 | ⟨a, e1, e2⟩ <;> rcases key m with e3 | ⟨b, e3, e4⟩ <;> simp only [e1, e3] at h
  · rw [List.getLast?_eq_none_iff.mp e1, List.getLast?_eq_none_iff.mp e3]
  · cases h
  · cases h
  · simp only [List.cons.injEq, Sum.inr.injEq, Sum.inl.injEq, Str.mk.injEq, Array.mk.injEq, and_true] at h
    rw [e2, e4, h.1, decI_inj h.2]
def ob (K : PySem.W.Frag) (c : Str) (dx : Addr) (fs : List (Str × V)) : HO := if c = dN then .dK (fs.map fun x => (.inr x.1, x.2)) else if c = dT then .dT (fs.map fun x => (decK x.1, x.2)) else .ins (cA K c) dx fs
theorem ob_ins {K : PySem.W.Frag} {c : Str} {dx : Addr} {fs : List (Str × V)} (h : c ≠ dN ∧ c ≠ dT) : ob K c dx fs = .ins (cA K c) dx fs := (if_neg h.1).trans (if_neg h.2)
theorem ob_t {K : PySem.W.Frag} {dx : Addr} {fs : List (Str × V)} : ob K dT dx fs = .dT (fs.map fun x => (decK x.1, x.2)) := (if_neg (by decide)).trans (if_pos rfl)
theorem ob_d {K : PySem.W.Frag} {dx : Addr} {fs : List (Str × V)} : ob K dN dx fs = .dK (fs.map fun x => (.inr x.1, x.2)) := if_pos rfl
section
variable (K : KZ)
mutual
def RV (w : Wd) : Val → V → Prop
  | .non, x => x = .non
  | .bl b, x => x = .bl b
  | .int i, x => x = .int i
  | .str y, x => x = .str y ∧ sOk y
  | .tup vs, x => ∃ p xs, x = .ref p ∧ SqT K w.F p xs ∧ vs.length ≤ sizeLine ∧ RVs w vs xs
  | .lst vs, x => ∃ p xs, x = .ref p ∧ w.F p = some (.lst xs) ∧ vs.length ≤ sizeLine ∧ RVs w vs xs
  | .ins c ns vs, x => ∃ p dx fs, x = .ref p ∧ w.F p = some (ob K c dx fs) ∧ fs.map (·.1) = ns ∧ RVs w vs (fs.map (·.2))
  | .scr ns, x => ∃ p, x = .ref p ∧ SqL K w.F p (ns.map V.int) ∧ ns.length ≤ sizeLine
  | .ref i, x => ∃ p, x = .ref p ∧ w.e[i]? = some p
  | .clo i, x => ∃ p c t o oc ot, x = .ref p ∧ w.F p = some o ∧ w.F c = some oc ∧ w.F t = some ot ∧ K.B.C i p c t o oc ot
def RVs (w : Wd) : List Val → List V → Prop
  | [], xs => xs = []
  | v :: vs, xs => ∃ y ys, xs = y :: ys ∧ RV w v y ∧ RVs w vs ys
end
def RO (w : Wd) (H : Hp) (p : Addr) : SO → Prop
  | .lst vs => ∃ xs, H p = some (.lst xs) ∧ vs.length ≤ sizeLine ∧ RVs K w vs xs
  | .ins c ns vs => ∃ dx fs, H p = some (ob K c dx fs) ∧ fs.map (·.1) = ns ∧ RVs K w vs (fs.map (·.2))
structure RS (w : Wd) (st : Store) (H : Hp) : Prop where
  sub : ∀ p o, w.F p = some o → H p = some o
  len : w.e.length = st.length
  obj : ∀ (i : Nat) (p : Addr) (s : SO), w.e[i]? = some p → st[i]? = some s → RO K w H p s
  nd : w.e.Nodup
  sep : ∀ (i : Nat) (p : Addr), w.e[i]? = some p → w.F p = none
  gub : ∀ p o, w.G p = some o → H p = some o
  gse : ∀ (i : Nat) (p : Addr), w.e[i]? = some p → w.G p = none
  gF : ∀ p, w.G p ≠ none → w.F p = none
  tab : ∀ q ∈ K.B.T, ∃ ps : Array Value, H q.1 = some (.tbl ps) ∧ TriplesOk ps.toList ∧ ∀ (pos : Pos) (cv : Value), codeAmong pos ps.toList = some cv → ∃ c, cv = .ref c ∧ w.F c = some (LamX.CodeO c q.2)
  tabF : ∀ q ∈ K.B.T, w.F q.1 = none ∧ w.G q.1 = none
def RE (w : Wd) (env : Env) (σ : St) : Prop := env.length = σ.length ∧ ∀ (i : Nat) (v : Val), env[i]? = some (some v) → ∃ x, σ[i]? = some (some x) ∧ RV K w v x
def XR (w : Wd) (c : Str) (ns : List Str) (vs : List Val) (cls : Value) (d : Option Addr) : Prop :=
  cls = .ref (cA K c) ∧ ∃ dd fs, d = some dd ∧ w.F dd = some (.xd fs) ∧ fs.map (·.1) = ns ∧ RVs K w vs (fs.map (·.2))
end
section
variable {K : KZ} {w w' : Wd}
theorem SqT.mono {F F' : Hp} (h : ∀ p o, F p = some o → F' p = some o) {p : Addr} {xs : List V} (s : SqT K F p xs) : SqT K F' p xs := by
  rcases s with s | s
  · rcases s with s | ⟨o, s⟩
    · exact .inl (.inl (h _ _ s))
    · exact .inl (.inr ⟨o, h _ _ s⟩)
  · exact .inr s
theorem SqL.mono {F F' : Hp} (h : ∀ p o, F p = some o → F' p = some o) {p : Addr} {xs : List V} (s : SqL K F p xs) : SqL K F' p xs := by
  rcases s with s | s
  · rcases s with s | ⟨o, s⟩
    · exact .inl (.inl (h _ _ s))
    · exact .inl (.inr ⟨o, h _ _ s⟩)
  · exact .inr s
mutual
theorem RV.mono (l : Le w w') : ∀ (v : Val) {x : V}, RV K w v x → RV K w' v x
  | .non, _, h => h
  | .bl _, _, h => h
  | .int _, _, h => h
  | .str _, _, h => h
  | .tup vs, _, h => by
    obtain ⟨p, xs, e, s, z, r⟩ := h
    exact ⟨p, xs, e, SqT.mono l.F s, z, RVs.mono l vs r⟩
  | .lst vs, _, h => by
    obtain ⟨p, xs, e, s, z, r⟩ := h
    exact ⟨p, xs, e, l.F _ _ s, z, RVs.mono l vs r⟩
  | .ins c ns vs, _, h => by
    obtain ⟨p, dx, fs, e, s, z, r⟩ := h
    exact ⟨p, dx, fs, e, l.F _ _ s, z, RVs.mono l vs r⟩
  | .scr ns, _, h => by
    obtain ⟨p, e, s, z⟩ := h
    exact ⟨p, e, SqL.mono l.F s, z⟩
  | .ref i, _, h => by
    obtain ⟨p, e, s⟩ := h
    exact ⟨p, e, l.e _ _ s⟩
  | .clo i, _, h => by
    obtain ⟨p, c, t, o, oc, ot, e, s, s2, s3, z⟩ := h
    exact ⟨p, c, t, o, oc, ot, e, l.F _ _ s, l.F _ _ s2, l.F _ _ s3, z⟩
theorem RVs.mono (l : Le w w') : ∀ (vs : List Val) {xs : List V}, RVs K w vs xs → RVs K w' vs xs
  | [], _, h => h
  | v :: vs, _, h => by
    obtain ⟨y, ys, e, h1, h2⟩ := h
    exact ⟨y, ys, e, RV.mono l v h1, RVs.mono l vs h2⟩
end
theorem RE.mono (l : Le w w') {env : Env} {σ : St} (h : RE K w env σ) : RE K w' env σ := ⟨h.1, fun i v e => by
  obtain ⟨x, e1, r⟩ := h.2 i v e
  exact ⟨x, e1, RV.mono l v r⟩⟩
theorem RVs.nil : RVs K w [] [] := rfl
theorem RVs.cons {v : Val} {vs : List Val} {x : V} {xs : List V} (h : RV K w v x) (t : RVs K w vs xs) : RVs K w (v :: vs) (x :: xs) := ⟨x, xs, rfl, h, t⟩
theorem RVs.length : ∀ {vs : List Val} {xs : List V}, RVs K w vs xs → vs.length = xs.length
  | [], _, h => by cases (show _ = [] from h); rfl
  | _ :: _, _, h => by
    obtain ⟨y, ys, rfl, _, h2⟩ := h
    simp [RVs.length h2]
theorem RVs.get : ∀ {vs : List Val} {xs : List V} {i : Nat} {v : Val}, RVs K w vs xs → vs[i]? = some v → ∃ x, xs[i]? = some x ∧ RV K w v x
  | [], _, _, _, _, e => by simp at e
  | _ :: _, _, 0, _, h, e => by
    obtain ⟨y, ys, rfl, h1, _⟩ := h
    simp at e
    subst e
    exact ⟨y, rfl, h1⟩
  | _ :: _, _, i + 1, _, h, e => by
    obtain ⟨y, ys, rfl, _, h2⟩ := h
    obtain ⟨x, e1, r⟩ := RVs.get (i := i) h2 (by simpa using e)
    exact ⟨x, by simpa using e1, r⟩
theorem RVs.append : ∀ {vs us : List Val} {xs ys : List V}, RVs K w vs xs → RVs K w us ys → RVs K w (vs ++ us) (xs ++ ys)
  | [], _, _, _, h, k => by cases (show _ = [] from h); exact k
  | _ :: _, _, _, _, h, k => by
    obtain ⟨y, ys, rfl, h1, h2⟩ := h
    exact RVs.cons h1 (RVs.append h2 k)
theorem RVs.take : ∀ {vs : List Val} {xs : List V} (n : Nat), RVs K w vs xs → RVs K w (vs.take n) (xs.take n)
  | _, _, 0, _ => by simp [RVs.nil]
  | [], _, _ + 1, h => by cases (show _ = [] from h); exact rfl
  | _ :: _, _, n + 1, h => by
    obtain ⟨y, ys, rfl, h1, h2⟩ := h
    exact RVs.cons h1 (RVs.take n h2)
theorem RVs.drop : ∀ {vs : List Val} {xs : List V} (n : Nat), RVs K w vs xs → RVs K w (vs.drop n) (xs.drop n)
  | _, _, 0, h => h
  | [], _, _ + 1, h => by cases (show _ = [] from h); exact rfl
  | _ :: _, _, n + 1, h => by
    obtain ⟨y, ys, rfl, h1, h2⟩ := h
    exact RVs.drop n h2
theorem RVs.set : ∀ {vs : List Val} {xs : List V} (i : Nat) {v : Val} {x : V}, RVs K w vs xs → RV K w v x → RVs K w (vs.set i v) (xs.set i x)
  | [], _, _, _, _, h, _ => by cases (show _ = [] from h); exact rfl
  | _ :: _, _, 0, _, _, h, r => by
    obtain ⟨y, ys, rfl, h1, h2⟩ := h
    exact RVs.cons r h2
  | _ :: _, _, i + 1, _, _, h, r => by
    obtain ⟨y, ys, rfl, h1, h2⟩ := h
    exact RVs.cons h1 (RVs.set i h2 r)
theorem RVs.ints : ∀ (ns : List Int), RVs K w (ns.map Val.int) (ns.map V.int)
  | [] => rfl
  | _ :: ns => RVs.cons rfl (RVs.ints ns)
theorem ob_tbl {K : PySem.W.Frag} {c : Str} {dx : Addr} {fs : List (Str × V)} {ps : Array Value} : ob K c dx fs ≠ .tbl ps := by
  unfold ob
  split
  · exact fun z => nomatch z
  · split <;> exact fun z => nomatch z
theorem ro_tbl {H : Hp} {p : Addr} {s : SO} (h : RO K w H p s) (ps : Array Value) : H p ≠ some (.tbl ps) := by
  cases s with
  | lst vs => obtain ⟨xs, e', _⟩ := h; rw [e']; exact fun z => nomatch z
  | ins c ns vs => obtain ⟨dx, fs, e', _⟩ := h; rw [e']; exact fun z => ob_tbl (Option.some.inj z)
theorem RS.tabs {st : Store} {H H' : Hp} (h : RS K w st H) (hH : ∀ q ∈ K.B.T, H' q.1 = H q.1) (hF : ∀ p o, w.F p = some o → w'.F p = some o) : ∀ q ∈ K.B.T, ∃ ps : Array Value, H' q.1 = some (.tbl ps) ∧ TriplesOk ps.toList ∧ ∀ (pos : Pos) (cv : Value), codeAmong pos ps.toList = some cv → ∃ c, cv = .ref c ∧ w'.F c = some (LamX.CodeO c q.2) := fun q hq => by
  obtain ⟨ps, h1, h2, h3⟩ := h.tab q hq
  refine ⟨ps, (hH q hq).trans h1, h2, fun pos cv hc => ?_⟩
  obtain ⟨c, e1, e2⟩ := h3 pos cv
                                  hc
  exact ⟨c, e1, hF _ _ e2⟩
theorem RS.tabn {st : Store} {H : Hp} (h : RS K w st H) {p : Addr} (hp : ∀ ps, H p ≠ some (.tbl ps)) : ∀ q ∈ K.B.T, q.1 ≠ p := fun q hq e => by
  obtain ⟨ps, h1, _⟩ := h.tab q hq
  rw [e] at h1
  exact hp ps h1
theorem RS.tab0 {st : Store} {H : Hp} (h : RS K w st H) {p : Addr} (hp : H p = none) : ∀ q ∈ K.B.T, q.1 ≠ p := h.tabn fun ps e => by rw [hp] at e; cases e
theorem RS.freeze {st : Store} {H : Hp} {p : Addr} {o : HO} (h : RS K w st H) (hp : H p = none) : RS K ⟨upd w.F p o, w.e, w.G⟩ st (upd H p o) := by
  have nF : w.F p = none := by
    cases e : w.F p with
    | none => rfl
    | some o' => rw [h.sub _ _ e] at hp; cases hp
  have le : Le w ⟨upd w.F p o, w.e, w.G⟩ := ⟨fun q o' e => by
    show upd w.F p o q = some o'
    rw [upd_ne (fun z => by rw [z, nF] at e; cases e)]; exact e, fun _ _ e => e, rfl⟩
  have ne : ∀ i q, w.e[i]? = some q → q ≠ p := fun i q e z => by
    subst z
    have hl : i < st.length := by rw [← h.len]; exact (List.getElem?_eq_some_iff.mp e).1
    have := h.obj i q _ e (List.getElem?_eq_getElem hl)
    revert this
    cases st[i] with
    | lst vs => rintro ⟨xs, e', _⟩; rw [hp] at e'; cases e'
    | ins c ns vs => rintro ⟨dx, fs, e', _⟩; rw [hp] at e'; cases e'
  refine ⟨fun q o' e => ?_, h.len, fun i q s e1 e2 => ?_, h.nd, fun i q e => ?_, fun q o' e => ?_, h.gse, fun q n => ?_, h.tabs (fun q hq => upd_ne (h.tab0 hp q hq)) le.F, fun q hq => ⟨(upd_ne (h.tab0 hp q hq)).trans (h.tabF q hq).1, (h.tabF q hq).2⟩⟩
  · have e' : upd w.F p o q = some o' := e
    by_cases z : q = p
    · subst z
      rw [upd_same] at e'
      rw [upd_same]; exact e'
    · rw [upd_ne z] at e'
      rw [upd_ne z]; exact h.sub _ _ e'
  · have q' := h.obj i q s e1 e2
    have n := ne i q e1
    cases s with
    | lst vs =>
      obtain ⟨xs, e', z, r⟩ := q'
      exact ⟨xs, by rw [upd_ne n]; exact e', z, RVs.mono le vs r⟩
    | ins c ns vs =>
      obtain ⟨dx, fs, e', z, r⟩ := q'
      exact ⟨dx, fs, by rw [upd_ne n]; exact e', z, RVs.mono le vs r⟩
  · show upd w.F p o q = none
    rw [upd_ne (ne i q e)]; exact h.sep i q e
  · have e' := h.gub q o' e
    rw [upd_ne (fun z => by rw [z, hp] at e'; cases e')]; exact e'
  · show upd w.F p o q = none
    have nq : q ≠ p := fun z => by
      cases e : w.G q with
      | none => exact n e
      | some o' =>
        have := h.gub q o' e
        rw [z, hp] at this; cases this
    rw [upd_ne nq]; exact h.gF q n
theorem RS.freeze_le {st : Store} {H : Hp} {p : Addr} {o : HO} (h : RS K w st H) (hp : H p = none) : Le w ⟨upd w.F p o, w.e, w.G⟩ := ⟨fun q o' e => by
    show upd w.F p o q = some o'
    rw [upd_ne (fun z => by rw [z] at e; rw [h.sub _ _ e] at hp; cases hp)]; exact e, fun _ _ e => e, rfl⟩
theorem ro_some {H : Hp} {p : Addr} {s : SO} (h : RO K w H p s) : H p ≠ none := by
  cases s with
  | lst vs => obtain ⟨xs, e', _⟩ := h; rw [e']; exact fun z => nomatch z
  | ins c ns vs => obtain ⟨dx, fs, e', _⟩ := h; rw [e']; exact fun z => nomatch z
theorem RO.keep {H H' : Hp} {p : Addr} {s : SO} (l : Le w w') (h : RO K w H p s) (e : H' p = H p) : RO K w' H' p s := by
  cases s with
  | lst vs => obtain ⟨xs, e', z, r⟩ := h; exact ⟨xs, e.trans e', z, RVs.mono l vs r⟩
  | ins c ns vs => obtain ⟨dx, fs, e', z, r⟩ := h; exact ⟨dx, fs, e.trans e', z, RVs.mono l vs r⟩
theorem RS.at {st : Store} {H : Hp} {i : Nat} {p : Addr} (h : RS K w st H) (e : w.e[i]? = some p) : ∃ s, st[i]? = some s ∧ RO K w H p s := by
  have hl : i < st.length := by rw [← h.len]; exact (List.getElem?_eq_some_iff.mp e).1
  exact ⟨st[i], List.getElem?_eq_getElem hl, h.obj i p _ e (List.getElem?_eq_getElem hl)⟩
theorem RS.push {st : Store} {H H' : Hp} {p : Addr} {s : SO} (h : RS K w st H) (hp : H p = none) (k : ∀ q, q ≠ p → H q ≠ none → H' q = H q) (o : RO K ⟨w.F, w.e ++ [p], w.G⟩ H' p s) : RS K ⟨w.F, w.e ++ [p], w.G⟩ (st ++ [s]) H' := by
  have le : Le w ⟨w.F, w.e ++ [p], w.G⟩ := ⟨fun _ _ e => e, fun i q e => by
    show (w.e ++ [p])[i]? = some q
    rw [List.getElem?_append_left (List.getElem?_eq_some_iff.mp e).1]; exact e, rfl⟩
  have ne : ∀ q, H q ≠ none → q ≠ p := fun q n z => n (by rw [z]; exact hp)
  refine ⟨fun q o' e => ?_, by simp [h.len], fun i q s' e1 e2 => ?_, ?_, fun i q e => ?_, fun q o' e => ?_, fun i q e => ?_, h.gF, h.tabs (fun q hq => k q.1 (h.tab0 hp q hq) (by obtain ⟨ps, z, _⟩ := h.tab q hq; rw [z]; exact fun y => nomatch y)) fun _ _ z => z, h.tabF⟩
  · have n : H q ≠ none := by rw [h.sub q o' e]; exact fun z => nomatch z
    rw [k q (ne q n) n]; exact h.sub q o' e
  · by_cases hi : i < w.e.length
    · have e1' : w.e[i]? = some q := by
        have z : (w.e ++ [p])[i]? = some q := e1
        rw [List.getElem?_append_left hi] at z; exact z
      rw [List.getElem?_append_left (by rw [← h.len]; exact hi)] at e2
      have q' := h.obj i q s' e1' e2
      have n := ro_some q'
      exact q'.keep le (k q (ne q n) n)
    · have e1' : (w.e ++ [p])[i]? = some q := e1
      rw [List.getElem?_append_right (by omega)] at e1'
      have h0 : i - w.e.length = 0 := by
        have := (List.getElem?_eq_some_iff.mp e1').1
        simp at this; omega
      rw [h0] at e1'
      have hq : p = q := by simpa using e1'
      subst hq
      rw [List.getElem?_append_right (by rw [← h.len]; omega), ← h.len, h0] at e2
      have hs : s = s' := by simpa using e2
      subst hs
      exact o
  · show (w.e ++ [p]).Nodup
    rw [List.nodup_append]
    refine ⟨h.nd, by simp, fun a ha b hb z => ?_⟩
    have hb' : b = p := by simpa using hb
    subst z hb'
    obtain ⟨i, hi⟩ := List.getElem?_of_mem ha
    obtain ⟨s', _, r⟩ := h.at hi
    exact ro_some r hp
  · have e' : (w.e ++ [p])[i]? = some q := e
    by_cases hi : i < w.e.length
    · rw [List.getElem?_append_left hi] at e'
      exact h.sep i q e'
    · rw [List.getElem?_append_right (by omega)] at e'
      have hq : p = q := by
        have := List.mem_of_getElem? e'
        simp at this; exact this.symm
      subst hq
      show w.F p = none
      cases z : w.F p with
      | none => rfl
      | some o' => rw [h.sub _ _ z] at hp; cases hp
  · have e' := h.gub q o' e
    have n : H q ≠ none := by rw [e']; exact fun z => nomatch z
    rw [k q (ne q n) n]; exact e'
  · have e' : (w.e ++ [p])[i]? = some q := e
    by_cases hi : i < w.e.length
    · rw [List.getElem?_append_left hi] at e'
      exact h.gse i q e'
    · rw [List.getElem?_append_right (by omega)] at e'
      have hq : p = q := by
        have := List.mem_of_getElem? e'
        simp at this; exact this.symm
      subst hq
      show w.G p = none
      cases z : w.G p with
      | none => rfl
      | some o' => rw [h.gub _ _ z] at hp; cases hp
theorem RS.push_le (p : Addr) : Le w ⟨w.F, w.e ++ [p], w.G⟩ := ⟨fun _ _ e => e, fun i q e => by
    show (w.e ++ [p])[i]? = some q
    rw [List.getElem?_append_left (List.getElem?_eq_some_iff.mp e).1]; exact e, rfl⟩
theorem RS.set {st : Store} {H : Hp} {i : Nat} {p : Addr} {s : SO} {o : HO} (h : RS K w st H) (e : w.e[i]? = some p) (r : RO K w (upd H p o) p s) : RS K w (st.set i s) (upd H p o) := by
  have il : i < w.e.length := (List.getElem?_eq_some_iff.mp e).1
  refine ⟨fun q o' z => ?_, by simp [h.len], fun j q s' e1 e2 => ?_, h.nd, h.sep, fun q o' z => ?_, h.gse, h.gF, h.tabs (fun q hq => upd_ne (h.tabn (by obtain ⟨s0, _, r0⟩ := h.at e; exact ro_tbl r0) q hq)) fun _ _ z => z, h.tabF⟩
  · have n : q ≠ p := fun y => by subst y; rw [h.sep i q e] at z; cases z
    rw [upd_ne n]; exact h.sub q o' z
  · by_cases hj : j = i
    · subst hj
      rw [e] at e1; cases e1
      rw [List.getElem?_set_self (by rw [← h.len]; exact il)] at e2
      cases e2
      exact r
    · rw [List.getElem?_set_ne (Ne.symm hj)] at
                                                e2
      have n : q ≠ p := fun y => by
        subst y
        have jl : j < w.e.length := (List.getElem?_eq_some_iff.mp e1).1
        have a1 := (List.getElem?_eq_some_iff.mp e1).2
        have a2 := (List.getElem?_eq_some_iff.mp e).2
        exact hj ((List.getElem_inj h.nd).mp (a1.trans a2.symm))
      exact (h.obj j q s' e1 e2).keep (Le.refl w) (upd_ne n)
  · have n : q ≠ p := fun y => by subst y; rw [h.gse i q e] at z; cases z
    rw [upd_ne n]; exact h.gub q o' z
end
section
variable (K : KZ)
def Post {α : Type} (w : Wd) (r : R α) (A : Wd → α → Store → Hp → Prop) (B : XK) : Prop := match r with
  | .ok a st' => ∀ w' H', Le w w' → RS K w' st' H' → A w' a st' H'
  | .err c ns vs st' => ∀ w' cls d H', Le w w' → RS K w' st' H' → XR K w' c ns vs cls d → B cls d H'
  | .stuck => False
end
section
variable {K : KZ} {w w' : Wd}
theorem Post.mono {α : Type} {r : R α} {A : Wd → α → Store → Hp → Prop} {B : XK} (l : Le w w') (h : Post K w r A B) : Post K w' r A B := by
  cases r with
  | ok a st => exact fun w2 H' l2 s => h w2 H' (l.trans l2) s
  | err c ns vs st => exact fun w2 cls d H' l2 s x => h w2 cls d H' (l.trans l2) s x
  | stuck => exact h
theorem Post.imp {α : Type} {r : R α} {A A' : Wd → α → Store → Hp → Prop} {B : XK} (h : Post K w r A B) (k : ∀ w' a st' H', Le w w' → RS K w' st' H' → A w' a st' H' → A' w' a st' H') : Post K w r A' B := by
  cases r with
  | ok a st => exact fun w2 H' l2 s => k w2 a st H' l2 s (h w2 H' l2 s)
  | err c ns vs st => exact h
  | stuck => exact h
theorem Post.seq {α β : Type} {r : R α} {k : α → Store → R β} {A : Wd → β → Store → Hp → Prop} {B : XK} (h : Post K w (r.then_ k) A B) : Post K w r (fun w' a st' _ => Post K w' (k a st') A B) B := by
  cases r with
  | ok a st => exact fun w2 H' l2 s => (show Post K w (k a st) A B from h).mono l2
  | err c ns vs st => exact h
  | stuck => exact h
theorem Post.ok {α : Type} {a : α} {st : Store} {H : Hp} {A : Wd → α → Store → Hp → Prop} {B : XK} (h : Post K w (.ok a st) A B) (s : RS K w st H) : A w a st H := h w H (Le.refl w) s
theorem Post.of {α : Type} {o : Option α} {st : Store} {A : Wd → α → Store → Hp → Prop} {B : XK} (h : Post K w (R.of o st) A B) : ∃ a, o = some a ∧ ∀ w' H', Le w w' → RS K w' st H' → A w' a st H' := by
  cases o with
  | none => exact h.elim
  | some a => exact ⟨a, rfl, h⟩
end
end Mp
end
section
set_option Elab.async false
set_option linter.all false
set_option maxRecDepth 100000
set_option maxHeartbeats
                         4000000
namespace Mp
open PySem L2 PySem.Spec PyProof.Rows
inductive NamesT : List Str → List Expr → Prop
  | nil : NamesT [] []
  | cons {c : Str} {p : Pos} {cs : List Str} {es : List Expr} (h : NamesT cs es) : NamesT (c :: cs) (.Name c p :: es)
inductive IsT (e : Str) : List Str → Expr → Prop
  | one {c : Str} {p1 p2 p3 p4 : Pos} : IsT e [c] (.Call (.Name "isinstance" p1) [.Name e p2, .Name c p3] [] p4)
  | many {cs : List Str} {es : List Expr} {n : Nat} {p1 p2 p3 p4 : Pos} (h : NamesT cs es) : IsT e cs (.Call (.Name "isinstance" p1) [.Name e p2, .Tuple es n p3] [] p4)
inductive FieldT (e : Str) : List (List Str × Str) → List Stmt → Prop
  | last {cs : List Str} {f : Str} {t : Expr} {p5 p6 p7 p8 p9 : Pos} {k : Nat} (h : IsT e cs t) : FieldT e [(cs, f)] [.Return (some (.IfExp t (.Attribute (.Name e p5) f p6) (.Constant .none k p7) p8)) p9]
  | cons {cs : List Str} {f : Str} {t : Expr} {l : List (List Str × Str)} {body : List Stmt} {p5 p6 p7 p8 : Pos} (h : IsT e cs t) (r : FieldT e l body) : FieldT e ((cs, f) :: l) (.If t [.Return (some (.Attribute (.Name e p5) f p6)) p7] [] p8 :: body)
structure FieldN (Y : Cx) (e : Str) (l : List (List Str × Str)) : Prop where
  e0 : Y.N[0]? = some e
  ev : Vis Y.env.scope e
  ed : (e == ("__debug__" : Str)) = false
  ec : (e == ("__classdict__" : Str)) = false
  ig : Gl Y "isinstance"
  im : Y.mg "isinstance" = none
  cl : ∀ q ∈ l, ∀ c ∈ q.1, Gl Y c ∧ Y.mg c = some (.ref (cA Y.K c)) ∧ (c == ("__debug__" : Str)) = false
section
variable {Y : Cx} {a D dd : Addr} {fs : List (Str × V)} {e : Str} {l : List (List Str × Str)}
def isK (K : PySem.W.Frag) (D : Addr) (cs : List Str) : Option Bool := PySem.W.kitAny K (.ref D) (cs.map fun c => .ref (cA K c))
theorem is_test (X : HeldX Y a D dd fs) {cs : List Str} {t : Expr} (h : IsT e cs t) (e0 : Y.N[0]? = some e) (ev : Vis Y.env.scope e) (ed : (e == ("__debug__" : Str)) = false) (ec : (e == ("__classdict__" : Str)) = false) (ig : Gl Y "isinstance") (im : Y.mg "isinstance" = none)
    (hcl : ∀ c ∈ cs, Gl Y c ∧ Y.mg c = some (.ref (cA Y.K c)) ∧ (c == ("__debug__" : Str)) = false) (hz : cs.length ≤ 1000) :
    PT Y t (fun σ H Q => σ[0]? = some (some (.ref a)) ∧ H dd = some (.xd fs) ∧ ∃ b, isK Y.K D cs = some b ∧ ∀ H', (∀ p o, H p = some o → H' p = some o) → Q b H') := by
  have pv : ∀ p : Pos, PE Y (.Name e p) (tVar 0) := fun p => pe_var (i := 0) e0 ev ed ec
  cases h with
  | @one c p1 p2 p3 p4 =>
    obtain ⟨g1, g2, g3⟩ := hcl c (by simp)
    have hp := pa_cons (pv p2) (pa_cons (pe_glob (v := .ref (cA Y.K c)) (pos := p3) g1 g2 rfl g3) pa_nil (by rfl)) (by rfl)
    have hc := pe_callB (p := p1) (pos := p4) (call_isX X) ig im (by decide +kernel) hp (by decide) (by decide) (by rfl) (by rfl)
    have ht := pt_val hc (by intro _; rfl)
    refine ⟨fun pins s σ H Q I ⟨h0, hd, b, hb, q⟩ => ht.run pins s σ H Q I ⟨.ref a, h0, .ref (cA Y.K c), .ref (cA Y.K c), b, rfl, .own _, ?_, hd, b, rfl, q H fun _ _ z => z⟩⟩
    unfold isK at hb
    simp only [List.map_cons, List.map_nil, PySem.W.kitAny] at hb
    cases e3 : PySem.W.kitOne Y.K (.ref D) (.ref (cA Y.K c)) with
    | none => rw [e3] at hb; cases hb
    | some z => rw [e3] at hb; cases z <;> exact hb
  | @many _ es n p1 p2 p3 p4 hn =>
    have hpl : ∀ {cs : List Str} {es : List Expr}, NamesT cs es → ∀ env, starEach es env = es.map fun e => (false, eval e env) := by
      intro cs es h
      induction h with
      | nil => intro env; rfl
      | cons h ih => intro env; show (false, _) :: starEach _ env = _; rw [ih env]; rfl
    have hcs : ∀ {cs : List Str} {es : List Expr}, NamesT cs es → (∀ c ∈ cs, Gl Y c ∧ Y.mg c = some (.ref (cA Y.K c)) ∧ (c == ("__debug__" : Str)) = false) → PA Y es fun _ H Q => Q (cs.map fun c => .ref (cA Y.K c)) H := by
      intro cs es h
      induction h with
      | nil => intro _; exact pa_nil
      | @cons c p cs es h ih =>
        intro hc
        obtain ⟨g1, g2, g3⟩ := hc c (by simp)
        exact (pa_cons (pe_glob (v := .ref (cA Y.K c)) (pos := p) g1 g2 rfl g3) (ih fun c h => hc c (List.mem_cons_of_mem _ h)) (by rfl)).imp fun σ H Q q => q
    have hp := pa_cons (pv p2) (pa_cons (pe_tup (x1 := n) (pos := p3) (hcs hn hcl)) pa_nil (by rfl)) (by rfl)
    have hc := pe_callB (p := p1) (pos := p4) (call_isXT X) ig im (by decide +kernel) hp (by decide) (by decide) (by rfl) (by rfl)
    have ht := pt_val hc (by intro _; rfl)
    refine ⟨fun pins s σ H Q I ⟨h0, hd, b, hb, q⟩ => ht.run pins s σ H Q I ⟨.ref a, h0, by rw [List.length_map, sizeLine_eq]; omega, fun p hp => ?_⟩⟩
    have up : ∀ r o, H r = some o → upd H p (.tup (cs.map fun c => V.ref (cA Y.K c))) r = some o := fun r o z => by
      rw [upd_ne (fun y => by rw [y, hp] at z; cases z)]; exact z
    refine ⟨p, _, cs.map fun c => .ref (cA Y.K c), b, rfl, upd_same, ?_, hb, up _ _ hd, b, rfl, q _ up⟩
    clear hp up ht hc hb
    induction cs with
    | nil => exact .nil
    | cons c r ih => exact .cons (.own _) (by
        have : ∀ (l : List Str), Paired ClsV (l.map fun c => V.ref (cA Y.K c)) (l.map fun c => Value.ref (cA Y.K c)) := by
          intro l
          induction l with
          | nil => exact .nil
          | cons c r ih => exact .cons (.own _) ih
        exact this r)
theorem field_ps (X : HeldX Y a D dd fs) (hno : ∀ f v, fs.lookup f = some v → PySem.W.findIn Y.K (.ref D) f = some none) {l : List (List Str × Str)} {body : List Stmt} (h : FieldT e l body) (FN : FieldN Y e l) (hz : ∀ q ∈ l, q.1.length ≤ 1000) :
    PSs Y body (fun Dn σ H => σ[0]? = some (some (.ref a)) ∧ H dd = some (.xd fs) ∧ ∃ v, fieldX (isK Y.K D) (fun f => fs.lookup f) .non l = some v ∧ ∀ H', (∀ p o, H p = some o → H' p = some o) → Dn.rt v H') := by
  have at_ : ∀ {f : Str} {p5 p6 : Pos}, PySem.W.findIn Y.K (.ref D) f = some none → PE Y (.Attribute (.Name e p5) f p6) (fun σ H Q => σ[0]? = some (some (.ref a)) ∧ H dd = some (.xd fs) ∧ ∃ v, fs.lookup f = some v ∧ Q v H) := fun {f p5 p6} hn =>
    (pe_xfY X hn (pe_var (i := 0) (pos := p5) FN.e0 FN.ev FN.ed FN.ec) rfl).imp fun σ H Q ⟨h0, hd, v, hv, q⟩ => ⟨.ref a, h0, rfl, hd, v, hv, q⟩
  induction h with
  | @last cs f t p5 p6 p7 p8 p9 k hi =>
    have ht := is_test X hi FN.e0 FN.ev FN.ed FN.ec FN.ig FN.im (FN.cl (cs, f) (by simp)) (hz (cs, f) (by simp))
    refine ⟨fun pins s σ H Dn I ⟨h0, hd, v, hv, q⟩ => ?_⟩
    unfold fieldX at hv
    cases hb : isK Y.K D cs with
    | none => simp only [hb] at hv; cases hv
    | some b =>
      simp only [hb] at hv
      cases hl : fs.lookup f with
      | none =>
        have hbf : b = false := by
          cases b with
          | false => rfl
          | true => rw [hl] at hv; cases hv
        subst hbf
        have he : PE Y (.IfExp t (.Attribute (.Name e p5) f p6) (.Constant .none k p7) p8) (tIf _ (fun _ _ _ => False) (tC .non)) := pe_ifExp ht ⟨fun _ _ _ _ _ _ z => z.elim⟩ pe_non
        refine (pss_one (ps_ret (pos := p9) he)).run pins s σ H Dn I ⟨h0, hd, false, hb, fun H' up => ?_⟩
        have e2 : v = .non := by
          unfold fieldX at hv
          exact (Option.some.inj hv).symm
        simp only [Bool.false_eq_true,
                                       if_false]
        subst e2
        exact q H' up
      | some u =>
        have he := pe_ifExp (pos := p8) ht (at_ (p5 := p5) (p6 := p6) (hno f u hl)) (pe_non (j := k) (pos := p7))
        refine (pss_one (ps_ret (pos := p9) he)).run pins s σ H Dn I ⟨h0, hd, b, hb, fun H' up => ?_⟩
        cases b with
        | true =>
          simp only [if_true]
          exact ⟨h0, up _ _ hd, v, hv, q H' up⟩
        | false =>
          simp only [Bool.false_eq_true,
                                         if_false]
          have e2 : v = .non := by
            unfold fieldX at hv
            exact (Option.some.inj hv).symm
          subst e2
          exact q H' up
  | @cons cs f t l body p5 p6 p7 p8 hi r ih =>
    have ht := is_test X hi FN.e0 FN.ev FN.ed FN.ec FN.ig FN.im (FN.cl (cs, f) (by simp)) (hz (cs, f) (by simp))
    have ih' := ih ⟨FN.e0, FN.ev, FN.ed, FN.ec, FN.ig, FN.im, fun q hq => FN.cl q (List.mem_cons_of_mem _ hq)⟩ fun q hq => hz q (List.mem_cons_of_mem _ hq)
    refine ⟨fun pins s σ H Dn I ⟨h0, hd, v, hv, q⟩ => ?_⟩
    unfold fieldX at hv
    cases hb : isK Y.K D cs with
    | none => simp only [hb] at hv; cases hv
    | some b =>
      simp only [hb] at hv
      cases b with
      | true =>
        have hp := pss_cons (ps_if (pos := p8) ht (pss_one (ps_ret (pos := p7) (at_ (p5 := p5) (p6 := p6) (hno f v hv)))) pss_nil) ih'
        refine hp.run pins s σ H Dn I ⟨h0, hd, true, hb, fun H' up => ?_⟩
        simp only [if_true]
        exact ⟨h0, up _ _ hd, v, hv, q H' up⟩
      | false =>
        have hp := pss_cons (ps_if (pos := p8) ht (a := [.Return (some (.Attribute (.Name e p5) f p6)) p7]) (t := tNever) pss_never pss_nil) ih'
        refine hp.run pins s σ H Dn I ⟨h0, hd, false, hb, fun H' up => ?_⟩
        simp only [Bool.false_eq_true,
                                       if_false]
        exact ⟨h0, up _ _ hd, v, hv, fun H'' up2 => q H'' fun p o z => up2 p o (up p o z)⟩
end
end Mp
end
section
set_option Elab.async false
set_option linter.all false
set_option maxRecDepth 100000
set_option maxHeartbeats
                         4000000
namespace Mp
open PySem L2 PySem.Spec PyProof.Rows
structure Def1 (K : PySem.W.Frag) (mg : Str → Option Value) (x : Str) (g : Addr) (N : List Str) (e : Str) (scope : Scope) (body : List Stmt) : Prop where
  ex : ∃ oc od nm qual params dV kV doc pm an cdv ct osl, K.lookup g = some ⟨oc, od, .func (PySem.W.fnOf nm qual params body scope dV kV doc pm an cdv ct), osl⟩ ∧ PySem.W.codeIn K cdv qual = true ∧ L2.Binds K (PySem.W.fnOf nm qual params body scope dV kV doc pm an cdv ct) [e] []
  sc : FnScope N [e] scope
  mg_ : mg x = some (.ref g)
  kp : PySem.W.keepIn K (.ref g) = true
section
variable {X : Cx} {a D dd g : Addr} {oe : Obj} {pn : List (Addr × Obj)} {fs : List (Str × V)} {l : List (List Str × Str)} {N : List Str} {ef : Str} {scope : Scope} {body : List Stmt}
theorem field_call {k : Nat} {x e : Str} {i : Nat} {p q pos : Pos} (hr : Room k X.A) (DF : Def1 X.K X.mg x g N ef scope body) (hT : FieldT ef l body) (hz : ∀ q ∈ l, q.1.length ≤ 1000) (hc : oe.cls = .ref D) (hdi : oe.dict = some dd) (hv : ∃ vs, oe.data = .fields vs) (EC : ExcC X.K D)
    (hno : ∀ f v, fs.lookup f = some v → PySem.W.findIn X.K (.ref D) f = some none) (hgx : Gl X x) (hx : (x == ("__debug__" : Str)) = false) (hi : X.N[i]? = some e) (hvis : Vis X.env.scope e) (hed : (e == ("__debug__" : Str)) = false) (hec : (e == ("__classdict__" : Str)) = false)
    (hn1 : (ef == ("__debug__" : Str)) = false) (hn2 : (ef == ("__classdict__" : Str)) = false) (h0 : N[0]? = some ef) (hig : scope.names.lookup ("isinstance" : Str) = some .globalImplicit) (him : X.mg "isinstance" = none)
    (hcl : ∀ q ∈ l, ∀ c ∈ q.1, scope.names.lookup c = some .globalImplicit ∧ X.mg c = some (.ref (cA X.K c)) ∧ (c == ("__debug__" : Str)) = false) :
    PE (X.suite a ((a, oe) :: pn)) (.Call (.Name x p) [.Name e q] [] pos) (fun σ H Q => σ[i]? = some (some (.ref a)) ∧ H dd = some (.xd fs) ∧ ∃ v, fieldX (isK X.K D) (fun f => fs.lookup f) .non l = some v ∧ ∀ H', (∀ p o, H p = some o → H' p = some o) → Q v H') := by
  obtain ⟨oc, od, nm, qual, params, dV, kV, doc, pm, an, cdv, ct, osl, lk, hcd, hb⟩ := DF.ex
  have S := DF.sc
  refine ⟨fun pins s σ H Q I ⟨hσ, hd, v, hfv, hq⟩ => ?_⟩
  refine wpAny_Call_Name_kw (ld_glob I hgx DF.mg_ ?_ hx)
  have pe : PE (X.suite a ((a, oe) :: pn)) (.Name e q) (tVar i) := pe_var hi hvis hed hec
  refine PySem.W.callWith_K (first := []) (h₀ := X.base) I.ok.mod.kin DF.kp (thn ((pa_cons pe pa_nil (by rfl)).run pos pins s σ H (fun vs H1 => vs = [.ref a] ∧ H1 = H) I ⟨.ref a, hσ, rfl, rfl⟩) fun us s1 ⟨vs, H1, I1, r1, ev, eH⟩ => ⟨I1.kIn, ?_⟩) (by rfl) (by rfl)
  subst ev
  subst eH
  have hpin : L2H.PinOk X.stack H1 s1 (a, oe) := by
    have P1 := I1.pin (a, oe) (List.mem_append_left _ List.mem_cons_self)
    exact ⟨P1.1, P1.2.1, fun hm => (List.mem_cons.mp (I1.stkSub a hm)).elim P1.2.2.1 P1.2.2.2.1, P1.2.2.2.2⟩
  have KX := I1.kIn
  have lim := I1.nolimit
  have e0 := I1.env0
  have bb := hb s1 us KX (by rw [List.append_nil, ← r1.length]; rfl)
  rw [List.append_nil] at bb
  have hkind : ∀ y ∈ [ef].zip us, scope.names.lookup y.1 = some .local ∨ (scope.names.lookup y.1 = some .cell ∧ ((cellsFrom (s1.heap.objs.size + 1) scope.names []).lookup y.1).isSome = true) := fun ⟨n, v⟩ hy => by
    rcases S.par n (List.of_mem_zip hy).1 with q |
                                                   q
    · exact .inl q
    · exact .inr ⟨q, PySem.W.cellsFrom_some _ _ _ (.inl
                                                        q)⟩
  have rc : codeAny (model X.prog X.w) (X.suite a ((a, oe) :: pn)).A (.call (.ref g) ⟨us, []⟩) (CR (fun _ _ _ _ _ _ => False) X.stack X.prog X.w H1 s1 Q (fun _ _ _ => False)) s1 := by
    refine codeAny_call_function (by show X.A.depth < _; exact hr.depth) (KX _ _ lk) rfl S.co S.gen rfl (PySem.W.codeRec_of KX hcd) (bb _ _ _ _ ?_)
    refine wpAny_newFunctionEnv_cells S.kind hkind fun env he s2 x => ?_
    subst he
    refine ⟨lim.keeps x.toInCall.keep, codeAny_func
                                                    ?_⟩
    have J : L2.Inv (L2H.cxH (fun _ _ _ _ _ _ => False) X.prog X.w X.K X.mg X.base N qual scope g cdv (X.suite a ((a, oe) :: pn)).A X.stack s1 H1 (fun _ _ _ => False) (a, oe)) [] (L2.start N [.ref a]) H1 s2 := L2H.inv_startH S hpin e0 rfl r1 x
    have HX : HeldX (L2H.cxH (fun _ _ _ _ _ _ => False) X.prog X.w X.K X.mg X.base N qual scope g cdv (X.suite a ((a, oe) :: pn)).A X.stack s1 H1 (fun _ _ _ => False) (a, oe)) a D dd fs := ⟨⟨oe, List.mem_cons_self, hc, hdi, hv⟩, EC⟩
    have hvs : Vis scope ef := (S.par ef (by simp)).elim .inl fun z => .inr (.inl z)
    have hps := field_ps HX hno hT ⟨h0, hvs, hn1, hn2, hig, him, hcl⟩ hz
    refine wpAny_mono (hps.run [] s2 _ H1 { nx := fun _ H' => Q .non H', rt := Q } J ⟨rfl, hd, v, hfv, hq⟩) (fun fl s' hs => ?_) fun e s' hs => hs
    cases fl with
    | ret u =>
      obtain ⟨v, σ', H', J, rv, q⟩ :=
                                      hs
      exact ⟨v, H', J.os, J.bare, J.base, J.hok, rv, q⟩
    | next =>
      obtain ⟨σ', H', J, q⟩ := hs
      exact ⟨.non, H', J.os, J.bare, J.base, J.hok, rfl, q⟩
    | brk =>
      obtain ⟨_, _, _, q⟩ := hs
      exact False.elim q
    | cont =>
      obtain ⟨_, _, _, q⟩ := hs
      exact False.elim q
  refine wpAny_call (codeAny_mono rc fun r s' hq =>
                                                    ?_)
  cases r with
  | error er => exact False.elim hq
  | ok fl =>
    cases fl with
    | ret u => exact I1.after hq
    | next => exact False.elim hq
    | brk => exact False.elim hq
    | cont => exact False.elim hq
end
theorem fly_push {base : Heap} {l : List PySem.Env} {e : Addr} {Z : Obj → Prop} {h : Heap} {o : Obj} (f : HandSPX.FlyingZ base l e Z h) : HandSPX.FlyingZ base l e Z (h.push o) := by
  obtain ⟨h1, h2, h3, oe, vs, T, oT, ts, a1, a2, a3, a4, a5, a6, a7, a8, a9⟩ := f
  exact ⟨fun b o e => Heap.get?_push_of_some _ (h1 b o e), h2, h3.of_keeps fun b o e _ => ⟨o, Heap.get?_push_of_some _ e, rfl⟩, oe, vs, T, oT, ts, Heap.get?_push_of_some _ a1, a2, a3, a4, a5, a6, Heap.get?_push_of_some _ a7, a8, a9⟩
def wAs3 (K : PySem.W.Frag) (c1 c2 c3 : Value) (i : Nat) (ts : Addr → Value → Option Addr → TS) (Wout : WX) (D : Ends) : WX := fun cls d σ H =>
  ∃ b, PySem.W.exmAny K cls [c1, c2, c3] = some b ∧ (b = true → ∀ a, H a = none → ts a cls d { nx := fun σ' H' => D.nx (σ'.set i none) H', rt := D.rt, bk := fun σ' H' => D.bk (σ'.set i none) H', ct := fun σ' H' => D.ct (σ'.set i none) H' } (σ.set i (some (.ref a))) H) ∧
    (b = false → Wout cls d σ H)
section
variable {X : Cx} {x1 x2 x3 n : Str} {c1 c2 c3 : Value} {i : Nat} {body suite : List Stmt} {b₀ : Stmt} {m : Nat} {np1 np2 np3 tp pos pos' : Pos} {tb : WX → TS} {ts : Addr → Value → Option Addr → TS} {Wout : WX}
theorem ps_try_as3 (hs : X.stack = X.env :: X.outer) (hf : X.env.frame = some X.env.locals) (hN : X.N.Nodup) (hi : X.N[i]? = some n) (hln : X.env.kindOf n = some .local) (hc1 : Names X x1 c1) (hc2 : Names X x2 c2) (hc3 : Names X x3 c3) (tk : Takes X Wout)
    (hb : ∀ (W : WX) (pn : List (Addr × Obj)) (xe : Value → Shared → Prop), Takes (X.tr pn xe) W → PassesOwn (model X.prog X.w) X.A X.env xe → PSs (X.tr pn xe) body (tb
                                                                                                                                                                         W))
    (hsu : ∀ (a : Addr) (oe : Obj) (cls : Value) (d : Option Addr) (pn : List (Addr × Obj)), Zc cls d oe → (∃ vs, oe.data = .fields vs) → PSs (X.suite a ((a, oe) :: pn)) (b₀ :: suite) (ts a cls d))
                                                                                                                                                                                                      :
    PS X (.Try body [.ExceptHandler (some (.Tuple [.Name x1 np1, .Name x2 np2, .Name x3 np3] m tp)) (some n) (b₀ :: suite) pos'] [] [] pos) (fun D σ H => tb (wAs3 X.K c1 c2 c3 i ts Wout D) D σ H) := by
  refine ⟨fun pins s σ H D I h =>
                                  ?_⟩
  have ok := I.ok
  have stackIs : X.A.frames = some (X.env :: X.outer) := by rw [ok.frames, hs]
  have nameLoc : Loc X.env.scope n := .inl hln
  refine wpAny_Try_except ?_
  refine wpAny_mono ((hb (wAs3 X.K c1 c2 c3 i ts Wout D) (X.pn ++ pins) (fun e s₁ => wpAny (model X.prog X.w) X.A (noteFrame e X.env) (fun _ s₂ => wpAny (model X.prog X.w) X.A (setFlight e none) (fun _ s₃ =>
    wpAny (model X.prog X.w) X.A (handleBy e X.env [.ExceptHandler (some (.Tuple [.Name x1 np1, .Name x2 np2, .Name x3 np3] m tp)) (some n) (b₀ :: suite) pos']) (SP X pins D) X.xe s₃) X.xe s₂) X.xe s₁) (fun u s' xx => ?_) PassesOwn.looking).run [] s σ H D (I.toTry _) h) (fun f s1 end1 => ?_) (fun e s1 he => he)
  · obtain ⟨a, B, sT, pins', σ', H', cls, d, rfl, J', newB, up, inFlight, newA, os, sameG, b, caught1, ifSo, ifNot⟩ := xx
    have J : L2.Inv X pins σ' H' sT := J'.ofTry ok
    have inFlight2 : Sky B (X.env :: X.outer) a (Zc cls d) X.env.locals s'.heap := by rw [← hs]; exact inFlight
    show wpAny (model X.prog X.w) X.A (noteFrame (.ref a) X.env) _ _
                                                                     _
    refine Sky.land Zc.steady stackIs hf inFlight2 fun h3 fly1 grow1 => ?_
    have Land1 : L2.Inv X pins σ' H' { s' with heap := h3 } := J.landed newB fly1.1 (up.trans grow1) os sameG
    obtain ⟨exc1, flds1, at1, kind1, data1⟩ := fly1.there
    have noFrameOf : ∀ {h : Heap} {o : Obj} {vs : Array Value}, h.FunFrames B (X.env :: X.outer) → h.get? a = some o → o.data = .fields vs → a ∉ frs (X.env :: X.outer) := fun {h o vs} ff e dd hm => by
      obtain ⟨_, o', e', hnf⟩ := ff.mem
                                        hm
      rw [e] at e'; cases e'
      exact hnf _ dd
    have noFrame := noFrameOf fly1.2.2.1 at1 data1
    have noLoc : a ≠ X.env.locals := fun z => noFrame (List.mem_filterMap.mpr ⟨X.env, List.mem_cons_self, by rw [hf, z]⟩)
    have noOuter : a ∉ X.fs := fun hm => by
      obtain ⟨e, he, q⟩ := List.mem_filterMap.mp
                                                 hm
      exact noFrame (List.mem_filterMap.mpr ⟨e, List.mem_cons_of_mem _ he, q⟩)
    have inSuite1 := Land1.suite at1 data1 newA noLoc noOuter
    refine wpAny_handleBy_cons (codeAny_handlers_test ?_) (by intro q; cases
                                                                             q)
    have nameIs : ∀ {x : Str} {c : Value} {np : Pos}, Names X x c → ∀ {Q : Value → Shared → Prop} {E : Value → Shared → Prop}, Q c { s' with heap := h3 } → wpAny (model X.prog X.w) (X.A.mark (some (.ref a))) (eval (.Name x np) X.env) Q E { s' with heap := h3 } := fun {x c np} hc {Q E} q => by
      obtain ⟨hg, notDebug, hm | ⟨hm, hv, notName⟩⟩ := hc
      · exact ld_glob (X := X.suite a ((a, exc1) :: (X.pn ++ pins))) inSuite1 hg hm q notDebug
      · exact ld_blt (X := X.suite a ((a, exc1) :: (X.pn ++ pins))) inSuite1 hg hm hv q notName notDebug
    refine wpAny_Tuple_spliced ?_
    show wpAny _ _ (spliced ((false, eval (.Name x1 np1) X.env) :: (false, eval (.Name x2 np2) X.env) :: (false, eval (.Name x3 np3) X.env) :: [])) _ _ _
    refine Calls.spliced_cons (nameIs hc1 (Calls.spliced_cons (nameIs hc2 (Calls.spliced_cons (nameIs hc3 (Calls.spliced_nil ⟨by rw [sizeLine_eq]; show 3 ≤ 16777216; decide, ?_⟩))))))
    have at1p : (h3.push { cls := .type "tuple", data := .seq [c1, c2, c3].toArray }).get? a = some exc1 := Heap.get?_push_of_some _ at1
    have fly1p := fly_push (o := { cls := .type "tuple", data := .seq [c1, c2, c3].toArray }) fly1
    have grow1p : s'.heap.UpToSlots (h3.push { cls := .type "tuple", data := .seq [c1, c2, c3].toArray }) := grow1.trans (Heap.UpToSlots.of_keeps fun b o e => Heap.get?_push_of_some _ e)
    have Land1p : L2.Inv X pins σ' H' { s' with heap := h3.push { cls := .type "tuple", data := .seq [c1, c2, c3].toArray } } := J.landed newB fly1p.1 (up.trans grow1p) os sameG
    have lookT : PySem.W.Looks (model X.prog X.w) (h3.push { cls := .type "tuple", data := .seq [c1, c2, c3].toArray }) (typeOf (.ref a)) cls := fun A Q E s k q => wpAny_typeOf_ref (k _ _ at1p) (by rw [kind1.1]; exact q)
    have lookM := PySem.W.exm_tup3 (M := model X.prog X.w) (Land1p.kIn) lookT (Heap.get?_push_at rfl rfl) caught1
    refine lookM.here ?_
    cases b with
    | true =>
      refine codeAny_handlers_suite_as
                                       ?_
      refine HandSPX.lands_againZ fly1p fun h4 fly2 grow2 => ?_
      have Land2 : L2.Inv X pins σ' H' { s' with heap := h4 } := J.landed newB fly2.1 ((up.trans grow1p).trans grow2) os sameG
      obtain ⟨exc2, flds2, at2, kind2, data2⟩ := fly2.there
      have inSuite2 := Land2.suite at2 data2 newA noLoc noOuter
      refine store_ok (X := X.suite a ((a, exc2) :: (X.pn ++ pins))) (v := .ref a) inSuite2 hN hi nameLoc rfl (fun s5 inSuite3 => ?_) (.inr hln)
      refine wpAny_mono ((hsu a exc2 cls d (X.pn ++ pins) kind2 ⟨_, data2⟩).run [] s5 _ H' _ inSuite3 (ifSo rfl a newA)) (fun f so end1 => ?_) (fun _ _ z => False.elim z)
      have leave : ∀ {σo : L2.St} {Ho : Hp} {Q : Shared → Prop}, L2.Inv (X.suite a ((a, exc2) :: (X.pn ++ pins))) [] σo Ho so → (∀ sq, L2.Inv X pins (σo.set i none) Ho sq → Q sq) →
          wpAny (model X.prog X.w) X.A (do bindName X.env n .none; unbindBehindTheSuite X.env n pos') (fun _ sq => Q sq) X.xe so := fun {σo Ho Q} Out hq => gone_ok (Out.unsuite ok) hN hi hln hq
      cases f with
      | next =>
        obtain ⟨σo, Ho, Out, qo⟩ := end1
        exact leave Out fun sq Outq => ⟨_, _, Outq, qo⟩
      | brk =>
        obtain ⟨σo, Ho, Out, qo⟩ := end1
        exact leave Out fun sq Outq => ⟨_, _, Outq, qo⟩
      | cont =>
        obtain ⟨σo, Ho, Out, qo⟩ := end1
        exact leave Out fun sq Outq => ⟨_, _, Outq, qo⟩
      | ret u =>
        obtain ⟨vo, σo, Ho, Out, ro, qo⟩ := end1
        exact leave Out fun sq Outq => ⟨_, _, _, Outq, ro, qo⟩
    | false =>
      show wpAny _ X.A (handleBy (.ref a) X.env []) _ _
                                                        _
      refine wpAny_handleBy_nil ?_
      obtain ⟨k1, k2, k3, oe, vs, T, oT, ts', he, hz, hd, h1, hr⟩ := id fly1p
      unfold PySem.passOn
      refine wpAny_bind (wpAny_field he hd h1
                                              ?_)
      rw [if_neg (show ¬ ((Value.ref T == Value.none) = true) from by
                                                                      simp)]
      have goOn : wpAny (model X.prog X.w) X.A (setFlight (.ref a) X.env.frame) (fun _ s4 => wpAny (model X.prog X.w) X.A (throw (.ref a) : Sem Flow) (SP X pins D) X.xe s4) X.xe { s' with heap := h3.push { cls := .type "tuple", data := .seq [c1, c2, c3].toArray } } := by
        rw [hf]
        refine HandSPX.setFlight_upZ fly1p fun h4 still grow2 => wpAny_throw (tk _ _ ?_)
        exact ⟨a, B, sT, pins, σ', H', cls, d, rfl, J, newB, (up.trans grow1p).trans grow2, .inr (.inr (by rw [hs]; exact still)), newA, os, sameG, ifNot rfl⟩
      first
        | exact wpAny_bind (wpAny_pure (wpAny_bind
                                                   goOn))
        | exact wpAny_bind goOn
  · cases f with
    | next =>
      obtain ⟨σ', H', J', q⟩ := end1
      exact wpAny_execs_nil ⟨σ', H', J'.ofTry ok,
                                                  q⟩
    | brk =>
      obtain ⟨σ', H', J', q⟩ := end1
      exact ⟨σ', H', J'.ofTry ok,
                                  q⟩
    | cont =>
      obtain ⟨σ', H', J', q⟩ := end1
      exact ⟨σ', H', J'.ofTry ok,
                                  q⟩
    | ret u =>
      obtain ⟨v, σ', H', J', r, q⟩ := end1
      exact ⟨v, σ', H', J'.ofTry ok, r,
                                        q⟩
end
end Mp
end
section
set_option Elab.async false
set_option linter.all false
set_option maxRecDepth 100000
set_option maxHeartbeats
                         4000000
namespace Mp
open PySem L2 PySem.Spec PyProof.Rows
def okN (x : Str) : Prop := (x == ("__debug__" : Str)) = false ∧ (x == ("__classdict__" : Str)) = false
inductive GotT (N : List Str) (scope : Scope) (ask : Str) : List Stmt → Prop
  | mk {e : Str} {j n m n2 : Nat} {p1 p2 p3 p4 p5 q1 q2 q3 q4 r1 r2 r3 r4 r5 r6 r7 r8 r9 : Pos} (h0 : N[0]? = some ask) (h1 : N[1]? = some e) (nd : N.Nodup) (hl : scope.names.lookup e = some .local) (ha : scope.names.lookup ask = some .local) (na : okN ask) (ne : okN e)
      (g1 : scope.names.lookup ("SheetError" : Str) = some .globalImplicit) (g2 : scope.names.lookup ("SheetMissing" : Str) = some .globalImplicit) (g3 : scope.names.lookup ("NothingLeft" : Str) = some .globalImplicit) (g4 : scope.names.lookup ("_law_field" : Str) = some .globalImplicit) :
      GotT N scope ask [.Try [.Return (some (.Tuple [.Constant (.str Str.empty) j p1, .Call (.Name ask p2) [] [] p3] n p4)) p5] [.ExceptHandler (some (.Tuple [.Name "SheetError" q1, .Name "SheetMissing" q2, .Name "NothingLeft" q3] m q4)) (some e) [.Return (some (.Tuple [.Attribute (.Name e r1) "code" r2, .Call (.Name "_law_field" r3) [.Name e r4] [] r5] n2 r6)) r7] r8] [] [] r9]
inductive AllT (N : List Str) (scope : Scope) (asks : Str) : List Stmt → Prop
  | mk {ask : Str} {cs : Scope} {p1 p2 p3 p4 p5 p6 p7 : Pos} (h0 : N[0]? = some asks) (h1 : N[1]? = some ask) (nd : N.Nodup) (ha : Vis scope asks) (na : okN asks) (nb : okN ask) (hb : BlkOk N scope cs [(ask, 1)]) (hl : Loc (relS cs scope) ask) (hlf : (relS cs scope).names.lookup ask = some .local) (hg : (relS cs scope).names.lookup ("_law_got" : Str) = some .globalImplicit) :
      AllT N scope asks [.Return (some (.ListComp (.Call (.Name "_law_got" p1) [.Name ask p2] [] p3) [⟨.Name ask p4, .Name asks p5, [], 0⟩] cs p6)) p7]
structure LamOwn (N : List Str) (sc scope : Scope) (pa : Option Str) : Prop where
  kind : scope.kind = .function
  co : scope.isCoroutine =
                           false
  gen : scope.isGenerator =
                            false
  own : ∀ y ∈ scope.names, y.2 ≠ .cell ∧ (y.2 = .local → pa = some y.1)
  par : ∀ a, pa = some a → scope.names.lookup a = some .local ∧ a ∉ N
  free : ∀ y ∈ scope.names, y.2 = .free → sc.names.lookup y.1 = some .cell ∨ sc.names.lookup y.1 = some
                                                                                                        .free
end Mp
end
section
set_option Elab.async false
set_option linter.all false
set_option maxRecDepth 100000
set_option maxHeartbeats
                         1000000
namespace Mp
open PySem L2
theorem sOk_append {x y : Str} (hx : sOk x) (hy : sOk y) (h : x.length + y.length ≤ sizeLine) : sOk (x ++ y) := by
  refine ⟨?_, ?_⟩
  · show (x.cps ++ y.cps).size ≤ _
    rw [Array.size_append]; exact h
  · have h1 := hx.2
    have h2 := hy.2
    unfold PyData.strOk at *
    show (x.cps ++ y.cps).all _ = true
    rw [Array.all_append, h1, h2]; rfl
theorem length_append (x y : Str) : (x ++ y).length = x.length + y.length := by
  show (x.cps ++ y.cps).size = _
  rw [Array.size_append]; rfl
theorem sOk_int {i : Int} (h : i.natAbs.log2 < 1920) : sOk (toString i : String) := by
  refine ⟨int_text_fits h, ?_⟩
  unfold PyData.strOk
  rw [Str.ofString_eq_toList]
  rw [← Array.all_toList]
  rw [List.all_eq_true]
  intro n hn
  simp only [List.mem_map] at hn
  obtain ⟨c, hc, rfl⟩ := hn
  have := int_ascii i c hc
  simp only [decide_eq_true_eq]
  omega
theorem sOk_one {z : Str} {c : Nat} (h : sOk z) (hc : c ∈ z.cps.toList) : sOk ⟨#[c]⟩ := by
  refine ⟨by show 1 ≤ sizeLine; rw [sizeLine_eq]; decide, ?_⟩
  have h1 := h.2
  unfold PyData.strOk at *
  rw [← Array.all_toList, List.all_eq_true] at h1
  simpa using h1 c hc
theorem sOk_sub {z : Str} {l : List Nat} (h : sOk z) (hl : l.length ≤ z.length) (hc : ∀ c ∈ l, c ∈ z.cps.toList) : sOk ⟨l.toArray⟩ := by
  refine ⟨?_, ?_⟩
  · show l.toArray.size ≤ sizeLine
    have := h.1
    rw [List.size_toArray]; omega
  · have h1 := h.2
    unfold PyData.strOk at *
    rw [← Array.all_toList, List.all_eq_true] at h1 ⊢
    intro c hm
    exact h1 c (hc c (by simpa using hm))
section
variable {K : KZ} {w : Wd} {st : Store} {H : Hp}
theorem lstOf_rel {v : Val} {x : V} {vs : List Val} (hS : RS K w st H) (r : RV K w v x) (h : lstOf st v = some vs) : ∃ p xs, x = .ref p ∧ H p = some (.lst xs) ∧ vs.length ≤ sizeLine ∧ RVs K w vs xs := by
  cases v with
  | lst us =>
    obtain ⟨p, xs, e, s, z, rr⟩ := r
    have : us = vs := by simpa [lstOf] using h
    subst this
    exact ⟨p, xs, e, hS.sub _ _ s, z, rr⟩
  | ref i =>
    obtain ⟨p, e, s⟩ := r
    obtain ⟨o, h1, h2⟩ := hS.at s
    simp only [lstOf, h1] at h
    cases o with
    | lst us =>
      have : us = vs := by simpa using h
      subst this
      obtain ⟨xs, e', z, rr⟩ := h2
      exact ⟨p, xs, e, e', z, rr⟩
    | ins c ns ws => simp at h
  | _ => simp [lstOf] at h
theorem seqOf_rel {v : Val} {x : V} {vs : List Val} (hS : RS K w st H) (r : RV K w v x) (h : seqOf st v = some vs) : ∃ p xs, x = .ref p ∧ (SqL K H p xs ∨ SqT K H p xs) ∧ vs.length ≤ sizeLine ∧ RVs K w vs xs := by
  cases v with
  | tup us =>
    obtain ⟨p, xs, e, s, z, rr⟩ := r
    have : us = vs := by simpa [seqOf] using h
    subst this
    exact ⟨p, xs, e, .inr (SqT.mono hS.sub s), z, rr⟩
  | lst us =>
    obtain ⟨p, xs, e, s, z, rr⟩ := lstOf_rel hS r (show lstOf st (.lst us) = some vs from h)
    exact ⟨p, xs, e, .inl (SqL.of s), z, rr⟩
  | ref i =>
    obtain ⟨p, xs, e, s, z, rr⟩ := lstOf_rel hS r (show lstOf st (.ref i) = some vs from h)
    exact ⟨p, xs, e, .inl (SqL.of s), z, rr⟩
  | _ => simp [seqOf, lstOf] at h
theorem insOb_rel {v : Val} {x : V} {c : Str} {ns : List Str} {vs : List Val} (hS : RS K w st H) (r : RV K w v x) (h : insOf st v = some (c, ns, vs)) : ∃ p dx fs, x = .ref p ∧ H p = some (ob K c dx fs) ∧ fs.map (·.1) = ns ∧ RVs K w vs (fs.map (·.2)) := by
  cases v with
  | ins c' ns' us =>
    obtain ⟨p, dx, fs, e, s, z, rr⟩ := r
    simp only [insOf, Option.some.injEq, Prod.mk.injEq] at h
    obtain ⟨rfl, rfl, rfl⟩ := h
    exact ⟨p, dx, fs, e, hS.sub _ _ s, z, rr⟩
  | ref i =>
    obtain ⟨p, e, s⟩ := r
    obtain ⟨o, h1, h2⟩ := hS.at s
    simp only [insOf, h1] at h
    cases o with
    | lst us => simp at h
    | ins c' ns' ws =>
      simp only [Option.some.injEq, Prod.mk.injEq] at h
      obtain ⟨rfl, rfl, rfl⟩ := h
      obtain ⟨dx, fs, e', z, rr⟩ := h2
      exact ⟨p, dx, fs, e, e', z, rr⟩
  | _ => simp [insOf] at h
theorem insOf_rel {v : Val} {x : V} {c : Str} {ns : List Str} {vs : List Val} (hd : c ≠ dN ∧ c ≠ dT) (hS : RS K w st H) (r : RV K w v x) (h : insOf st v = some (c, ns, vs)) : ∃ p dx fs, x = .ref p ∧ H p = some (.ins (cA K c) dx fs) ∧ fs.map (·.1) = ns ∧ RVs K w vs (fs.map (·.2)) := by
  obtain ⟨p, dx, fs, e, h1, h2⟩ := insOb_rel hS r h
  exact ⟨p, dx, fs, e, by rw [h1, ob_ins hd], h2⟩
theorem dctOf_rel {v : Val} {x : V} {ns : List Str} {vs : List Val} (hS : RS K w st H) (r : RV K w v x) (h : dctOf st v = some (ns, vs)) : ∃ (p : Addr) (fs : List (Str × V)), x = .ref p ∧ H p = some (.dK (fs.map fun x => (.inr x.1, x.2))) ∧ fs.map (·.1) = ns ∧ RVs K w vs (fs.map (·.2)) := by
  unfold dctOf at h
  split at h
  · rename_i c ns' vs' e
    split at h
    · rename_i hc
      subst hc
      cases h
      obtain ⟨p, dx, fs, e1, h1, h2⟩ := insOb_rel hS r e
      exact ⟨p, fs, e1, by rw [h1, ob_d], h2⟩
    · cases h
  · cases h
abbrev kf : Str × V → Key × V := fun x => (.inr x.1, x.2)
theorem valV_kf (f : Str) : ∀ fs : List (Str × V), valV (fs.map kf) (.inr f) = fs.lookup f
  | [] => rfl
  | (n, v) :: fs => by
    rw [List.map_cons]
    by_cases e : n = f
    · subst e
      rw [valV_pos rfl]
      simp [List.lookup]
    · rw [valV_neg (by intro z; exact e (Sum.inr.inj z)), valV_kf f fs]
      have : (f == n) = false := by simpa using fun z : f = n => e z.symm
      simp [List.lookup, this]
theorem any_kf (f : Str) (fs : List (Str × V)) : ((fs.map kf).any fun kv => decide (kv.1 = Sum.inr f)) = (fs.map (·.1)).contains f := by
  induction fs with
  | nil => rfl
  | cons a fs ih =>
    rw [List.map_cons, List.any_cons, ih, List.map_cons, List.contains_cons]
    congr 1
    by_cases e : a.1 = f
    · subst e; simp
    · have e2 : f ≠ a.1 := fun z => e z.symm
      simp [e, e2]
theorem put_no (f : Str) (y : V) : ∀ fs : List (Str × V), f ∉ fs.map (·.1) → (fs.map kf).map (fun kv => if kv.1 = Sum.inr f then (kv.1, y) else kv) = fs.map kf ∧ putF f y fs = fs ++ [(f, y)]
  | [], _ => ⟨rfl, rfl⟩
  | (n, v) :: fs, h => by
    simp only [List.map_cons, List.mem_cons, not_or] at h
    obtain ⟨i1, i2⟩ := put_no f y fs h.2
    have e : n ≠ f := fun z => h.1 z.symm
    refine ⟨?_, ?_⟩
    · rw [List.map_cons, List.map_cons, i1, if_neg (by intro z; exact e (Sum.inr.inj z))]
    · simp only [putF, if_neg e, i2, List.cons_append]
theorem put_yes (f : Str) (y : V) : ∀ fs : List (Str × V), f ∈ fs.map (·.1) → (fs.map (·.1)).Nodup → (fs.map kf).map (fun kv => if kv.1 = Sum.inr f then (kv.1, y) else kv) = (putF f y fs).map kf
  | [], h, _ => by simp at h
  | (n, v) :: fs, h, d => by
    rw [List.map_cons, List.nodup_cons] at d
    by_cases e : n = f
    · subst e
      rw [List.map_cons, List.map_cons, (put_no n y fs d.1).1]
      simp only [putF, if_true, List.map_cons]
    · have h' : f ∈ fs.map (·.1) := by
        rw [List.map_cons, List.mem_cons] at h
        rcases h with h | h
        · exact absurd h.symm e
        · exact h
      rw [List.map_cons, List.map_cons, put_yes f y fs h' d.2, if_neg (by intro z; exact e (Sum.inr.inj z))]
      simp only [putF, if_neg e, List.map_cons]
theorem putK_kf (f : Str) (y : V) (fs : List (Str × V)) (d : (fs.map (·.1)).Nodup) : putK (fs.map kf) (.inr f) y = (putF f y fs).map kf := by
  unfold putK
  rw [any_kf]
  by_cases h : f ∈ fs.map (·.1)
  · rw [if_pos (by simpa using h), put_yes f y fs h d]
  · rw [if_neg (by simpa using h), (put_no f y fs h).2, List.map_append]
    rfl
theorem mergeK_kf : ∀ (fs acc : List (Str × V)), ((acc ++ fs).map (·.1)).Nodup → mergeK (acc.map kf) (fs.map kf) = (acc ++ fs).map kf
  | [], acc, _ => by rw [List.append_nil]; rfl
  | a :: fs, acc, d => by
    have e : acc ++ a :: fs = (acc ++ [a]) ++ fs := by simp
    have d2 := d
    rw [e] at d2
    rw [e, ← mergeK_kf fs (acc ++ [a]) d2]
    show mergeK (putK (acc.map kf) (.inr a.1) a.2) (fs.map kf) = _
    have hn : a.1 ∉ acc.map (·.1) := by
      rw [List.map_append, List.map_cons, List.nodup_append] at d
      intro z
      exact d.2.2 _ z a.1 (by simp) rfl
    congr 1
    unfold putK
    rw [any_kf, if_neg (by simpa using hn), List.map_append]
    rfl
theorem fld_rel {f : Str} : ∀ {ns : List Str} {vs : List Val} {fs : List (Str × V)}, fs.map (·.1) = ns → RVs K w vs (fs.map (·.2)) → (∀ v, fld ns vs f = some v → ∃ x, fs.lookup f = some x ∧ RV K w v x) ∧ (fld ns vs f = none → fs.lookup f = none)
  | _, vs, [], e, r => by
    subst e
    cases vs with
    | nil => exact ⟨fun v h => by simp [fld] at h, fun _ => rfl⟩
    | cons _ _ => obtain ⟨y, ys, e, _⟩ := r; simp at e
  | _, vs, (n, x) :: fs, e, r => by
    subst e
    cases vs with
    | nil => have := r.length; simp at this
    | cons v vs =>
      obtain ⟨y, ys, e, h1, h2⟩ := r
      simp only [List.map_cons, List.cons.injEq] at
                                                    e
      obtain ⟨rfl, rfl⟩ := e
      have ih := fld_rel (f := f) (fs := fs) rfl h2
      by_cases q : n = f
      · subst q
        refine ⟨fun u h => ⟨x, by simp, ?_⟩, fun h => ?_⟩
        · simp [fld] at h; subst h; exact h1
        · simp [fld] at h
      · have hb : (f == n) = false := beq_eq_false_iff_ne.mpr fun z => q z.symm
        refine ⟨fun u h => ?_, fun h => ?_⟩
        · have h' : fld (fs.map (·.1)) vs f = some u := by simpa [fld, q] using h
          obtain ⟨z, h3, h4⟩ := ih.1 u h'
          exact ⟨z, by simpa [List.lookup, hb] using h3, h4⟩
        · have h' : fld (fs.map (·.1)) vs f = none := by simpa [fld, q] using h
          simpa [List.lookup, hb] using ih.2 h'
theorem putV_rel {f : Str} {y : Val} {x : V} (rx : RV K w y x) : ∀ {ns : List Str} {vs : List Val} {fs : List (Str × V)}, fs.map (·.1) = ns → RVs K w vs (fs.map (·.2)) → (putF f x fs).map (·.1) = (putV ns vs f y).1 ∧ RVs K w (putV ns vs f y).2 ((putF f x fs).map (·.2))
  | _, vs, [], e, r => by
    subst e
    cases vs with
    | nil => exact ⟨rfl, RVs.cons rx RVs.nil⟩
    | cons _ _ => obtain ⟨y, ys, e, _⟩ := r; simp at e
  | _, vs, (n, z) :: fs, e, r => by
    subst e
    cases vs with
    | nil => have := r.length; simp at this
    | cons v vs =>
      obtain ⟨y', ys, e, h1, h2⟩ := r
      simp only [List.map_cons, List.cons.injEq] at
                                                    e
      obtain ⟨rfl, rfl⟩ := e
      by_cases q : n = f
      · subst q
        simp only [putF, putV, List.map_cons, if_true]
        exact ⟨trivial, RVs.cons rx h2⟩
      · have ih := putV_rel (f := f) rx (fs := fs) rfl h2
        simp only [putF, putV, List.map_cons, if_neg q]
        exact ⟨by rw [ih.1], RVs.cons h1 ih.2⟩
theorem ints_rel : ∀ {vs : List Val} {xs : List V} {ns : List Int}, RVs K w vs xs → intL vs = some ns → xs = ns.map V.int
  | [], _, ns, h, e => by cases (show _ = [] from h); simp [intL] at e; subst e; rfl
  | v :: vs, _, ns, h, e => by
    obtain ⟨y, ys, rfl, h1, h2⟩ := h
    cases v with
    | int i =>
      simp only [intL, Option.map_eq_some_iff] at e
      obtain ⟨ms, e1, rfl⟩ := e
      cases (show y = .int i from h1)
      rw [ints_rel h2 e1]; rfl
    | _ => simp [intL] at e
theorem bools_rel : ∀ {vs : List Val} {xs : List V} {ns : List Bool}, RVs K w vs xs → boolL vs = some ns → xs = ns.map V.bl
  | [], _, ns, h, e => by cases (show _ = [] from h); simp [boolL] at e; subst e; rfl
  | v :: vs, _, ns, h, e => by
    obtain ⟨y, ys, rfl, h1, h2⟩ := h
    cases v with
    | bl i =>
      simp only [boolL, Option.map_eq_some_iff] at e
      obtain ⟨ms, e1, rfl⟩ := e
      cases (show y = .bl i from h1)
      rw [bools_rel h2 e1]; rfl
    | _ => simp [boolL] at e
theorem strs_rel : ∀ {vs : List Val} {xs : List V} {ns : List Str}, RVs K w vs xs → strL vs = some ns → xs = ns.map V.str ∧ ∀ z ∈ ns, sOk z
  | [], _, ns, h, e => by cases (show _ = [] from h); simp [strL] at e; subst e; exact ⟨rfl, by simp⟩
  | v :: vs, _, ns, h, e => by
    obtain ⟨y, ys, rfl, h1, h2⟩ := h
    cases v with
    | str i =>
      simp only [strL, Option.map_eq_some_iff] at e
      obtain ⟨ms, e1, rfl⟩ := e
      obtain ⟨rfl, hs⟩ : y = .str i ∧ sOk i := h1
      obtain ⟨e2, e3⟩ := strs_rel h2 e1
      exact ⟨by rw [e2]; rfl, by simpa using ⟨hs, e3⟩⟩
    | _ => simp [strL] at e
theorem give_tup {vs : List Val} {xs : List V} {A : Wd → Val → Store → Hp → Prop} (hS : RS K w st H) (r : RVs K w vs xs) (hz : vs.length ≤ sizeLine) (h : ∀ w' H', Le w w' → RS K w' st H' → A w' (.tup vs) st H') {Q : VK} (k : ∀ w' H', A w' (.tup vs) st H' → ∀ x, RV K w' (.tup vs) x → Q x H') : ∀ p, H p = none → Q (.ref p) (upd H p (.tup xs)) := by
  intro p hp
  have s := hS.freeze (o := .tup xs) hp
  have l := hS.freeze_le (o := .tup xs) hp
  refine k _ _ (h _ _ l s) (.ref p) ⟨p, xs, rfl, SqT.of (H := upd w.F p (.tup xs)) upd_same, hz, RVs.mono l _ r⟩
theorem give_lst {vs : List Val} {xs : List V} {A : Wd → Val → Store → Hp → Prop} (hS : RS K w st H) (r : RVs K w vs xs) (hz : vs.length ≤ sizeLine) (h : ∀ w' H', Le w w' → RS K w' st H' → A w' (.lst vs) st H') {Q : VK} (k : ∀ w' H', A w' (.lst vs) st H' → ∀ x, RV K w' (.lst vs) x → Q x H') : ∀ p, H p = none → Q (.ref p) (upd H p (.lst xs)) := by
  intro p hp
  have s := hS.freeze (o := .lst xs) hp
  have l := hS.freeze_le (o := .lst xs) hp
  exact k _ _ (h _ _ l s) (.ref p) ⟨p, xs, rfl, show (upd w.F p (.lst xs)) p = _ from upd_same, hz, RVs.mono l _ r⟩
end
def PV (K : KZ) (w : Wd) (st : Store) (o : Option Val) (Q : VK) : Prop := ∃ v, o = some v ∧ ∀ w' H', Le w w' → RS K w' st H' → ∀ x, RV K w' v x → Q x H'
def rOp (K : KZ) (f : Store → Val → Val → Option Val) : R2 := fun x y H Q => ∃ w st a b, RS K w st H ∧ RV K w a x ∧ RV K w b y ∧ PV K w st (f st a b) Q
def pyop : Bop → Operator
  | .add => .Add | .sub => .Sub | .mul => .Mult | .fdiv => .FloorDiv | .mod => .Mod | .pow => .Pow
def pycop : Cop → CmpOp
  | .eq => .Eq | .ne => .NotEq | .lt => .Lt | .le => .LtE | .gt => .Gt | .ge => .GtE | .isn => .Is | .notn => .IsNot | .inn => .In | .notin => .NotIn
section
variable {X : Cx} {Bz : Zs}
theorem now {K : KZ} {w : Wd} {st : Store} {H : Hp} {v : Val} {x : V} {Q : VK} (hS : RS K w st H) (h : ∀ w' H', Le w w' → RS K w' st H' → ∀ x, RV K w' v x → Q x H') (r : RV K w v x) : Q x H := h w H (Le.refl w) hS x r
theorem reps {K : KZ} {w : Wd} {us : List Val} {xs : List V} : ∀ n : Nat, RVs K w us xs → RVs K w (List.replicate n us).flatten (List.replicate n xs).flatten
  | 0, _ => RVs.nil
  | n + 1, h => by
    rw [List.replicate_succ, List.replicate_succ, List.flatten_cons,
                                                                     List.flatten_cons]
    exact RVs.append h (reps n h)
theorem op_bin (op : Bop) : OpR X (binaryOp (pyop op)) (rOp ⟨X.K, Bz⟩ fun st a b => binV st op a b) := by
  intro pins s σ H x y v u Q I rx ry
                                     h
  obtain ⟨w, st, a, b, hS, ra, rb, c, e, q⟩ := h
  replace e : binV st op a b = some c := e
  have lists : ∀ {us ws : List Val}, lstOf st a = some us → lstOf st b = some ws → op = .add → us.length + ws.length ≤ sizeLine → c = .lst (us ++ ws) → wpAny (model X.prog X.w) X.A (binaryOp (pyop op) v u) (EP X pins σ Q) X.xe s := by
    intro us ws h1 h2 ho hz hc
    subst ho hc
    obtain ⟨p, xs, rfl, e1, z1, r1⟩ := lstOf_rel hS ra h1
    obtain ⟨p2, ys, rfl, e2, z2, r2⟩ := lstOf_rel hS rb h2
    refine op_cat pins s σ H _ _ v u Q I rx ry ⟨p, p2, xs, ys, rfl, rfl, e1, e2, by rw [← r1.length, ← r2.length]; exact hz, ?_⟩
    exact give_lst (A := fun w' v st' H' => ∀ x, RV ⟨X.K, Bz⟩ w' v x → Q x H') hS (r1.append r2) (by rw [List.length_append]; exact hz) q (fun _ _ h => h)
  have other : (binV st op a b = match lstOf st a, lstOf st b with
    | some xs, some ys => if op = .add ∧ xs.length + ys.length ≤ sizeLine then some (.lst (xs ++ ys)) else none
    | _, _ => none) → wpAny (model X.prog X.w) X.A (binaryOp (pyop op) v u) (EP X pins σ Q) X.xe s := by
    intro hb
    rw [hb] at e
    cases h1 : lstOf st a with
    | none => rw [h1] at e; cases e
    | some us =>
      cases h2 : lstOf st b with
      | none => rw [h1, h2] at e; cases e
      | some ws =>
        rw [h1, h2] at e
        by_cases hc : op = .add ∧ us.length + ws.length ≤ sizeLine
        · simp only [if_pos hc] at e
          exact lists h1 h2 hc.1 hc.2 (by simpa using e.symm)
        · simp only [if_neg hc] at e; cases e
  cases a with
  | int i =>
    cases b with
    | int j =>
      cases (show x = .int i from ra)
      cases (show y = .int j from rb)
      simp only [binV, Option.map_eq_some_iff] at e
      obtain ⟨k, e, rfl⟩ := e
      have fin := now (x := .int k) hS q rfl
      cases op with
      | add => simp [binI] at e; subst e; exact op_add pins s σ H _ _ v u Q I rx ry ⟨i, j, rfl, rfl, fin⟩
      | sub => simp [binI] at e; subst e; exact op_sub pins s σ H _ _ v u Q I rx ry ⟨i, j, rfl, rfl, fin⟩
      | mul =>
        simp only [binI] at e
        split at e
        · rename_i hc; cases e; exact op_mul pins s σ H _ _ v u Q I rx ry ⟨i, j, rfl, rfl, hc, fin⟩
        · cases e
      | fdiv =>
        simp only [binI] at e
        split at e
        · rename_i hc; cases e; exact op_fdiv pins s σ H _ _ v u Q I rx ry ⟨i, j, rfl, rfl, hc, fin⟩
        · cases e
      | mod =>
        simp only [binI] at e
        split at e
        · rename_i hc; cases e; exact op_mod pins s σ H _ _ v u Q I rx ry ⟨i, j, rfl, rfl, hc, fin⟩
        · cases e
      | pow =>
        simp only [binI] at e
        split at e
        · rename_i hc; cases e; exact op_pow pins s σ H _ _ v u Q I rx ry ⟨i, j, rfl, rfl, hc, fin⟩
        · cases e
    | _ => exact other rfl
  | str i =>
    cases b with
    | str j =>
      obtain ⟨rfl, si⟩ : x = .str i ∧ sOk i := ra
      obtain ⟨rfl, sj⟩ : y = .str j ∧ sOk j := rb
      simp only [binV] at e
      split at e
      · rename_i hc
        cases e
        obtain ⟨rfl, hz⟩ := hc
        exact op_add_str pins s σ H _ _ v u Q I rx ry ⟨i, j, rfl, rfl, hz, now hS q ⟨rfl, sOk_append si sj hz⟩⟩
      · cases e
    | _ => exact other rfl
  | tup us =>
    cases b with
    | tup ws =>
      obtain ⟨p, xs, rfl, s1, z1, r1⟩ := ra
      obtain ⟨p2, ys, rfl, s2, z2, r2⟩ := rb
      simp only [binV] at e
      split at e
      · rename_i hc
        cases e
        obtain ⟨rfl, hne, hz⟩ := hc
        have l1 := r1.length
        have l2 := r2.length
        refine op_catT pins s σ H _ _ v u Q I rx ry ⟨p, p2, xs, ys, rfl, rfl, SqT.mono hS.sub s1, SqT.mono hS.sub s2, fun z => hne ?_, by omega, fun z => ?_, fun z => ?_⟩
        · subst z; exact List.length_eq_zero_iff.mp (by simpa using l1)
        · subst z
          have : ws = [] := List.length_eq_zero_iff.mp (by simpa using l2)
          subst this
          exact now hS q ⟨p, xs, rfl, s1, by simpa using z1, by simpa using r1⟩
        · exact give_tup (A := fun w' v st' H' => ∀ x, RV ⟨X.K, Bz⟩ w' v x → Q x H') hS (r1.append r2) (by rw [List.length_append]; exact hz) q (fun _ _ h => h)
      · cases e
    | _ => exact other rfl
  | lst us =>
    cases b with
    | int k =>
      obtain ⟨p, xs, rfl, hF, z1, r1⟩ := lstOf_rel hS ra (show lstOf st (.lst us) = some us from rfl)
      cases (show y = .int k from rb)
      simp only [binV] at e
      split at e
      · rename_i hc
        cases e
        obtain ⟨rfl, hk0, hk1, hl⟩ := hc
        have l1 := r1.length
        have hz : us.length * k.toNat ≤ 1000 * 1000 := Nat.mul_le_mul hl (by omega)
        have ef : (List.replicate k.toNat us).flatten.length = k.toNat * us.length := by simp
        refine op_rep pins s σ H _ _ v u Q I rx ry ⟨p, k, xs, rfl, rfl, hF, by omega, by omega, by rw [← l1, sizeLine_eq]; omega, ?_⟩
        exact give_lst (A := fun w' v st' H' => ∀ x, RV ⟨X.K, Bz⟩ w' v x → Q x H') hS (reps k.toNat r1) (by rw [ef, Nat.mul_comm, sizeLine_eq]; omega) q (fun _ _ h => h)
      · cases e
    | _ => exact other rfl
  | _ => exact other (by cases b <;> rfl)
mutual
def toPD : Val → PyData
  | .bl b => .bool b
  | .int i => .int i
  | .str x => .str x
  | .tup xs => .tuple (toPDs xs)
  | .lst xs => .list (toPDs xs)
  | _ => .none
def toPDs : List Val → List PyData
  | [] => []
  | x :: xs => toPD x :: toPDs xs
end
mutual
theorem dp_of {w : Wd} {st : Store} {H : Hp} (hS : RS ⟨X.K, Bz⟩ w st H) : ∀ (v : Val) {x : V}, isD v = true → RV ⟨X.K, Bz⟩ w v x → Dp X.K H x (toPD v)
  | .non, _, _, r => by cases (show _ = V.non from r); exact .non
  | .bl b, _, _, r => by cases (show _ = V.bl b from r); exact .bl b
  | .int i, _, _, r => by cases (show _ = V.int i from r); exact .int i
  | .str z, _, _, r => by obtain ⟨rfl, _⟩ := r; exact .str z
  | .tup vs, _, d, r => by
    obtain ⟨p, xs, rfl, s, _, rr⟩ := r
    exact .tup (SqT.mono hS.sub s) (dps_of hS vs (by simpa [isD] using d) rr)
  | .lst vs, _, d, r => by
    obtain ⟨p, xs, rfl, s, _, rr⟩ := r
    exact .lst (SqL.of (hS.sub _ _ s)) (dps_of hS vs (by simpa [isD] using d) rr)
  | .ins _ _ _, _, d, _ => by simp [isD] at d
  | .scr _, _, d, _ => by simp [isD] at d
  | .ref _, _, d, _ => by simp [isD] at d
theorem dps_of {w : Wd} {st : Store} {H : Hp} (hS : RS ⟨X.K, Bz⟩ w st H) : ∀ (vs : List Val) {xs : List V}, isDs vs = true → RVs ⟨X.K, Bz⟩ w vs xs → DpAll X.K H xs (toPDs vs)
  | [], _, _, r => by cases (show _ = [] from r); exact .nil
  | v :: vs, _, d, r => by
    obtain ⟨y, ys, rfl, h1, h2⟩ := r
    simp only [isDs, Bool.and_eq_true] at d
    exact .cons (dp_of hS v d.1 h1) (dps_of hS vs d.2 h2)
end
mutual
theorem lay_of {K : KZ} {w : Wd} : ∀ (v : Val) {x : V}, isD v = true → RV K w v x → (toPD v).canLay0 = true ∧ (toPD v).depth = vdep v
  | .non, _, _, r => ⟨rfl, rfl⟩
  | .bl b, _, _, r => ⟨rfl, rfl⟩
  | .int i, _, _, r => ⟨rfl, rfl⟩
  | .str z, _, _, r => ⟨by simpa [toPD, PyData.canLay0] using r.2.2, rfl⟩
  | .tup vs, _, d, r => by
    obtain ⟨p, xs, rfl, s, _, rr⟩ := r
    obtain ⟨a, b⟩ := lays_of vs (by simpa [isD] using d) rr
    exact ⟨by simpa [toPD, PyData.canLay0] using a, by simp [toPD, PyData.depth, vdep, b]⟩
  | .lst vs, _, d, r => by
    obtain ⟨p, xs, rfl, s, _, rr⟩ := r
    obtain ⟨a, b⟩ := lays_of vs (by simpa [isD] using d) rr
    exact ⟨by simpa [toPD, PyData.canLay0] using a, by simp [toPD, PyData.depth, vdep, b]⟩
  | .ins _ _ _, _, d, _ => by simp [isD] at d
  | .scr _, _, d, _ => by simp [isD] at d
  | .ref _, _, d, _ => by simp [isD] at d
theorem lays_of {K : KZ} {w : Wd} : ∀ (vs : List Val) {xs : List V}, isDs vs = true → RVs K w vs xs → PyData.canLayAll0 (toPDs vs) = true ∧ PyData.depthAll (toPDs vs) = vdeps vs
  | [], _, _, r => ⟨rfl, rfl⟩
  | v :: vs, _, d, r => by
    obtain ⟨y, ys, rfl, h1, h2⟩ := r
    simp only [isDs, Bool.and_eq_true] at d
    obtain ⟨a1, b1⟩ := lay_of v d.1 h1
    obtain ⟨a2, b2⟩ := lays_of vs d.2 h2
    exact ⟨by simp [toPDs, PyData.canLayAll0, a1, a2], by simp [toPDs, PyData.depthAll, vdeps, b1, b2]⟩
end
mutual
theorem eqv_veq : ∀ (a b : Val), isD a = true → isD b = true → PyData.eqv (toPD a) (toPD b) = veq a b
  | .non, b, _, hb => by cases b <;> simp_all [isD, toPD, PyData.eqv, veq]
  | .bl i, b, _, hb => by cases b <;> simp_all [isD, toPD, PyData.eqv, veq]
  | .int i, b, _, hb => by cases b <;> simp_all [isD, toPD, PyData.eqv, veq]
  | .str i, b, _, hb => by cases b <;> simp_all [isD, toPD, PyData.eqv, veq]
  | .tup xs, b, ha, hb => by
    cases b with
    | tup ys =>
      have := eqvs_veqs xs ys (by simpa [isD] using ha) (by simpa [isD] using hb)
      simpa [toPD, PyData.eqv, veq] using this
    | _ => simp_all [isD, toPD, PyData.eqv, veq]
  | .lst xs, b, ha, hb => by
    cases b with
    | lst ys =>
      have := eqvs_veqs xs ys (by simpa [isD] using ha) (by simpa [isD] using hb)
      simpa [toPD, PyData.eqv, veq] using this
    | _ => simp_all [isD, toPD, PyData.eqv, veq]
  | .ins _ _ _, _, d, _ => by simp [isD] at d
  | .scr _, _, d, _ => by simp [isD] at d
  | .ref _, _, d, _ => by simp [isD] at d
theorem eqvs_veqs : ∀ (a b : List Val), isDs a = true → isDs b = true → PyData.eqvAll (toPDs a) (toPDs b) = veqs a b
  | [], [], _, _ => rfl
  | [], _ :: _, _, _ => rfl
  | _ :: _, [], _, _ => rfl
  | x :: xs, y :: ys, ha, hb => by
    simp only [isDs, Bool.and_eq_true] at ha hb
    simp [toPDs, PyData.eqvAll, veqs, eqv_veq x y ha.1 hb.1, eqvs_veqs xs ys ha.2 hb.2]
end
theorem top_rel {w : Wd} {st : Store} {H : Hp} {v : Val} {x : V} (hS : RS ⟨X.K, Bz⟩ w st H) (r : RV ⟨X.K, Bz⟩ w v x) (ok : okD (top st v) = true) : ∃ d, Dp X.K H x d ∧ SeqAt.shaped d = true ∧ d = toPD (top st v) ∧ isD (top st v) = true := by
  obtain ⟨o1, o2⟩ := Bool.and_eq_true_iff.mp ok
  refine ⟨toPD (top st v), ?_, ?_, rfl, o1⟩
  all_goals
    unfold top at o1 o2 ⊢
    cases e : lstOf st v with
    | none =>
      simp only [e] at o1 o2 ⊢
      first
        | exact dp_of hS v o1 r
        | (obtain ⟨a, b⟩ := lay_of v o1 r
           unfold SeqAt.shaped
           rw [a, b]
           have := of_decide_eq_true o2
           simp; omega)
    | some vs =>
      simp only [e] at o1 o2 ⊢
      obtain ⟨p, xs, rfl, hp, hz, rr⟩ := lstOf_rel hS r e
      first
        | exact .lst (SqL.of hp) (dps_of hS vs (by simpa [isD] using o1) rr)
        | (obtain ⟨a, b⟩ := lays_of vs (by simpa [isD] using o1) rr
           unfold SeqAt.shaped
           have := of_decide_eq_true o2
           simp only [vdep] at this
           simp [toPD, PyData.canLay0, PyData.depth, a, b]; omega)
theorem top_in {w : Wd} {st : Store} {H : Hp} {v : Val} {x : V} (hS : RS ⟨X.K, Bz⟩ w st H) (r : RV ⟨X.K, Bz⟩ w v x) (o1 : isD (top st v) = true) : Dp X.K H x (toPD (top st v)) ∧ PyData.canLay0 (toPD (top st v)) = true ∧ PyData.depth (toPD (top st v)) = vdep (top st v) := by
  unfold top at o1 ⊢
  cases e : lstOf st v with
  | none =>
    simp only [e] at o1 ⊢
    exact ⟨dp_of hS v o1 r, (lay_of v o1 r).1, (lay_of v o1 r).2⟩
  | some vs =>
    simp only [e] at o1 ⊢
    obtain ⟨p, xs, rfl, hp, hz, rr⟩ := lstOf_rel hS r e
    have o2 : isDs vs = true := by simpa [isD] using o1
    obtain ⟨a, b⟩ := lays_of vs o2 rr
    exact ⟨.lst (SqL.of hp) (dps_of hS vs o2 rr), by simpa [toPD, PyData.canLay0] using a, by simp [toPD, PyData.depth, vdep, b]⟩
theorem tops_in {w : Wd} {st : Store} {H : Hp} (hS : RS ⟨X.K, Bz⟩ w st H) : ∀ (vs : List Val) {xs : List V}, RVs ⟨X.K, Bz⟩ w vs xs → isDs (vs.map (top st)) = true → DpAll X.K H xs (toPDs (vs.map (top st))) ∧ PyData.canLayAll0 (toPDs (vs.map (top st))) = true ∧ PyData.depthAll (toPDs (vs.map (top st))) = vdeps (vs.map (top st))
  | [], _, r, _ => by
    have : _ = [] := r
    subst this
    exact ⟨.nil, rfl, rfl⟩
  | v :: vs, _, r, d => by
    obtain ⟨y, ys, rfl, h1, h2⟩ := r
    rw [List.map_cons] at d ⊢
    simp only [isDs, Bool.and_eq_true] at d
    obtain ⟨p1, a1, b1⟩ := top_in hS h1 d.1
    obtain ⟨p2, a2, b2⟩ := tops_in hS vs h2 d.2
    exact ⟨.cons p1 p2, by simp [toPDs, PyData.canLayAll0, a1, a2], by simp [toPDs, PyData.depthAll, vdeps, b1, b2]⟩
theorem top2_rel {w : Wd} {st : Store} {H : Hp} {v : Val} {x : V} (hS : RS ⟨X.K, Bz⟩ w st H) (r : RV ⟨X.K, Bz⟩ w v x) (ok : okD (top2 st v) = true) : ∃ d, Dp X.K H x d ∧ SeqAt.shaped d = true ∧ d = toPD (top2 st v) ∧ isD (top2 st v) = true := by
  obtain ⟨o1, o2⟩ := Bool.and_eq_true_iff.mp ok
  refine ⟨toPD (top2 st v), ?_, ?_, rfl, o1⟩
  all_goals
    unfold top2 at o1 o2 ⊢
    cases e : lstOf st v with
    | none =>
      simp only [e] at o1 o2 ⊢
      first
        | exact dp_of hS v o1 r
        | (obtain ⟨a, b⟩ := lay_of v o1 r
           unfold SeqAt.shaped
           rw [a, b]
           have := of_decide_eq_true o2
           simp; omega)
    | some vs =>
      simp only [e] at o1 o2 ⊢
      obtain ⟨p, xs, rfl, hp, hz, rr⟩ := lstOf_rel hS r e
      have o3 : isDs (vs.map (top st)) = true := by simpa [isD] using o1
      obtain ⟨p1, a, b⟩ := tops_in hS vs rr o3
      first
        | exact .lst (SqL.of hp) p1
        | (unfold SeqAt.shaped
           have := of_decide_eq_true o2
           simp only [vdep] at this
           simp [toPD, PyData.canLay0, PyData.depth, a, b]; omega)
theorem eqD_ok {w : Wd} {st : Store} {H : Hp} {a b : Val} {x y : V} {k : Bool} (hS : RS ⟨X.K, Bz⟩ w st H) (ra : RV ⟨X.K, Bz⟩ w a x) (rb : RV ⟨X.K, Bz⟩ w b y) (h : eqD st a b = some k) : ∃ d e, Dp X.K H x d ∧ Dp X.K H y e ∧ SeqAt.shaped d = true ∧ SeqAt.shaped e = true ∧ PyData.eqv d e = k := by
  unfold eqD at h
  split at h
  · rename_i hc
    obtain ⟨o1, o2⟩ := Bool.and_eq_true_iff.mp hc
    obtain ⟨d, h1, h2, e1, i1⟩ := top_rel hS ra o1
    obtain ⟨e, h3, h4, e2, i2⟩ := top_rel hS rb o2
    refine ⟨d, e, h1, h3, h2, h4, ?_⟩
    rw [e1, e2, eqv_veq _ _ i1 i2]
    simpa using h
  · split at h
    · rename_i hc
      obtain ⟨o1, o2⟩ := Bool.and_eq_true_iff.mp hc
      obtain ⟨d, h1, h2, e1, i1⟩ := top2_rel hS ra o1
      obtain ⟨e, h3, h4, e2, i2⟩ := top2_rel hS rb o2
      refine ⟨d, e, h1, h3, h2, h4, ?_⟩
      rw [e1, e2, eqv_veq _ _ i1 i2]
      simpa using h
    · cases h
end
end Mp
end
section
set_option Elab.async false
set_option linter.all false
set_option maxRecDepth 100000
set_option maxHeartbeats
                         1000000
namespace Mp
open PySem L2 PySem.Spec PyProof.Rows
section
variable {X : Cx} {Bz : Zs}
theorem flat_rel {K : KZ} {w : Wd} {a : Val} {x : V} (f : flat a = true) (r : RV K w a x) : flatV x = true := by
  cases a with
  | non => cases (show x = .non from r); rfl
  | bl _ => cases (show x = .bl _ from r); rfl
  | int _ => cases (show x = .int _ from r); rfl
  | str _ => obtain ⟨rfl, _⟩ := r; rfl
  | _ => simp [flat] at f
theorem flats_rel {K : KZ} {w : Wd} : ∀ {vs : List Val} {xs : List V}, vs.all flat = true → RVs K w vs xs → xs.all flatV = true
  | [], _, _, r => by cases (show _ = [] from r); rfl
  | v :: vs, _, f, r => by
    obtain ⟨y, ys, rfl, h1, h2⟩ := r
    simp only [List.all_cons, Bool.and_eq_true] at f ⊢
    exact ⟨flat_rel f.1 h1, flats_rel f.2 h2⟩
theorem eqV_rel {K : KZ} {w : Wd} {a b : Val} {x y : V} (fa : flat a = true) (fb : flat b = true) (ra : RV K w a x) (rb : RV K w b y) : eqV x y = veq a b := by
  cases a with
  | non => cases (show x = .non from ra); cases b <;> first | (simp [flat] at fb; done) | (first | cases (show y = _ from rb) | obtain ⟨rfl, _⟩ := rb) <;> rfl
  | bl _ => cases (show x = .bl _ from ra); cases b <;> first | (simp [flat] at fb; done) | (first | cases (show y = _ from rb) | obtain ⟨rfl, _⟩ := rb) <;> rfl
  | int _ => cases (show x = .int _ from ra); cases b <;> first | (simp [flat] at fb; done) | (first | cases (show y = _ from rb) | obtain ⟨rfl, _⟩ := rb) <;> rfl
  | str _ => obtain ⟨rfl, _⟩ := ra; cases b <;> first | (simp [flat] at fb; done) | (first | cases (show y = _ from rb) | obtain ⟨rfl, _⟩ := rb) <;> rfl
  | _ => simp [flat] at fa
theorem inV_rel {K : KZ} {w : Wd} {a : Val} {x : V} (fa : flat a = true) (ra : RV K w a x) : ∀ {vs : List Val} {xs : List V}, vs.all flat = true → RVs K w vs xs → inV x xs = inL a vs
  | [], _, _, r => by cases (show _ = [] from r); rfl
  | v :: vs, _, f, r => by
    obtain ⟨y, ys, rfl, h1, h2⟩ := r
    simp only [List.all_cons, Bool.and_eq_true] at f
    have ih := inV_rel fa ra f.2 h2
    unfold inV inL at *
    rw [List.any_cons, List.any_cons, ih, eqV_rel f.1 fa h1 ra]
def PB (K : KZ) (w : Wd) (st : Store) (o : Option Bool) (Q : Bool → Hp → Prop) : Prop := ∃ k, o = some k ∧ ∀ w' H', Le w w' → RS K w' st H' → Q k H'
def rCmp (K : KZ) (op : Cop) : R2 := fun x y H Q => ∃ w st a b, RS K w st H ∧ RV K w a x ∧ RV K w b y ∧ PB K w st (cmpV st op a b) fun k H' => Q (.bl k) H'
theorem nowB {K : KZ} {w : Wd} {st : Store} {H : Hp} {k : Bool} {Q : Bool → Hp → Prop} (hS : RS K w st H) (h : ∀ w' H', Le w w' → RS K w' st H' → Q k H') : Q k H := h w H (Le.refl w) hS
theorem non_iff {K : KZ} {w : Wd} {a : Val} {x : V} (r : RV K w a x) : decide (x = .non) = isNon a := by
  cases a with
  | non => cases (show x = .non from r); rfl
  | bl _ => cases (show x = .bl _ from r); rfl
  | int _ => cases (show x = .int _ from r); rfl
  | str _ => obtain ⟨rfl, _⟩ := r; rfl
  | tup _ => obtain ⟨p, xs, rfl, _⟩ := r; rfl
  | lst _ => obtain ⟨p, xs, rfl, _⟩ := r; rfl
  | ins _ _ _ => obtain ⟨p, xs, fs, rfl, _⟩ := r; rfl
  | scr _ => obtain ⟨p, rfl, _⟩ := r; rfl
  | ref _ => obtain ⟨p, rfl, _⟩ := r; rfl
  | clo _ => obtain ⟨p, _, _, _, _, _, rfl, _⟩ := r; rfl
theorem any_pd : ∀ (a : Val) (xs : List Val), isD a = true → isDs xs = true → (toPDs xs).any (fun z => PyData.eqv z (toPD a)) = inL a xs
  | a, [], _, _ => rfl
  | a, x :: xs, ha, hx => by
    simp only [isDs, Bool.and_eq_true] at hx
    unfold inL
    simp only [toPDs, List.any_cons, eqv_veq x a hx.1 ha]
    rw [any_pd a xs ha hx.2]; rfl
theorem op_inT (hu : X.A.units + 65 < cLine) {K : PySem.W.Frag} (hK : K = X.K) : OpR X (compareOp .In) (fun x y H Q => ∃ d ds, Dp K H x d ∧ Dp K H y (.tuple ds) ∧ SeqAt.shaped d = true ∧ SeqAt.shaped (.tuple ds) = true ∧ Q (.bl (ds.any fun z => PyData.eqv z d)) H) := by
  subst hK
  intro pins s σ H x y v u Q I rx ry ⟨d, ds, g1, g2, g3, g4, q⟩
  obtain ⟨as, r1⟩ := Dp.reads I d x v g1 rx
  obtain ⟨bs, r2⟩ := Dp.reads I (.tuple ds) y u g2 ry
  exact SeqAt.in_tuple_reads r2 r1 (SeqAt.canLay_of_shaped g4) (SeqAt.canLay_of_shaped g3) (room_in_shaped g3 hu) ⟨.bl _, H, I, rfl, q⟩
theorem op_notInT (hu : X.A.units + 65 < cLine) {K : PySem.W.Frag} (hK : K = X.K) : OpR X (compareOp .NotIn) (fun x y H Q => ∃ d ds, Dp K H x d ∧ Dp K H y (.tuple ds) ∧ SeqAt.shaped d = true ∧ SeqAt.shaped (.tuple ds) = true ∧ Q (.bl (!ds.any fun z => PyData.eqv z d)) H) := by
  subst hK
  intro pins s σ H x y v u Q I rx ry ⟨d, ds, g1, g2, g3, g4, q⟩
  obtain ⟨as, r1⟩ := Dp.reads I d x v g1 rx
  obtain ⟨bs, r2⟩ := Dp.reads I (.tuple ds) y u g2 ry
  exact SeqAt.notIn_tuple_reads r2 r1 (SeqAt.canLay_of_shaped g4) (SeqAt.canLay_of_shaped g3) (room_in_shaped g3 hu) ⟨.bl _, H, I, rfl, q⟩
theorem op_cmp (op : Cop) (hu65 : X.A.units + 65 < cLine) : OpR X (compareOp (pycop op)) (rCmp ⟨X.K, Bz⟩ op) := by
  intro pins s σ H x y v u Q I rx ry
                                     h
  obtain ⟨w, st, a, b, hS, ra, rb, k, e, q⟩ := h
  have fin : Q (.bl k) H := nowB (Q := fun k H' => Q (.bl k) H') hS q
  have hu : X.A.units + 64 < cLine := by omega
  have seq : ∀ (neg : Bool), (op = if neg then .notin else .inn) → ((memV st a b).map fun c => if neg then !c else c) = some k → wpAny (model X.prog X.w) X.A (compareOp (pycop op) v u) (EP X pins σ Q) X.xe s := by
    intro neg ho e0
    obtain ⟨c, e1, e2⟩ := Option.map_eq_some_iff.mp e0
    unfold memV at e1
    cases h1 : seqOf st b with
    | none => rw [h1] at e1; cases e1
    | some vs =>
      rw [h1] at e1
      simp only at e1
      obtain ⟨p, xs, rfl, hp, hz, rr⟩ := seqOf_rel hS rb h1
      split at e1
      · rename_i hc
        obtain ⟨f1, f2⟩ := Bool.and_eq_true_iff.mp hc
        have ei := inV_rel f1 ra f2 rr
        have ec : inL a vs = c := by simpa using e1
        cases neg with
        | true =>
          subst ho
          exact op_notIn_seq pins s σ H _ _ v u Q I rx ry ⟨p, xs, rfl, hp, flat_rel f1 ra, flats_rel f2 rr, by
            have e' : (!c) = k := e2
            simp only [if_true, ei, ec, e']; exact fin⟩
        | false =>
          subst ho
          exact op_in_seq pins s σ H _ _ v u Q I rx ry ⟨p, xs, rfl, hp, flat_rel f1 ra, flats_rel f2 rr, by
            have e' : c = k := e2
            simp only [Bool.false_eq_true, if_false, ei, ec, e']; exact fin⟩
      · split at e1
        · rename_i hc
          simp only [Bool.and_eq_true, Bool.or_eq_true] at hc
          obtain ⟨⟨o1, o2⟩, o3⟩ := hc
          rcases o3 with o3 | o3
          case inr =>
            cases b <;> first | (cases o3; done) | skip
            cases h1
            obtain ⟨d1, g1, g2, g3, g4⟩ := top_rel hS ra o1
            obtain ⟨d2, k1, k2, k3, k4⟩ := top_rel hS rb o2
            subst g3
            subst k3
            have ea := any_pd (top st a) vs g4 (by simpa [isD, top, lstOf] using k4)
            have ec : inL (top st a) vs = c := by simpa using e1
            cases neg with
            | true =>
              subst ho
              exact op_notInT hu65 rfl pins s σ H _ _ v u Q I rx ry ⟨_, _, g1, k1, g2, k2, by
                have e' : (!c) = k := e2
                rw [ea, ec, e']; exact fin⟩
            | false =>
              subst ho
              exact op_inT hu65 rfl pins s σ H _ _ v u Q I rx ry ⟨_, _, g1, k1, g2, k2, by
                have e' : c = k := e2
                rw [ea, ec, e']; exact fin⟩
          obtain ⟨us, h2⟩ := Option.isSome_iff_exists.mp o3
          have hv : us = vs := by
            have : seqOf st b = lstOf st b := by
              cases b <;> first | rfl | (cases h2; done)
            rw [h1, h2] at this
            exact (Option.some.inj
                                   this).symm
          subst hv
          have ht : top st b = .lst us := by unfold top; rw [h2]
          obtain ⟨d1, g1, g2, g3, g4⟩ := top_rel hS ra o1
          obtain ⟨d2, k1, k2, k3, k4⟩ := top_rel hS rb o2
          rw [ht] at k3 k4
          subst g3
          subst k3
          have ea := any_pd (top st a) us g4 (by simpa [isD] using k4)
          have ec : inL (top st a) us = c := by simpa using e1
          cases neg with
          | true =>
            subst ho
            exact op_notInD hu65 pins s σ H _ _ v u Q I rx ry ⟨_, _, g1, k1, g2, k2, by
              have e' : (!c) = k := e2
              rw [ea, ec, e']; exact fin⟩
          | false =>
            subst ho
            exact op_inD hu65 pins s σ H _ _ v u Q I rx ry ⟨_, _, g1, k1, g2, k2, by
              have e' : c = k := e2
              rw [ea, ec, e']; exact fin⟩
        · cases e1
  cases op with
  | isn =>
    cases b with
    | non =>
      simp only [cmpV] at e
      refine op_isN pins s σ H _ _ v u Q I rx ry ⟨rb, ?_⟩
      rw [non_iff ra]
      cases e; exact fin
    | bl y' =>
      cases a with
      | bl x' =>
        subst ra rb
        refine op_is_bl pins s σ H _ _ v u Q I rx ry ⟨x', y', rfl, rfl, ?_⟩
        simp only [cmpV] at e
        cases e; exact fin
      | _ => simp [cmpV] at e
    | _ => simp [cmpV] at e
  | notn =>
    cases b with
    | non =>
      simp only [cmpV] at e
      refine op_notN pins s σ H _ _ v u Q I rx ry ⟨rb, ?_⟩
      rw [non_iff ra]
      cases e; exact fin
    | bl y' =>
      cases a with
      | bl x' =>
        subst ra rb
        refine op_isnot_bl pins s σ H _ _ v u Q I rx ry ⟨x', y', rfl, rfl, ?_⟩
        simp only [cmpV] at e
        cases e; exact fin
      | _ => simp [cmpV] at e
    | _ => simp [cmpV] at e
  | inn =>
    by_cases hs : ∃ z y', a = .str z ∧ b = .str y'
    · obtain ⟨z, y', rfl, rfl⟩ := hs
      obtain ⟨rfl, _⟩ := ra
      obtain ⟨rfl, _⟩ := rb
      simp only [cmpV, Option.some.injEq] at e
      refine op_in_str pins s σ H _ _ v u Q I rx ry ⟨z, y', rfl, rfl, ?_⟩
      have e' : (!(Builtin.Str.occurrences y' z 0 y'.length 1).isEmpty) = k := e
      rw [e']; exact fin
    · refine seq false rfl ?_
      rw [← e]
      have e3 : cmpV st .inn a b = memV st a b := by
        unfold cmpV
        cases a <;> cases b <;> first | rfl | exact absurd ⟨_, _, rfl, rfl⟩ hs
      rw [e3]
      cases memV st a b <;> rfl
  | notin =>
    by_cases hs : ∃ z y', a = .str z ∧ b = .str y'
    · obtain ⟨z, y', rfl, rfl⟩ := hs
      obtain ⟨rfl, _⟩ := ra
      obtain ⟨rfl, _⟩ := rb
      simp only [cmpV, Option.some.injEq] at e
      refine op_notIn_str pins s σ H _ _ v u Q I rx ry ⟨z, y', rfl, rfl, ?_⟩
      have e' : (!(!(Builtin.Str.occurrences y' z 0 y'.length 1).isEmpty)) = k := e
      rw [e']; exact fin
    · refine seq true rfl ?_
      rw [← e]
      have e3 : cmpV st .notin a b = (memV st a b).map (!·) := by
        unfold cmpV
        cases a <;> cases b <;> first | rfl | exact absurd ⟨_, _, rfl, rfl⟩ hs
      rw [e3]
      cases memV st a b <;> rfl
  | eq =>
    obtain ⟨d, e', h1, h2, h3, h4, h5⟩ := eqD_ok hS ra rb (show eqD st a b = some k from e)
    exact op_eqD hu pins s σ H _ _ v u Q I rx ry ⟨d, e', h1, h2, h3, h4, by rw [h5]; exact fin⟩
  | ne =>
    have e0 : (eqD st a b).map (!·) = some k := e
    obtain ⟨k', e1, e2⟩ := Option.map_eq_some_iff.mp e0
    obtain ⟨d, e', h1, h2, h3, h4, h5⟩ := eqD_ok hS ra rb e1
    exact op_neD hu pins s σ H _ _ v u Q I rx ry ⟨d, e', h1, h2, h3, h4, by rw [h5, e2]; exact fin⟩
  | lt =>
    cases a with
    | int i =>
      cases b with
      | int j =>
        cases (show x = .int i from ra); cases (show y = .int j from rb)
        replace e : some (decide (i < j)) = some k := e
        cases e
        exact op_lt pins s σ H _ _ v u Q I rx ry ⟨i, j, rfl, rfl, fin⟩
      | _ => simp [cmpV] at e
    | _ => simp [cmpV] at e
  | le =>
    cases a with
    | int i =>
      cases b with
      | int j =>
        cases (show x = .int i from ra); cases (show y = .int j from rb)
        replace e : some (decide (i ≤ j)) = some k := e
        cases e
        exact op_le pins s σ H _ _ v u Q I rx ry ⟨i, j, rfl, rfl, fin⟩
      | _ => simp [cmpV] at e
    | _ => simp [cmpV] at e
  | gt =>
    cases a with
    | int i =>
      cases b with
      | int j =>
        cases (show x = .int i from ra); cases (show y = .int j from rb)
        replace e : some (decide (j < i)) = some k := e
        cases e
        exact op_gt pins s σ H _ _ v u Q I rx ry ⟨i, j, rfl, rfl, fin⟩
      | _ => simp [cmpV] at e
    | _ => simp [cmpV] at e
  | ge =>
    cases a with
    | int i =>
      cases b with
      | int j =>
        cases (show x = .int i from ra); cases (show y = .int j from rb)
        replace e : some (decide (j ≤ i)) = some k := e
        cases e
        exact op_ge pins s σ H _ _ v u Q I rx ry ⟨i, j, rfl, rfl, fin⟩
      | _ => simp [cmpV] at e
    | _ => simp [cmpV] at e
def rTru (K : KZ) : V → Hp → (Bool → Hp → Prop) → Prop := fun x H Q => ∃ w st a, RS K w st H ∧ RV K w a x ∧ PB K w st (truV st a) Q
theorem isEmpty_rel {K : KZ} {w : Wd} {vs : List Val} {xs : List V} (r : RVs K w vs xs) : vs.isEmpty = xs.isEmpty := by
  have := r.length
  cases vs <;> cases xs <;> simp_all
theorem tru_ok2 : TruR X (rTru ⟨X.K, Bz⟩) := by
  intro pins s σ H x v Q I rx h
  obtain ⟨w, st, a, hS, ra, k, e, q⟩ := h
  have fin : Q k H := nowB hS q
  refine tru_ok pins s σ H x v Q I rx ⟨k, ?_, fin⟩
  have list : ∀ {us : List Val}, lstOf st a = some us → (!us.isEmpty) = k → TruV X.K x H k := by
    intro us h1 h2
    obtain ⟨p, xs, rfl, hp, hz, rr⟩ := lstOf_rel hS ra h1
    exact .inl ⟨xs, SqL.of hp, by rw [← h2, isEmpty_rel rr]⟩
  cases a with
  | non => cases (show x = .non from ra); simp [truV] at e; exact e
  | bl b => cases (show x = .bl b from ra); simp [truV] at e; exact e.symm
  | int i => cases (show x = .int i from ra); simp only [truV, Option.some.injEq] at e; exact e.symm
  | str z => obtain ⟨rfl, h1, _⟩ := ra; simp only [truV, Option.some.injEq] at e; exact ⟨h1, e.symm⟩
  | tup us =>
    obtain ⟨p, xs, rfl, hp, hz, rr⟩ := ra
    simp only [truV, Option.some.injEq] at e
    exact .inr (.inl ⟨xs, SqT.mono hS.sub hp, by rw [← e, isEmpty_rel rr]⟩)
  | lst us => exact list rfl (by simpa [truV, lstOf] using e)
  | ref i =>
    simp only [truV, Option.map_eq_some_iff] at e
    obtain ⟨us, e1, e2⟩ := e
    exact list e1 e2
  | _ => simp [truV, lstOf] at e
theorem atI_rel {K : KZ} {w : Wd} {vs : List Val} {xs : List V} {i : Int} {v : Val} (r : RVs K w vs xs) (h : atI vs i = some v) : ∃ x, atI xs i = some x ∧ RV K w v x := by
  unfold atI at *
  rw [← r.length]
  cases e : ixN vs.length i with
  | none => rw [e] at h; cases
                               h
  | some j =>
    rw [e] at h
    exact r.get h
theorem ix_ok : IxR X (rOp ⟨X.K, Bz⟩ ixV) := by
  intro value slice pins s σ H x y v u Q I rx ry h
                                                   hs
  obtain ⟨w, st, a, b, hS, ra, rb, c, e, q⟩ := h
  have seq : ∀ {j : Int} {us : List Val}, b = .int j → seqOf st a = some us → atI us j = some c → wpAny (model X.prog X.w) X.A (subscriptTail value slice v u) (EP X pins σ Q) X.xe s := by
    intro j us hb h1 h2
    subst hb
    cases (show y = .int j from rb)
    obtain ⟨p, xs, rfl, hp, hz, rr⟩ := seqOf_rel hS ra h1
    obtain ⟨z, h3, h4⟩ := atI_rel rr h2
    have fin := now hS q h4
    rcases hp with hp | hp
    · exact ix_list value slice pins s σ H _ _ v u Q I rx ry ⟨p, xs, j, z, rfl, rfl, hp, h3, fin⟩ hs
    · exact ix_tup value slice pins s σ H _ _ v u Q I rx ry ⟨p, xs, j, z, rfl, rfl, hp, h3, fin⟩ hs
  cases b with
  | int j =>
    have gen : (match seqOf st a with | some xs => atI xs j | none => none) = some c → wpAny (model X.prog X.w) X.A (subscriptTail value slice v u) (EP X pins σ Q) X.xe s := by
      intro e
      cases h1 : seqOf st a with
      | none => rw [h1] at e; cases e
      | some us => rw [h1] at e; exact seq rfl h1 e
    cases a with
    | str z =>
      obtain ⟨rfl, sz⟩ := ra
      cases (show y = .int j from rb)
      simp only [ixV, Option.map_eq_some_iff] at e
      obtain ⟨d, e1, rfl⟩ := e
      refine ix_str value slice pins s σ H _ _ v u Q I rx ry ⟨z, j, d, rfl, rfl, sz.1, e1, now hS q ⟨rfl, sOk_one sz ?_⟩⟩ hs
      unfold atI at e1
      cases e2 : ixN z.cps.toList.length j with
      | none => rw [e2] at e1; cases e1
      | some n => rw [e2] at e1; exact List.mem_of_getElem? e1
    | _ => exact gen e
  | _ => cases a <;> simp [ixV] at e
theorem cut_length {α : Type} (xs : List α) (lo hi : Option Int) : (cut xs lo hi).length ≤ xs.length := by
  unfold cut
  rw [List.length_take,
                        List.length_drop]
  omega
theorem cut_rel {K : KZ} {w : Wd} {vs : List Val} {xs : List V} (lo hi : Option Int) (r : RVs K w vs xs) : RVs K w (cut vs lo hi) (cutV xs lo hi) := by
  unfold cut cutV
  rw [r.length]
  exact (r.drop _).take _
def rSlc (K : KZ) : V → Option Int → Option Int → Hp → VK → Prop := fun x lo hi H Q => ∃ w st a, RS K w st H ∧ RV K w a x ∧ PV K w st (slcV st a lo hi) Q
theorem slc_ok : SlR X (rSlc ⟨X.K, Bz⟩) := by
  intro pins s σ H x v vl vu lo hi sl Q I rx hs pl pu
                                                      h
  obtain ⟨w, st, a, hS, ra, c, e, q⟩ := h
  have list : ∀ {us : List Val}, lstOf st a = some us → c = .lst (cut us lo hi) → ∃ T id, typeLookup (.type T) "__getitem__" = pure (some (.builtin id)) ∧ s.TypeIs v T ∧ wpAny (model X.prog X.w) X.A (getItem v (.ref sl)) (EP X pins σ Q) X.xe s := by
    intro us h1 h2
    subst h2
    obtain ⟨p, xs, rfl, hp, hz, rr⟩ := lstOf_rel hS ra h1
    refine sl_list pins s σ H _ v vl vu lo hi sl Q I rx hs pl pu ⟨p, xs, rfl, SqL.of hp, ?_⟩
    exact give_lst (A := fun w' v st' H' => ∀ x, RV ⟨X.K, Bz⟩ w' v x → Q x H') hS (cut_rel lo hi rr) (Nat.le_trans (cut_length _ _ _) hz) q (fun _ _ h => h)
  cases a with
  | tup us =>
    obtain ⟨p, xs, rfl, hp, hz, rr⟩ := ra
    simp only [slcV] at e
    split at e
    · cases e
    · rename_i hc
      cases e
      refine sl_tup pins s σ H _ v vl vu lo hi sl Q I rx hs pl pu ⟨p, xs, rfl, SqT.mono hS.sub hp, by rw [← rr.length]; exact hc, ?_⟩
      exact give_tup (A := fun w' v st' H' => ∀ x, RV ⟨X.K, Bz⟩ w' v x → Q x H') hS (cut_rel lo hi rr) (Nat.le_trans (cut_length _ _ _) hz) q (fun _ _ h => h)
  | str z =>
    obtain ⟨rfl, sz⟩ := ra
    simp only [slcV, Option.some.injEq] at e
    subst e
    refine sl_str pins s σ H _ v vl vu lo hi sl Q I rx hs pl pu ⟨z, rfl, sz.1, now hS q ⟨rfl, ?_⟩⟩
    refine sOk_sub sz ?_ fun c hc => List.mem_of_mem_drop (List.mem_of_mem_take hc)
    have := cutS_length z lo hi
    have h2 : (cutS z lo hi).length = (List.take (HT.sIx z.length z.length hi - HT.sIx z.length 0 lo) (List.drop (HT.sIx z.length 0 lo) z.cps.toList)).toArray.size := rfl
    rw [h2, List.size_toArray] at this
    exact this
  | scr ns =>
    obtain ⟨p, rfl, hp, hz⟩ := ra
    simp only [slcV, Option.some.injEq] at e
    subst e
    refine sl_list pins s σ H _ v vl vu lo hi sl Q I rx hs pl pu ⟨p, ns.map V.int, rfl, SqL.mono hS.sub hp, ?_⟩
    have r0 : RVs ⟨X.K, Bz⟩ w ((cut ns lo hi).map Val.int) (cutV (ns.map V.int) lo hi) := by
      have : cutV (ns.map V.int) lo hi = (cut ns lo hi).map V.int := by
        unfold cutV cut
        rw [List.length_map, ← List.map_drop, ← List.map_take]
      rw [this]
      exact RVs.ints _
    exact give_lst (A := fun w' v st' H' => ∀ x, RV ⟨X.K, Bz⟩ w' v x → Q x H') hS r0 (by rw [List.length_map]; exact Nat.le_trans (cut_length _ _ _) hz) q (fun _ _ h => h)
  | lst us => exact list rfl (by simpa [slcV, lstOf] using e.symm)
  | ref i =>
    simp only [slcV, Option.map_eq_some_iff] at e
    obtain ⟨us, e1, e2⟩ := e
    exact list e1 e2.symm
  | _ => simp [slcV, lstOf] at e
def rBc (K : KZ) (f : String) : List V → Hp → VK → Prop := fun xs H Q => ∃ w st vs, RS K w st H ∧ RVs K w vs xs ∧ PV K w st (bV st f vs) Q
def bval (f : String) : Value := if f = "int" ∨ f = "str" ∨ f = "list" ∨ f = "tuple" then .type f else .builtin f
theorem one_rel {K : KZ} {w : Wd} {v : Val} {xs : List V} (r : RVs K w [v] xs) : ∃ x, xs = [x] ∧ RV K w v x := by
  obtain ⟨y, ys, rfl, h1, h2⟩ := r
  cases (show ys = [] from h2)
  exact ⟨y, rfl, h1⟩
theorem two_rel {K : KZ} {w : Wd} {v u : Val} {xs : List V} (r : RVs K w [v, u] xs) : ∃ x y, xs = [x, y] ∧ RV K w v x ∧ RV K w u y := by
  obtain ⟨y, ys, rfl, h1, h2⟩ := r
  obtain ⟨z, rfl, h3⟩ := one_rel h2
  exact ⟨y, z, rfl, h1, h3⟩
theorem bc_ok (f : String) (hc : X.calm = true) : CallR X (bval f) (rBc ⟨X.K, Bz⟩ f) := by
  intro pins s σ H xs us Q I r
                               h
  obtain ⟨w, st, vs, hS, rv, c, e, q⟩ := h
  unfold bV at e
  split at e
  · -- len of a text
    obtain ⟨x, rfl, rx⟩ := one_rel rv
    obtain ⟨rfl, sz⟩ := rx
    cases e
    exact call_len pins s σ H _ us Q I r ⟨_, _, rfl, ⟨sz.1, rfl⟩, now hS q rfl⟩
  · obtain ⟨x, rfl, rx⟩ := one_rel rv
    simp only [Option.map_eq_some_iff] at e
    obtain ⟨ys, e1, rfl⟩ := e
    obtain ⟨p, zs, rfl, hp, hz, rr⟩ := seqOf_rel hS rx e1
    refine call_len pins s σ H _ us Q I r ⟨_, ys.length, rfl, ?_, now hS q rfl⟩
    rcases hp with hp | hp
    · exact .inl ⟨zs, hp, rr.length⟩
    · exact .inr ⟨zs, hp, rr.length⟩
  · obtain ⟨x, rfl, rx⟩ := one_rel rv
    simp only [Option.map_eq_some_iff, Option.bind_eq_some_iff] at e
    obtain ⟨ns, ⟨ys, e1, e2⟩, rfl⟩ := e
    obtain ⟨p, zs, rfl, hp, hz, rr⟩ := lstOf_rel hS rx e1
    have := ints_rel rr e2
    subst this
    exact cr_sum hc pins s σ H _ us Q I r ⟨p, ns, rfl, SqL.of hp, now hS q rfl⟩
  · obtain ⟨x, rfl, rx⟩ := one_rel rv
    simp only [Option.map_eq_some_iff, Option.bind_eq_some_iff] at e
    obtain ⟨ns, ⟨ys, e1, e2⟩, rfl⟩ := e
    obtain ⟨p, zs, rfl, hp, hz, rr⟩ := lstOf_rel hS rx e1
    have := bools_rel rr e2
    subst this
    exact cr_any hc pins s σ H _ us Q I r ⟨p, ns, rfl, SqL.of hp, now hS q rfl⟩
  · obtain ⟨x, rfl, rx⟩ := one_rel rv
    simp only [Option.map_eq_some_iff, Option.bind_eq_some_iff] at e
    obtain ⟨ns, ⟨ys, e1, e2⟩, rfl⟩ := e
    obtain ⟨p, zs, rfl, hp, hz, rr⟩ := lstOf_rel hS rx e1
    have := bools_rel rr e2
    subst this
    exact cr_all hc pins s σ H _ us Q I r ⟨p, ns, rfl, SqL.of hp, now hS q rfl⟩
  · rename_i i
    obtain ⟨x, rfl, rx⟩ := one_rel rv
    cases (show x = .int i from rx)
    cases e
    exact call_int1 pins s σ H _ us Q I r (.inl ⟨i, rfl, now hS q rfl⟩)
  · rename_i b
    obtain ⟨x, rfl, rx⟩ := one_rel rv
    cases (show x = .bl b from rx)
    cases e
    exact call_int1 pins s σ H _ us Q I r (.inr ⟨b, rfl, now hS q rfl⟩)
  · rename_i z
    obtain ⟨x, rfl, rx⟩ := one_rel rv
    obtain ⟨rfl, _⟩ := (show x = .str z ∧ _ from rx)
    simp only [Option.map_eq_some_iff] at e
    obtain ⟨n, e1, rfl⟩ := e
    unfold digV at e1
    split at e1
    · rename_i hl
      exact call_int_str pins s σ H _ us Q I r ⟨z, n, rfl, e1, hl, now hS q rfl⟩
    · cases e1
  · rename_i i
    obtain ⟨x, rfl, rx⟩ := one_rel rv
    cases (show x = .int i from rx)
    split at e
    · rename_i hs
      cases e
      have hs' := of_decide_eq_true hs
      exact call_str_int pins s σ H _ us Q I r ⟨i, rfl, hs', now hS q ⟨rfl, sOk_int hs'⟩⟩
    · cases e
  · obtain ⟨x, rfl, rx⟩ := one_rel rv
    simp only [Option.map_eq_some_iff] at e
    obtain ⟨ys, e1, rfl⟩ := e
    obtain ⟨p, zs, rfl, hp, hz, rr⟩ := seqOf_rel hS rx e1
    refine call_list_of pins s σ H _ us Q I r ⟨p, zs, rfl, hp, ?_⟩
    exact give_lst (A := fun w' v st' H' => ∀ x, RV ⟨X.K, Bz⟩ w' v x → Q x H') hS rr hz q (fun _ _ h => h)
  · rename_i v
    obtain ⟨x, rfl, rx⟩ := one_rel rv
    simp only [Option.map_eq_some_iff] at e
    obtain ⟨ys, e1, rfl⟩ := e
    by_cases ht : ∃ ts, v = .tup ts
    · obtain ⟨ts, rfl⟩ := ht
      have : ts = ys := by simpa [seqOf] using e1
      subst this
      have rx' := rx
      obtain ⟨p, zs, rfl, hp, hz, rr⟩ := rx
      exact call_tuple_of pins s σ H _ us Q I r ⟨p, zs, rfl, .inr ⟨SqT.mono hS.sub hp, now hS q rx'⟩⟩
    · have e2 : lstOf st v = some ys := by
        cases v <;> first | exact absurd ⟨_, rfl⟩ ht | exact e1
      obtain ⟨p, zs, rfl, hp, hz, rr⟩ := lstOf_rel hS rx e2
      refine call_tuple_of pins s σ H _ us Q I r ⟨p, zs, rfl, .inl ⟨SqL.of hp, ?_⟩⟩
      exact give_tup (A := fun w' v st' H' => ∀ x, RV ⟨X.K, Bz⟩ w' v x → Q x H') hS rr hz q (fun _ _ h => h)
  · rename_i i j
    obtain ⟨x, y, rfl, rx, ry⟩ := two_rel rv
    cases (show x = .int i from rx); cases (show y = .int j from ry)
    cases e
    exact call_max2 hc pins s σ H _ us Q I r ⟨i, j, rfl, now hS q rfl⟩
  · rename_i i j
    obtain ⟨x, y, rfl, rx, ry⟩ := two_rel rv
    cases (show x = .int i from rx); cases (show y = .int j from ry)
    cases e
    exact call_min2 hc pins s σ H _ us Q I r ⟨i, j, rfl, now hS q rfl⟩
  · cases e
end
end Mp
end
section
set_option Elab.async false
set_option linter.all false
set_option maxRecDepth 100000
set_option maxHeartbeats
                         1000000
namespace Mp
open PySem L2 PySem.Spec PyProof.Rows
section
variable {K : KZ} {w w' w'' : Wd}
mutual
theorem RV.back (hF : ∀ p o, w'.F p = some o → w''.F p = some o) (he : ∀ (i : Nat) (p q : Addr), w.e[i]? = some p → w'.e[i]? = some q → w''.e[i]? = some q) : ∀ (v : Val) {x y : V}, RV K w v x → RV K w' v y → RV K w'' v y
  | .non, _, _, _, h => h
  | .bl _, _, _, _, h => h
  | .int _, _, _, _, h => h
  | .str _, _, _, _, h => h
  | .tup vs, _, _, h0, h => by
    obtain ⟨p0, xs0, _, _, _, r0⟩ := h0
    obtain ⟨p, xs, e, s, z, r⟩ := h
    exact ⟨p, xs, e, SqT.mono hF s, z, RVs.back hF he vs r0 r⟩
  | .lst vs, _, _, h0, h => by
    obtain ⟨p0, xs0, _, _, _, r0⟩ := h0
    obtain ⟨p, xs, e, s, z, r⟩ := h
    exact ⟨p, xs, e, hF _ _ s, z, RVs.back hF he vs r0 r⟩
  | .ins c ns vs, _, _, h0, h => by
    obtain ⟨p0, dx0, fs0, _, _, _, r0⟩ := h0
    obtain ⟨p, dx, fs, e, s, z, r⟩ := h
    exact ⟨p, dx, fs, e, hF _ _ s, z, RVs.back hF he vs r0 r⟩
  | .scr ns, _, _, _, h => by
    obtain ⟨p, e, s, z⟩ := h
    exact ⟨p, e, SqL.mono hF s, z⟩
  | .ref i, _, _, h0, h => by
    obtain ⟨p0, _, s0⟩ := h0
    obtain ⟨p, e, s⟩ := h
    exact ⟨p, e, he _ _ _ s0 s⟩
  | .clo i, _, _, _, h => by
    obtain ⟨p, c, t, o, oc, ot, e, s, s2, s3, z⟩ := h
    exact ⟨p, c, t, o, oc, ot, e, hF _ _ s, hF _ _ s2, hF _ _ s3, z⟩
theorem RVs.back (hF : ∀ p o, w'.F p = some o → w''.F p = some o) (he : ∀ (i : Nat) (p q : Addr), w.e[i]? = some p → w'.e[i]? = some q → w''.e[i]? = some q) : ∀ (vs : List Val) {xs ys : List V}, RVs K w vs xs → RVs K w' vs ys → RVs K w'' vs ys
  | [], _, _, _, h => h
  | v :: vs, _, _, h0, h => by
    obtain ⟨y0, ys0, _, a1, a2⟩ := h0
    obtain ⟨y, ys, e, h1, h2⟩ := h
    exact ⟨y, ys, e, RV.back hF he v a1 h1, RVs.back hF he vs a2 h2⟩
end
theorem RO.back {H H' : Hp} {p q : Addr} {s : SO} (hF : ∀ p o, w'.F p = some o → w''.F p = some o) (he : ∀ (i : Nat) (p q : Addr), w.e[i]? = some p → w'.e[i]? = some q → w''.e[i]? = some q) (h0 : RO K w H q s) (h : RO K w' H' p s) : RO K w'' H' p s := by
  cases s with
  | lst vs =>
    obtain ⟨_, _, _, r0⟩ := h0
    obtain ⟨xs, e, z, r⟩ := h
    exact ⟨xs, e, z, RVs.back hF he vs r0 r⟩
  | ins c ns vs =>
    obtain ⟨_, _, _, _, r0⟩ := h0
    obtain ⟨dx, fs, e, z, r⟩ := h
    exact ⟨dx, fs, e, z, RVs.back hF he vs r0 r⟩
mutual
theorem frzV_rel {rd : Nat → Option Val} (hF : ∀ p o, w'.F p = some o → w''.F p = some o) (hr : ∀ i u p, rd i = some u → w'.e[i]? = some p → RV K w'' u (.ref p)) : ∀ (v : Val) {y : Val} {x : V}, frzV rd v = some y → RV K w' v x → RV K w'' y x
  | .non, _, _, e, r => by cases (show some Val.non = some _ from e); exact r
  | .bl b, _, _, e, r => by cases (show some (Val.bl b) = some _ from e); exact r
  | .int i, _, _, e, r => by cases (show some (Val.int i) = some _ from e); exact r
  | .str z, _, _, e, r => by cases (show some (Val.str z) = some _ from e); exact r
  | .tup vs, _, _, e, r => by
    obtain ⟨ys, e1, rfl⟩ := Option.map_eq_some_iff.mp (show (frzVs rd vs).map Val.tup = some _ from e)
    obtain ⟨p, xs, rfl, s, z, rr⟩ := r
    obtain ⟨h1, h2⟩ := frzVs_rel hF hr vs e1 rr
    exact ⟨p, xs, rfl, SqT.mono hF s, by rw [h2]; exact z, h1⟩
  | .lst vs, _, _, e, r => by
    obtain ⟨ys, e1, rfl⟩ := Option.map_eq_some_iff.mp (show (frzVs rd vs).map Val.lst = some _ from e)
    obtain ⟨p, xs, rfl, s, z, rr⟩ := r
    obtain ⟨h1, h2⟩ := frzVs_rel hF hr vs e1 rr
    exact ⟨p, xs, rfl, hF _ _ s, by rw [h2]; exact z, h1⟩
  | .ins c ns vs, _, _, e, r => by
    obtain ⟨ys, e1, rfl⟩ := Option.map_eq_some_iff.mp (show (frzVs rd vs).map (Val.ins c ns) = some _ from e)
    obtain ⟨p, dx, fs, rfl, s, z, rr⟩ := r
    obtain ⟨h1, h2⟩ := frzVs_rel hF hr vs e1 rr
    exact ⟨p, dx, fs, rfl, hF _ _ s, z, h1⟩
  | .scr ns, _, _, e, r => by
    cases (show some (Val.scr ns) = some _ from e)
    obtain ⟨p, e, s, z⟩ := r
    exact ⟨p, e, SqL.mono hF s, z⟩
  | .ref i, _, _, e, r => by
    obtain ⟨p, rfl, s⟩ := r
    exact hr i _ p e s
theorem frzVs_rel {rd : Nat → Option Val} (hF : ∀ p o, w'.F p = some o → w''.F p = some o) (hr : ∀ i u p, rd i = some u → w'.e[i]? = some p → RV K w'' u (.ref p)) : ∀ (vs : List Val) {ys : List Val} {xs : List V}, frzVs rd vs = some ys → RVs K w' vs xs → RVs K w'' ys xs ∧ ys.length = vs.length
  | [], _, _, e, r => by cases (show some ([] : List Val) = some _ from e); exact ⟨r, rfl⟩
  | v :: vs, ys, _, e, r => by
    obtain ⟨x, xs, rfl, h1, h2⟩ := r
    simp only [frzVs] at e
    cases e1 : frzV rd v with
    | none => rw [e1] at e; cases e
    | some y =>
      cases e2 : frzVs rd vs with
      | none => rw [e1, e2] at e; cases e
      | some yt =>
        rw [e1, e2] at e
        cases e
        obtain ⟨a, b⟩ := frzVs_rel hF hr vs e2 h2
        exact ⟨RVs.cons (frzV_rel hF hr v e1 h1) a, by simp [b]⟩
end
open Classical in
noncomputable def shr (w' : Wd) (H' : Hp) (n : Nat) (kp : List Addr) : Wd := ⟨fun p => if p ∈ w'.e.drop n ∧ p ∉ kp then H' p else w'.F p, w'.e.take n ++ kp, w'.G⟩
theorem shr_F {H' : Hp} {n : Nat} {kp : List Addr} {st' : Store} (s : RS K w' st' H') : ∀ p o, w'.F p = some o → (shr w' H' n kp).F p = some o := fun p o e => by
  show (if p ∈ w'.e.drop n ∧ p ∉ kp then H' p else w'.F p) = some o
  split
  · exact s.sub p o e
  · exact e
theorem rdK_rel {st' : Store} {H' : Hp} {n : Nat} {sk : Option Nat} {kp : List Addr} (s : RS K w' st' H') (hk : ∀ q ∈ kp, ∃ i, sk = some i ∧ w'.e[i]? = some q) : ∀ (k i : Nat) (u : Val) (p : Addr), rdK st' n sk k i = some u → w'.e[i]? = some p → RV K (shr w' H' n kp) u (.ref p)
  | 0, i, u, p, e, ep => by
    simp only [rdK] at e
    split at e
    · rename_i hi
      cases e
      refine ⟨p, rfl, ?_⟩
      show (w'.e.take n ++ kp)[i]? = some p
      have hl : i < (w'.e.take n).length := by
        rw [List.length_take]
        have := (List.getElem?_eq_some_iff.mp ep).1
        omega
      rw [List.getElem?_append_left hl, List.getElem?_take_of_lt hi]
      exact ep
    · cases e
  | k + 1, i, u, p, e, ep => by
    simp only [rdK] at e
    split at e
    · rename_i hi
      cases e
      refine ⟨p, rfl, ?_⟩
      show (w'.e.take n ++ kp)[i]? = some p
      have hl : i < (w'.e.take n).length := by
        rw [List.length_take]
        have := (List.getElem?_eq_some_iff.mp ep).1
        omega
      rw [List.getElem?_append_left hl, List.getElem?_take_of_lt hi]
      exact ep
    · rename_i hi
      split at e
      · cases e
      · rename_i hsk
        have hin : p ∈ w'.e.drop n := List.mem_of_getElem? (i := i - n) (by rw [List.getElem?_drop]; rw [show n + (i - n) = i by omega]; exact ep)
        have hnk : p ∉ kp := fun hp => by
          obtain ⟨j, hj, ej⟩ := hk p hp
          have jl := (List.getElem?_eq_some_iff.mp ej)
          have il := (List.getElem?_eq_some_iff.mp ep)
          obtain ⟨j1, j2⟩ := jl
          obtain ⟨i1, i2⟩ := il
          have : i = j := (List.getElem_inj s.nd).mp (i2.trans j2.symm)
          subst this
          exact hsk hj.symm
        have hFp : (shr w' H' n kp).F p = H' p := by
          show (if p ∈ w'.e.drop n ∧ p ∉ kp then H' p else w'.F p) = H' p
          rw [if_pos ⟨hin, hnk⟩]
        obtain ⟨o, ho, ro⟩ := s.at ep
        rw [ho] at e
        have ih := fun i u p => rdK_rel (n := n) (sk := sk) (kp := kp) s hk k i u p
        cases o with
        | lst vs =>
          obtain ⟨ys, e1, rfl⟩ := Option.map_eq_some_iff.mp e
          obtain ⟨xs, hp, z, rr⟩ := ro
          obtain ⟨h1, h2⟩ := frzVs_rel (shr_F s) ih vs e1 rr
          exact ⟨p, xs, rfl, hFp.trans hp, by rw [h2]; exact z, h1⟩
        | ins c ns vs =>
          obtain ⟨ys, e1, rfl⟩ := Option.map_eq_some_iff.mp e
          obtain ⟨dx, fs, hp, z, rr⟩ := ro
          obtain ⟨h1, h2⟩ := frzVs_rel (shr_F s) ih vs e1 rr
          exact ⟨p, dx, fs, rfl, hFp.trans hp, z, h1⟩
theorem take_len {st st' : Store} (h : st'.take st.length = st) : st.length ≤ st'.length := by
  have := congrArg List.length
                               h
  rw [List.length_take] at this
  omega
theorem shr_ok {st st' base : Store} {H H' : Hp} {kp : List Addr} (l : Le w w') (h0 : RS K w st H) (s : RS K w' st' H') (hl : st.length ≤ st'.length) (hbl : base.length = st.length) (hb : ∀ (i : Nat) (q : Addr) (o : SO), w'.e[i]? = some q → base[i]? = some o → RO K (shr w' H' st.length kp) H' q o) (hk : ∀ q ∈ kp, q ∈ w'.e.drop st.length) (hnd : kp.Nodup) (new : List SO) (hn : new.length = kp.length)
    (ho : ∀ (i : Nat) (q : Addr) (o : SO), kp[i]? = some q → new[i]? = some o → RO K (shr w' H' st.length kp) H' q o) :
    Le w (shr w' H' st.length kp) ∧ RS K (shr w' H' st.length kp) (base ++ new) H' := by
  have le1 : (w'.e.take st.length).length = st.length := by rw [List.length_take, s.len]; omega
  have we : ∀ (i : Nat) (p : Addr), w.e[i]? = some p → i < st.length := fun i p e => by rw [← h0.len]; exact (List.getElem?_eq_some_iff.mp e).1
  have old : ∀ (i : Nat) (q : Addr), i < st.length → w'.e[i]? = some q → (shr w' H' st.length kp).e[i]? = some q := fun i q hi e => by
    show (w'.e.take st.length ++ kp)[i]? = some q
    rw [List.getElem?_append_left (by rw [le1]; exact hi), List.getElem?_take_of_lt hi]; exact e
  refine ⟨⟨fun p o e => shr_F s p o (l.F p o e), fun i p e => old i p (we i p e) (l.e i p e), l.G⟩, ?_⟩
  have hmem : ∀ (i : Nat) (q : Addr), (shr w' H' st.length kp).e[i]? = some q → (i < st.length ∧ w'.e[i]? = some q) ∨ (st.length ≤ i ∧ kp[i - st.length]? = some q) := fun i q e => by
    have e' : (w'.e.take st.length ++ kp)[i]? = some q := e
    by_cases hi : i < st.length
    · rw [List.getElem?_append_left (by rw [le1]; exact hi), List.getElem?_take_of_lt hi] at e'
      exact .inl ⟨hi, e'⟩
    · rw [List.getElem?_append_right (by rw [le1]; omega), le1] at e'
      exact .inr ⟨by omega, e'⟩
  have sepd : ∀ (i : Nat) (q : Addr), i < st.length → w'.e[i]? = some q → q ∉ w'.e.drop st.length := fun i q hi e hm => by
    obtain ⟨j, hj⟩ := List.getElem?_of_mem
                                           hm
    rw [List.getElem?_drop] at hj
    obtain ⟨a1, a2⟩ := List.getElem?_eq_some_iff.mp e
    obtain ⟨b1, b2⟩ := List.getElem?_eq_some_iff.mp hj
    have : i = st.length + j := (List.getElem_inj s.nd).mp (a2.trans b2.symm)
    omega
  refine ⟨fun p o e => ?_, ?_, fun i q o e1 e2 => ?_, ?_, fun i q e => ?_, s.gub, fun i q e => ?_, fun q n => ?_, s.tabs (fun _ _ => rfl) (shr_F s), fun q hq => ⟨?_, (s.tabF q hq).2⟩⟩
  · have e' : (if p ∈ w'.e.drop st.length ∧ p ∉ kp then H' p else w'.F p) = some o := e
    split at e'
    · exact e'
    · exact s.sub p o e'
  · show (w'.e.take st.length ++ kp).length = _
    rw [List.length_append, le1, List.length_append, hn, hbl]
  · rcases hmem i q e1 with ⟨hi, e⟩ | ⟨hi, e⟩
    · rw [List.getElem?_append_left (by rw [hbl]; exact hi)] at e2
      exact hb i q o e e2
    · rw [List.getElem?_append_right (by rw [hbl]; exact hi), hbl] at e2
      exact ho _ q o e e2
  · show (w'.e.take st.length ++ kp).Nodup
    rw [List.nodup_append]
    refine ⟨s.nd.sublist (List.take_sublist _ _), hnd, fun a ha b hb z => ?_⟩
    subst z
    obtain ⟨j, hj⟩ := List.getElem?_of_mem ha
    have hjl : j < st.length := by rw [← le1]; exact (List.getElem?_eq_some_iff.mp hj).1
    rw [List.getElem?_take_of_lt hjl] at hj
    exact sepd j a hjl hj (hk a hb)
  · rcases hmem i q e with ⟨hi, e⟩ | ⟨hi, e⟩
    · show (if q ∈ w'.e.drop st.length ∧ q ∉ kp then H' q else w'.F q) = none
      rw [if_neg fun z => sepd i q hi e z.1]
      exact s.sep i q e
    · have hq := List.mem_of_getElem? e
      show (if q ∈ w'.e.drop st.length ∧ q ∉ kp then H' q else w'.F q) = none
      rw [if_neg fun z => z.2 hq]
      obtain ⟨j, hj⟩ := List.getElem?_of_mem (hk q hq)
      rw [List.getElem?_drop] at hj
      exact s.sep _ q hj
  · rcases hmem i q e with ⟨hi, e⟩ | ⟨hi, e⟩
    · exact s.gse i q e
    · obtain ⟨j, hj⟩ := List.getElem?_of_mem (hk q (List.mem_of_getElem? e))
      rw [List.getElem?_drop] at hj
      exact s.gse _ q hj
  · show (if q ∈ w'.e.drop st.length ∧ q ∉ kp then H' q else w'.F q) = none
    have nq : ¬ (q ∈ w'.e.drop st.length ∧ q ∉ kp) := fun z => by
      obtain ⟨j, hj⟩ := List.getElem?_of_mem z.1
      rw [List.getElem?_drop] at hj
      exact n (s.gse _ q hj)
    rw [if_neg nq]
    exact s.gF q n
  · show (if q.1 ∈ w'.e.drop st.length ∧ q.1 ∉ kp then H' q.1 else w'.F q.1) = none
    have nq : ¬ (q.1 ∈ w'.e.drop st.length ∧ q.1 ∉ kp) := fun z => by
      obtain ⟨j, hj⟩ := List.getElem?_of_mem z.1
      rw [List.getElem?_drop] at hj
      obtain ⟨s0, _, r0⟩ := s.at hj
      obtain ⟨ps, z, _⟩ := s.tab q hq
      exact ro_tbl r0 ps z
    rw [if_neg nq]
    exact (s.tabF q hq).1
theorem shr_old {st st' : Store} {H H' : Hp} {kp : List Addr} (l : Le w w') (h0 : RS K w st H) (s : RS K w' st' H') (ht : st'.take st.length = st) : ∀ (i : Nat) (q : Addr) (o : SO), w'.e[i]? = some q → st[i]? = some o → RO K (shr w' H' st.length kp) H' q o := by
  intro i q o e e2
  have hl := take_len ht
  have le1 : (w'.e.take st.length).length = st.length := by rw [List.length_take, s.len]; omega
  have we : ∀ (i : Nat) (p : Addr), w.e[i]? = some p → i < st.length := fun i p e => by rw [← h0.len]; exact (List.getElem?_eq_some_iff.mp e).1
  have old : ∀ (i : Nat) (q : Addr), i < st.length → w'.e[i]? = some q → (shr w' H' st.length kp).e[i]? = some q := fun i q hi e => by
    show (w'.e.take st.length ++ kp)[i]? = some q
    rw [List.getElem?_append_left (by rw [le1]; exact hi), List.getElem?_take_of_lt hi]; exact e
  have hi : i < st.length := (List.getElem?_eq_some_iff.mp e2).1
  have e3 : st'[i]? = some o := by
    have := e2
    rw [← ht, List.getElem?_take_of_lt hi] at this
    exact this
  have r' := s.obj i q o e e3
  obtain ⟨p0, hp0⟩ : ∃ p0, w.e[i]? = some p0 := ⟨_, List.getElem?_eq_getElem (by rw [h0.len]; exact hi)⟩
  have r0 := h0.obj i p0 o hp0 e2
  exact RO.back (shr_F s) (fun j a b ea eb => old j b (we j a ea) eb) r0 r'
abbrev AV (K : KZ) (Q : VK) : Wd → Val → Store → Hp → Prop := fun w' v _ H' => ∀ x, RV K w' v x → Q x H'
theorem frzOs_rel {st' : Store} {H' : Hp} {n : Nat} (s : RS K w' st' H') : ∀ (os : Store) (base : Store) (off : Nat), (∀ (i : Nat) (o : SO), os[i]? = some o → st'[off + i]? = some o) → frzOs (rdK st' n none 8) os = some base → base.length = os.length ∧ ∀ (i : Nat) (q : Addr) (o : SO), w'.e[off + i]? = some q → base[i]? = some o → RO K (shr w' H' n []) H' q o
  | [], base, off, h, e => by
    simp only [frzOs, Option.some.injEq] at e
    subst e
    exact ⟨rfl, fun i q o _ h => by simp at h⟩
  | o :: os, base, off, h, e => by
    simp only [frzOs] at e
    split at e
    · cases e
    · rename_i b1 e1
      split at e
      · cases e
      · rename_i bs e2
        cases e
        obtain ⟨h1, h2⟩ := frzOs_rel s os bs (off + 1) (fun i o h3 => by rw [show off + 1 + i = off + (i + 1) by omega]; exact h (i + 1) o (by simpa using h3)) e2
        refine ⟨by simp [h1], fun i q o' e3 e4 => ?_⟩
        cases i with
        | zero =>
          simp only [List.getElem?_cons_zero, Option.some.injEq] at e4
          subst e4
          have r := s.obj off q o (by simpa using e3) (by simpa using h 0 o (by simp))
          have hr := rdK_rel (n := n) (sk := none) (kp := []) s (by simp) 8
          cases o with
          | lst vs =>
            simp only [frzO] at e1
            obtain ⟨ys, e5, rfl⟩ := Option.map_eq_some_iff.mp e1
            obtain ⟨xs, hp, z, rr⟩ := r
            obtain ⟨g1, g2⟩ := frzVs_rel (shr_F s) hr vs e5 rr
            exact ⟨xs, hp, by rw [g2]; exact z, g1⟩
          | ins c ns vs =>
            simp only [frzO] at e1
            obtain ⟨ys, e5, rfl⟩ := Option.map_eq_some_iff.mp e1
            obtain ⟨dx, fs, hp, z, rr⟩ := r
            obtain ⟨g1, g2⟩ := frzVs_rel (shr_F s) hr vs e5 rr
            exact ⟨dx, fs, hp, z, g1⟩
        | succ i =>
          exact h2 i q o' (by rw [show off + 1 + i = off + (i + 1) by omega]; exact e3) (by simpa using e4)
theorem finish_ok {m : Mode} {st : Store} {H : Hp} {r : R Val} {Q : VK} {B : XK} (h0 : RS K w st H) (h : Post K w (finish m st r) (AV K Q) B) : Post K w r (AV K Q) B := by
  cases m with
  | raw => exact h
  | back =>
    cases r with
    | stuck => exact h
    | err c ns vs st' => exact h
    | ok v st' =>
      intro w' H' l s x rx
      have h' : Post K w (if st.length ≤ st'.length then (match rdV st' st.length v, frzOs (rdK st' st.length none 8) (st'.take st.length) with
        | some y, some base => R.ok y base
        | _, _ => .stuck) else .stuck) (AV K Q) B := h
      split at h'
      · rename_i ht
        cases e : rdV st' st.length v with
        | none => rw [e] at h'; exact h'.elim
        | some y =>
          cases eb : frzOs (rdK st' st.length none 8) (st'.take st.length) with
          | none => rw [e, eb] at h'; exact h'.elim
          | some base =>
            rw [e, eb] at h'
            obtain ⟨b1, b2⟩ := frzOs_rel s (st'.take st.length) base 0 (fun i o e => by
              rw [List.getElem?_take] at e
              split at e
              · simpa using e
              · cases e) eb
            obtain ⟨l2, s2⟩ := shr_ok (kp := []) l h0 s ht (by rw [b1, List.length_take]; omega) (fun i q o e1 e2 => b2 i q o (by simpa using e1) e2) (by simp) (by simp) [] rfl (by simp)
            rw [List.append_nil] at s2
            exact h' _ H' l2 s2 x (frzV_rel (shr_F s) (rdK_rel s (sk := none) (by simp) 8) v e rx)
      · exact h'.elim
  | pure =>
    cases r with
    | stuck => exact h
    | err c ns vs st' => exact h
    | ok v st' =>
      intro w' H' l s x rx
      have h' : Post K w (if begins st st' = true then (match rdV st' st.length v with
        | some y => R.ok y st
        | none => .stuck) else .stuck) (AV K Q) B := h
      split at h'
      · rename_i ht0
        have ht := begins_eq ht0
        cases e : rdV st' st.length v with
        | none => rw [e] at h'; exact h'.elim
        | some y =>
          rw [e] at h'
          obtain ⟨l2, s2⟩ := shr_ok (kp := []) l h0 s (take_len ht) rfl (shr_old l h0 s ht) (by simp) (by simp) [] rfl (by simp)
          rw [List.append_nil] at s2
          refine h' _ H' l2 s2 x (frzV_rel (shr_F s) (rdK_rel s (sk := none) (by simp) 8) v e rx)
      · exact h'.elim
  | fresh =>
    cases r with
    | stuck => exact h
    | err c ns vs st' => exact h
    | ok v st' =>
      intro w' H' l s x rx
      have h' : Post K w (if begins st st' = true then (match v with
        | .ref i => if st.length ≤ i then (match st'[i]? with
          | some (.lst xs) => match frzVs (rdK st' st.length (some i) 8) xs with
            | some ys => R.ok (.ref st.length) (st ++ [.lst ys])
            | none => .stuck
          | _ => .stuck) else .stuck
        | _ => .stuck) else .stuck) (AV K Q) B := h
      split at h'
      · rename_i ht0
        have ht := begins_eq ht0
        cases v with
        | ref i =>
          simp only at h'
          split at h'
          · rename_i hi
            obtain ⟨p, rfl, ep⟩ := rx
            obtain ⟨o, eo, ro⟩ := s.at ep
            rw [eo] at h'
            cases o with
            | lst us =>
              simp only at h'
              cases e : frzVs (rdK st' st.length (some i) 8) us with
              | none => rw [e] at h'; exact h'.elim
              | some ys =>
                rw [e] at h'
                obtain ⟨xs, hp, z, rr⟩ := ro
                have hin : p ∈ w'.e.drop st.length := List.mem_of_getElem? (i := i - st.length) (by rw [List.getElem?_drop]; rw [show st.length + (i - st.length) = i by omega]; exact ep)
                obtain ⟨h1, h2⟩ := frzVs_rel (shr_F (n := st.length) (kp := [p]) s) (rdK_rel s (n := st.length) (sk := some i) (kp := [p]) (fun q hq => ⟨i, rfl, by simp at hq; subst hq; exact ep⟩) 8) us e rr
                obtain ⟨l2, s2⟩ := shr_ok (kp := [p]) l h0 s (take_len ht) rfl (shr_old l h0 s ht) (by simpa using hin) (by simp) [.lst ys] rfl (fun j q o ej eo' => by
                  have hj : j = 0 := by
                    have := (List.getElem?_eq_some_iff.mp ej).1
                    simp at this; exact this
                  subst hj
                  simp at ej eo'
                  subst ej eo'
                  exact ⟨xs, hp, by rw [h2]; exact z, h1⟩)
                refine h' _ H' l2 s2 (.ref p) ⟨p, rfl, ?_⟩
                show (w'.e.take st.length ++ [p])[st.length]? = some p
                have le1 : (w'.e.take st.length).length = st.length := by rw [List.length_take, s.len]; have := take_len ht; omega
                rw [List.getElem?_append_right (by omega), le1]
                simp
            | ins c ns vs => exact h'.elim
          · exact h'.elim
        | _ => exact h'.elim
      · exact h'.elim
end
end Mp
end
section
set_option Elab.async false
set_option linter.all false
set_option maxRecDepth 100000
set_option maxHeartbeats
                         1000000
namespace Mp
open PySem L2 PySem.Spec PyProof.Rows
def spS (K : KZ) (Φ : Cal) (f : Str) (n : Nat) (kn : List Str) (tp : List Src) (xs zs : List V) (H : Hp) (Q : VK) (E : XK) : Prop :=
  ∃ w st vs ks args, RS K w st H ∧ RVs K w vs xs ∧ RVs K w ks zs ∧ vs.length = n ∧ ks.length = kn.length ∧ srcs vs ks tp = some args ∧ Post K w (Φ f args st) (AV K Q) E
structure GotD (prog : Program) (K : PySem.W.Frag) (mg : Str → Option Value) : Prop where
  f : ∃ g N ef scope body, Def1 K mg "_law_field" g N ef scope body ∧ FieldT ef fieldL body ∧ N[0]? = some ef ∧ (ef == ("__debug__" : Str)) = false ∧ (ef == ("__classdict__" : Str)) = false ∧ scope.names.lookup ("isinstance" : Str) = some .globalImplicit ∧
    ∀ q ∈ fieldL, ∀ c ∈ q.1, scope.names.lookup c = some .globalImplicit
  cls : ∀ q ∈ fieldL, ∀ c ∈ q.1, mg c = some (.ref (cA K c)) ∧ (c == ("__debug__" : Str)) = false
  g : ∃ g N ps scope body, Def1 K mg "_law_got" g N ps scope body ∧ GotT N scope ps body
  top : mg "SheetError" = some (.ref (cA K "SheetError")) ∧ mg "SheetMissing" = some (.ref (cA K "SheetMissing")) ∧ mg "NothingLeft" = some (.ref (cA K "NothingLeft"))
structure AllD (K : PySem.W.Frag) (mg : Str → Option Value) : Prop where
  a : ∃ g N ps scope body, Def1 K mg "_law_all_got" g N ps scope body ∧ AllT N scope ps body
structure ErrD (prog : Program) (K : PySem.W.Frag) (mg : Str → Option Value) (c : Str) (fs : List Str) : Prop where
  ok : ExOk prog K (cA K c) c fs
  mg_ : mg c = some (.ref (cA K c))
  kp : PySem.W.keepIn K (.ref (cA K c)) = true
  isx : ExcC K (cA K c)
  caught : PySem.W.exmAny K (.ref (cA K c)) [.ref (cA K "SheetError"), .ref (cA K "SheetMissing"), .ref (cA K "NothingLeft")] = some true
def CallOk (prog : Program) (w : World) (K : PySem.W.Frag) (mg : Str → Option Value) (base : Heap) (k : Nat) (a : Addr) (n : Nat) (kn : List Str) (sp : List V → List V → Hp → VK → XK → Prop) : Prop :=
  ∀ (A : Around) (outer : List PySem.Env) (s : Shared) (H : Hp) (us ws : List Value) (xs zs : List V) (Q : VK) (E : XK), Room k A → Env0 prog w K mg base A outer s H → Vals xs us → Vals zs ws → sp xs zs H Q E →
    codeAny (model prog w) A (.call (.ref a) ⟨us, kn.zip ws⟩) (CR (L2.CX prog w) outer prog w H s Q E) s
end Mp
namespace Mp
open PySem L2 PySem.Spec PyProof.Rows
def bty (n : Str) : Option String := ["NoneType", "bool", "int", "str", "tuple", "list", "dict", "dictT"].find? fun s => decide (Str.ofString s = n)
def tyVal (K : PySem.W.Frag) (n : Str) : Value := match bty n with
  | some s => .type s
  | none => .ref (cA K n)
def biNames : List String := ["len", "sum", "any", "all", "int", "str", "list", "tuple", "max", "min", "isinstance", "range", "enumerate", "zip", "bool", "sorted", "dict", "repr", "reversed"]
structure InsTy (K : PySem.W.Frag) (C : Addr) : Prop where
  ha : PySem.W.findIn K (.ref C) "__class__" = some (some (.builtin
                                                                    "object.__class__"))
  hn : PySem.W.specialIn K (.builtin "object.__class__") "__get__" = some (some (.builtin
                                                                                          "getset_descriptor.__get__"))
  htk : PySem.W.takesIn K (.builtin "object.__class__") = some
                                                               true
  hm : PySem.W.mroIn K C (.type "object") = some
                                                 true
structure StatOf (K : PySem.W.Frag) (C : Addr) (m : Str) (g : Addr) : Prop where
  rd : PySem.W.readsIn K C (.type "type") = true
  ga : PySem.W.specialIn K (.ref C) "__getattribute__" = some (some (.builtin
                                                                              "type.__getattribute__"))
  at_ : ∃ p rest, PySem.W.findCls K (.ref C) (.type "type") m = some (.get (.builtin "staticmethod.__get__") (.ref p) .none (.ref C)) ∧ PySem.W.recIn K p "staticmethod" = some (.ref g :: rest)
structure Link (P : Prog) (Φ : Cal) (fa : Str → Addr) (prog : Program) (w : World) (K : PySem.W.Frag) (mg : Str → Option Value) (base : Heap) (k : Nat) (Bz : Zs) : Prop where
  fn : ∀ f n kn tp, P.bind f n kn = some tp → CallOk prog w K mg base k (fa f) n kn (spS ⟨K, Bz⟩ Φ f n kn tp) ∧ PySem.W.keepIn K (.ref (fa f)) = true
  pf : ∀ c f g, P.prop c f = some g → CallOk prog w K mg base k (fa g) 1 [] (spS ⟨K, Bz⟩ Φ g 1 [] [.pos 0])
  gf : ∀ f, P.isg f = true → mg f = some (.ref (fa f))
  gc : ∀ c, P.isc c = true → mg c = some (.ref (cA K c)) ∧ PySem.W.keepIn K (.ref (cA K c)) = true ∧ bty c = none
  cl : ∀ c, P.isc c = true → Cls K (cA K c)
  mkC : ∀ c g, P.meth c "__init__" = some g → P.isc c = true → PySem.W.makesIn K (cA K c) = true ∧ PySem.W.findIn K (.ref (cA K c)) "__init__" = some (some (.ref (fa g))) ∧ PySem.W.isFn K (.ref (fa g)) = true
  me : ∀ c m g, P.meth c m = some g → P.isc c = true → Meth K (cA K c) m (fa g)
  pr : ∀ c f g, P.prop c f = some g → ∃ p, PropOf K (cA K c) f p (fa g)
  co : ∀ c f v, P.con c f = some v → ∃ x u, Con K (cA K c) f x u ∧ ∀ w, RV ⟨K, Bz⟩ w v x
  na : ∀ c f, P.fl c f = true → NoAttr K (cA K c) f
  ty : ∀ c, P.isc c = true → InsTy K (cA K c)
  isa : ∀ n t b, P.sub n t = some b → PySem.W.kitOne K (tyVal K n) (tyVal K t) = some b
  gl : ∀ x v, P.glob x = some v → ∃ y u, mg x = some u ∧ RelV y u ∧ ∀ w, RV ⟨K, Bz⟩ w v y
  bi : ∀ f ∈ biNames, mg (Str.ofString f) = none
  ne : ∀ c g, P.meth c "__eq__" = some g → P.isc c = true → PySem.W.findIn K (.ref (cA K c)) "__ne__" = some (some (.builtin "object.__ne__"))
  cb : ∀ n t b, P.sub n t = some b → bty n ≠ none ∨ P.isc n = true
  ex : ∀ c fs, P.exc c = some fs → ErrD prog K mg c fs
  xs : ∀ c t b, P.xsub c t = some b → PySem.W.kitOne K (.ref (cA K c)) (.ref (cA K t)) = some b
  gk : P.gots = true → GotD prog K mg
  ga : P.alls = true → AllD K mg
  st : ∀ c a f, P.stat c a = some f → P.isc c = true → StatOf K (cA K c) a (fa f)
theorem Link.nd {P : Prog} {Φ : Cal} {fa : Str → Addr} {prog : Program} {w : World} {K : PySem.W.Frag} {mg : Str → Option Value} {base : Heap} {k : Nat} {Bz : Zs} (lk : Link P Φ fa prog w K mg base k Bz) {c : Str} (h : P.isc c = true) : c ≠ dN ∧ c ≠ dT := ⟨fun e => by
  subst e
  exact absurd (lk.gc dN h).2.2 (by decide), fun e => by
  subst e
  exact absurd (lk.gc dT h).2.2 (by decide)⟩
structure Sco where
  sc : Scope
  df : Bool
  lm : Bool
def lamP (params : Arguments) : Option (Option Str) := match params with
  | { posonlyargs := [], args := [], vararg := none, kwonlyargs := [], kw_defaults := [], kwarg := none, defaults := [] } => some none
  | { posonlyargs := [], args := [a], vararg := none, kwonlyargs := [], kw_defaults := [], kwarg := none, defaults := [.Constant (.int 0) _ _] } => some (some a.arg)
  | _ => none
structure OkX0 (P : Prog) (Φ : Cal) (fa : Str → Addr) (k : Nat) (N : List Str) (sc : Sco) (W : WX) (X : Cx) (Bz : Zs) : Prop where
  calm : X.calm = true
  names : X.N = N
  nd : N.Nodup
  fn : sc.df = true → ∀ x, X.fn x = true
  sco : X.env.scope = sc.sc
  tk : Takes X W
  po : PassesOwn (model X.prog X.w) X.A X.env X.xe
  room : Room (k + 2) X.A
  lk : Link P Φ fa X.prog X.w X.K X.mg X.base k Bz
def cloO (p : Addr) (q : Str) (params : Arguments) (body : Expr) (scope : Scope) (cl : List (Str × Addr)) (dV : Value) (c : Addr) : HO :=
  .ext fun h => ∃ doc pm ctv, h.get? p = some (PySem.W.kdv_obj "<lambda>" q params (.expr body) scope cl dV doc pm c ctv)
def dflO (t : Addr) : HO := .ext fun h => ∃ tk, h.get? t = some (PySem.W.kdv_tup [.int 0 tk])
def cloC (P : Prog) (cells : List (Str × Addr)) (q : Str) (i : Nat) (p c t : Addr) (o oc ot : HO) : Prop :=
  ∃ params body scope dV, P.lck i params body scope = true ∧ o = cloO p q params body scope (cloFrom cells scope.names []) dV c ∧ oc = LamX.CodeO c q ∧ ((lamP params = some none ∧ dV = .none) ∨ ∃ a, lamP params = some (some a) ∧ dV = .ref t ∧ ot = dflO t)
structure LamD (P : Prog) (Φ : Cal) (fa : Str → Addr) (k : Nat) (N : List Str) (sc : Sco) (X : Cx) (Bz : Zs) : Prop where
  tb : ∃ c Pt, LamX.TabB X.base X.mg c Pt ∧ X.env.code = .ref c ∧ Bz.T = [(Pt, X.env.qual ++ "<lambda>")]
  C : Bz.C = cloC P X.env.cells (X.env.qual ++ "<lambda>")
  rm : Room (k + 6) X.A
  snd : ∀ i params body scope, P.lck i params body scope = true → ∀ (W : WX) (Y : Cx), OkX0 P Φ fa k N ⟨scope, false, false⟩ W Y Bz → PE Y body (fun σ H Q => ∃ w env st, RE ⟨Y.K, Bz⟩ w env σ ∧ RS ⟨Y.K, Bz⟩ w st H ∧ Post ⟨Y.K, Bz⟩ w (P.lam Φ i env st) (AV ⟨Y.K, Bz⟩ Q) fun c d H' => W c d σ H')
  shp : ∀ i params body scope, P.lck i params body scope = true → ∃ pa, lamP params = some pa ∧ LamOwn N sc.sc scope pa
structure OkX (P : Prog) (Φ : Cal) (fa : Str → Addr) (k : Nat) (N : List Str) (sc : Sco) (W : WX) (X : Cx) (Bz : Zs) : Prop extends OkX0 P Φ fa k N sc W X Bz where
  lm : sc.lm = true → LamD P Φ fa k N sc X Bz
section
variable {P : Prog} {Φ : Cal} {fa : Str → Addr} {k : Nat} {N : List Str} {sc : Sco} {W : WX} {X : Cx} {Bz : Zs} {w : Wd} {st : Store} {H : Hp} {pins : List (Addr × Obj)} {σ : L2.St} {s : Shared} {Q : VK}
theorem call_ok (O : OkX P Φ fa k N sc W X Bz) {a : Addr} {n : Nat} {kn : List Str} {sp : List V → List V → Hp → VK → XK → Prop} (C : CallOk X.prog X.w X.K X.mg X.base k a n kn sp) {us ws : List Value} {xs zs : List V} (I : L2.Inv X pins σ H s) (r : Vals xs us) (rz : Vals zs ws)
    (h : sp xs zs H Q fun c d H' => W c d σ H') : wpAny (model X.prog X.w) X.A (PySem.call (.ref a) us (kn.zip ws)) (EP X pins σ Q) X.xe s := by
  refine wpAny_call (codeAny_mono (C X.A X.stack s H us ws xs zs Q (fun c d H' => W c d σ H') (O.room.mono (by omega)) I.env0 r rz h) fun r s' hq => ?_)
  cases r with
  | error e => exact O.tk e s' (XE.of_call I (fun _ _ _ h => h) hq)
  | ok fl =>
    cases fl with
    | ret u => exact I.after hq
    | next => exact False.elim hq
    | brk => exact False.elim hq
    | cont => exact False.elim hq
theorem callM_ok (O : OkX P Φ fa k N sc W X Bz) {m : Mode} {f : Str} {kn : List Str} {vs ks : List Val} {xs zs : List V} {us ws : List Value} (I : L2.Inv X pins σ H s) (hS : RS ⟨X.K, Bz⟩ w st H) (rv : RVs ⟨X.K, Bz⟩ w vs xs) (rk : RVs ⟨X.K, Bz⟩ w ks zs) (r : Vals xs us) (rz : Vals zs ws) (hkn : ks.length = kn.length)
    (h : Post ⟨X.K, Bz⟩ w (callM P Φ m f kn vs ks st) (AV ⟨X.K, Bz⟩ Q) fun c d H' => W c d σ H') : wpAny (model X.prog X.w) X.A (PySem.call (.ref (fa f)) us (kn.zip ws)) (EP X pins σ Q) X.xe s := by
  unfold callM at h
  cases e : P.bind f vs.length kn with
  | none => rw [e] at h; exact h.elim
  | some tp =>
    rw [e] at h
    simp only at h
    cases e2 : srcs vs ks tp with
    | none => rw [e2] at h; exact h.elim
    | some args =>
      rw [e2] at h
      exact call_ok O (O.lk.fn f _ kn tp e).1 I r rz ⟨w, st, vs, ks, args, hS, rv, rk, rfl, hkn, e2, finish_ok hS h⟩
theorem methM_ok (O : OkX P Φ fa k N sc W X Bz) {f : Str} {a : Val} {x : V} {u : Value} {pl : Sem Bool} (I : L2.Inv X pins σ H s) (hS : RS ⟨X.K, Bz⟩ w st H) (ra : RV ⟨X.K, Bz⟩ w a x) (rx : RelV x u) {c : Str} {ns : List Str} {ws' : List Val} {g : Str} (hi : insOf st a = some (c, ns, ws')) (hf : fld ns ws' f = none) (hg : P.meth c f = some g) (hc : P.isc c = true) {R : Value × List Value → Shared → Prop} (q : R (.ref (fa g), [u]) s) :
    wpAny (model X.prog X.w) X.A (getMethod u f pl) R X.xe s := by
  obtain ⟨p, dx, fs, rfl, hp, hn, rr⟩ := insOf_rel (O.lk.nd hc) hS ra hi
  obtain rfl : u = Value.ref p :=
                                  rx
  exact getmeth_ok I hp (O.lk.cl c hc) (O.lk.me c f g hg hc) ((fld_rel hn rr).2 hf) q
theorem attrM_ok (O : OkX P Φ fa k N sc W X Bz) {f : Str} {a : Val} {x : V} {u : Value} {b : Bool} (I : L2.Inv X pins σ H s) (hS : RS ⟨X.K, Bz⟩ w st H) (ra : RV ⟨X.K, Bz⟩ w a x) (rx : RelV x u) (h : Post ⟨X.K, Bz⟩ w (attrM P Φ a f st) (AV ⟨X.K, Bz⟩ Q) fun c d H' => W c d σ H') :
    wpAny (model X.prog X.w) X.A (getAttr u f b) (EP X pins σ Q) X.xe s := by
  unfold attrM at h
  cases hi : insOf st a with
  | none => rw [hi] at h; exact h.elim
  | some z =>
    obtain ⟨c, ns, ws⟩ := z
    rw [hi] at h
    simp only at h
    split at h
    · rename_i hc
      obtain ⟨p, dx, fs, rfl, hp, hn, rr⟩ := insOf_rel (O.lk.nd hc) hS ra hi
      obtain rfl : u = Value.ref p :=
                                      rx
      have cl := O.lk.cl c hc
      cases hg : P.prop c f with
      | some g =>
        rw [hg] at h
        simp only at h
        obtain ⟨pp, hpo⟩ := O.lk.pr c f g hg
        obtain ⟨mA, OO, _, _, _, _⟩ := ins_get I.hok hp
        obtain ⟨od, J, _⟩ := OO.look
        obtain ⟨rest, hrec⟩ := hpo.rec_
        have I1 := I.tok (s.toks + 1)
        have hcl : (PySem.W.clsIn X.K (cA X.K c)).isSome = true := by
          obtain ⟨cd, hc, _⟩ := PySem.W.any_some cl.hd
          rw [hc]
          rfl
        have h2 : Post ⟨X.K, Bz⟩ w (finish .pure st (Φ g [a] st)) (AV ⟨X.K, Bz⟩ Q) (fun _ _ _ => False) := by
          cases e : finish .pure st (Φ g [a] st) with
          | ok v st' => rw [e] at h; exact h
          | err _ _ _ _ => rw [e] at h; exact h.elim
          | stuck => rw [e] at h; exact h.elim
        have C := O.lk.pf c f g hg
        refine PySem.W.get_bind I.kIn J (PySem.W.plainGet_of (cl.get f)).1 (PySem.W.findObj_data hcl hpo.at_ hpo.get hpo.tak) (PySem.W.plainGet_of (cl.get f)).2 (wpAny_call (PySem.W.prop_get (s := { s with toks := s.toks + 1 }) I.kIn hrec ?_))
        refine codeAny_mono (C X.A.in1 X.stack { s with toks := s.toks + 1 } H [.ref p] [] [.ref p] [] Q (fun _ _ _ => False) (O.room.mono (by omega)).in1 I1.env0.in1 (.cons rfl .nil) .nil ⟨w, st, [a], [], [a], hS, RVs.cons ra RVs.nil, RVs.nil, rfl, rfl, rfl, finish_ok hS h2⟩) fun r s' hq => ?_
        cases r with
        | error er =>
          obtain ⟨_, _, _, _, _, _, _, _, _, _, _, _, z⟩ := hq
          exact z.elim
        | ok fl =>
          cases fl with
          | ret u =>
            obtain ⟨v, H', I3, rv, q3⟩ := I1.after
                                                   hq
            show wpAny _ _ (handedOut u) _ _
                                             _
            rw [PySem.W.handedOut_of (handed_of
                                                rv)]
            exact wpAny_pure ⟨v, H', I3, rv,
                                             q3⟩
          | next => exact False.elim hq
          | brk => exact False.elim hq
          | cont => exact False.elim hq
      | none =>
        rw [hg] at h
        simp only at h
        cases hv : fld ns ws f with
        | some v =>
          rw [hv] at h
          by_cases hfl : P.fl c f = true
          · simp only [if_pos hfl] at h
            obtain ⟨y, hy, ry⟩ := (fld_rel hn rr).1 v hv
            exact getattr_ok I hp cl (O.lk.na c f hfl) hy fun u' s' I' r' => ⟨y, H, I', r', h w H (Le.refl w) hS y ry⟩
          · simp only [if_neg hfl] at h; exact h.elim
        | none =>
          rw [hv] at h
          obtain ⟨v, e, q⟩ := h.of
          obtain ⟨y, u', hco, ry⟩ := O.lk.co c f v e
          exact getcon_ok I hp cl hco ((fld_rel hn rr).2 hv) fun s' I' => ⟨y, H, I', hco.rel, q w H (Le.refl w) hS y (ry w)⟩
    · exact h.elim
end
end Mp
end
section
set_option Elab.async false
set_option linter.all false
set_option maxRecDepth 100000
set_option maxHeartbeats
                         1000000
namespace Mp
open PySem L2 PySem.Spec PyProof.Rows
section
variable (P : Prog) (Φ : Cal) (K : KZ) (W : WX)
def rd {α : Type} (ev : Env → Store → R α) (σ : L2.St) (H : Hp) (A : Wd → α → Hp → Prop) : Prop :=
  ∃ w env st, RE K w env σ ∧ RS K w st H ∧ Post K w (ev env st) (fun w' a _ H' => A w' a H') fun c d H' => W c d σ H'
def rdE (m : ME) : TE := fun σ H Q => rd K W (evalE P Φ m) σ H fun w' v H' => ∀ x, RV K w' v x → Q x H'
def rdT (m : ME) : TT := fun σ H Q => rd K W (evalT P Φ m) σ H fun _ b H' => Q b H'
def rdA (ms : List ME) : TA := fun σ H Q => rd K W (evalEs P Φ ms) σ H fun w' vs H' => ∀ xs, RVs K w' vs xs → Q xs H'
end
section
variable {P : Prog} {Φ : Cal} {fa : Str → Addr} {k : Nat} {N : List Str} {sc : Sco} {W : WX} {X : Cx} {Bz : Zs}
theorem rd_seq {K : KZ} {α β : Type} {ev : Env → Store → R α} {kk : α → Store → R β} {σ : L2.St} {H : Hp} {w : Wd} {env : Env} {st : Store} {A : Wd → β → Store → Hp → Prop} {B : Wd → α → Hp → Prop}
    (hE : RE K w env σ) (hS : RS K w st H) (h : Post K w ((ev env st).then_ kk) A fun c d H' => W c d σ H')
    (hk : ∀ w1 a st1 H1, Le w w1 → RE K w1 env σ → RS K w1 st1 H1 → Post K w1 (kk a st1) A (fun c d H' => W c d σ H') → B w1 a H1) : rd K W ev σ H B :=
  ⟨w, env, st, hE, hS, h.seq.imp fun w1 a st1 H1 l s p => hk w1 a st1 H1 l (hE.mono l) s p⟩
theorem rdE_seq {m : ME} {β : Type} {kk : Val → Store → R β} {σ : L2.St} {H : Hp} {w : Wd} {env : Env} {st : Store} {A : Wd → β → Store → Hp → Prop} {Q : VK}
    (hE : RE ⟨X.K, Bz⟩ w env σ) (hS : RS ⟨X.K, Bz⟩ w st H) (h : Post ⟨X.K, Bz⟩ w ((evalE P Φ m env st).then_ kk) A fun c d H' => W c d σ H')
    (hk : ∀ w1 v x st1 H1, Le w w1 → RE ⟨X.K, Bz⟩ w1 env σ → RS ⟨X.K, Bz⟩ w1 st1 H1 → RV ⟨X.K, Bz⟩ w1 v x → Post ⟨X.K, Bz⟩ w1 (kk v st1) A (fun c d H' => W c d σ H') → Q x H1) : rdE P Φ ⟨X.K, Bz⟩ W m σ H Q :=
  rd_seq hE hS h fun w1 v st1 H1 l e s p x r => hk w1 v x st1 H1 l e s r p
theorem rdA_seq {m : List ME} {β : Type} {kk : List Val → Store → R β} {σ : L2.St} {H : Hp} {w : Wd} {env : Env} {st : Store} {A : Wd → β → Store → Hp → Prop} {Q : List V → Hp → Prop}
    (hE : RE ⟨X.K, Bz⟩ w env σ) (hS : RS ⟨X.K, Bz⟩ w st H) (h : Post ⟨X.K, Bz⟩ w ((evalEs P Φ m env st).then_ kk) A fun c d H' => W c d σ H')
    (hk : ∀ w1 v x st1 H1, Le w w1 → RE ⟨X.K, Bz⟩ w1 env σ → RS ⟨X.K, Bz⟩ w1 st1 H1 → RVs ⟨X.K, Bz⟩ w1 v x → Post ⟨X.K, Bz⟩ w1 (kk v st1) A (fun c d H' => W c d σ H') → Q x H1) : rdA P Φ ⟨X.K, Bz⟩ W m σ H Q :=
  rd_seq hE hS h fun w1 v st1 H1 l e s p x r => hk w1 v x st1 H1 l e s r p
theorem rdT_seq {m : ME} {β : Type} {kk : Bool → Store → R β} {σ : L2.St} {H : Hp} {w : Wd} {env : Env} {st : Store} {A : Wd → β → Store → Hp → Prop} {Q : Bool → Hp → Prop}
    (hE : RE ⟨X.K, Bz⟩ w env σ) (hS : RS ⟨X.K, Bz⟩ w st H) (h : Post ⟨X.K, Bz⟩ w ((evalT P Φ m env st).then_ kk) A fun c d H' => W c d σ H')
    (hk : ∀ w1 b st1 H1, Le w w1 → RE ⟨X.K, Bz⟩ w1 env σ → RS ⟨X.K, Bz⟩ w1 st1 H1 → Post ⟨X.K, Bz⟩ w1 (kk b st1) A (fun c d H' => W c d σ H') → Q b H1) : rdT P Φ ⟨X.K, Bz⟩ W m σ H Q :=
  rd_seq hE hS h fun w1 v st1 H1 l e s p => hk w1 v st1 H1 l e s p
def vis (sc : Sco) (x : Str) : Bool := match sc.sc.names.lookup x with
  | some .local => true
  | some .cell => true
  | some .free => true
  | _ => false
def isGl (sc : Sco) (x : Str) : Bool := decide (sc.sc.names.lookup x = some .globalImplicit)
def nmOk (x : Str) : Bool := !(x == ("__debug__" : Str)) && !(x == ("__classdict__" : Str)) && !decide (x = ("__name__" : Str)) && !decide (x = ("super" : Str))
theorem vis_ok {x : Str} (h : vis sc x = true) : Vis sc.sc x := by
  unfold vis at h
  unfold Vis
  split at h
  · rename_i e; exact .inl e
  · rename_i e; exact .inr (.inl e)
  · rename_i e; exact .inr (.inr e)
  · cases h
theorem nmOk_d {x : Str} (h : nmOk x = true) : (x == ("__debug__" : Str)) = false ∧ (x == ("__classdict__" : Str)) = false ∧ x ≠ "__name__" ∧ x ≠ "super" := by
  unfold nmOk at h
  simp only [Bool.and_eq_true, Bool.not_eq_true', decide_eq_false_iff_not] at h
  exact ⟨h.1.1.1, h.1.1.2, h.1.2, h.2⟩
theorem gl_ok (O : OkX P Φ fa k N sc W X Bz) {x : Str} (h : isGl sc x = true) : Gl X x := by
  show X.env.scope.names.lookup x = _
  rw [O.sco]; exact of_decide_eq_true h
theorem snd_var (O : OkX P Φ fa k N sc W X Bz) {i : Nat} {x : Str} {pos : Pos} (hN : N[i]? = some x) (hv : vis sc x = true) (hn : nmOk x = true) : PE X (.Name x pos) (rdE P Φ ⟨X.K, Bz⟩ W (.var i)) := by
  obtain ⟨d1, d2, _⟩ := nmOk_d hn
  refine (pe_var (i := i) (by rw [O.names]; exact hN) (by rw [O.sco]; exact vis_ok hv) d1 d2).imp fun σ H Q ⟨w, env, st, hE, hS, h⟩ => ?_
  replace h : Post ⟨X.K, Bz⟩ w (match env[i]? with | some (some v) => R.ok v st | _ => .stuck) (fun w' v _ H' => ∀ x, RV ⟨X.K, Bz⟩ w' v x → Q x H') fun c d H' => W c d σ H' := h
  split at h
  · rename_i v e
    obtain ⟨y, e1, r⟩ := hE.2 i v e
    exact ⟨y, e1, h w H (Le.refl w) hS y r⟩
  · exact h.elim
theorem snd_const {m : ME} {v : Val} {x : V} {e : Expr} (he : PE X e (tC x)) (hm : ∀ env st, evalE P Φ m env st = .ok v st) (r : ∀ w, RV ⟨X.K, Bz⟩ w v x) : PE X e (rdE P Φ ⟨X.K, Bz⟩ W m) :=
  he.imp fun σ H Q ⟨w, env, st, hE, hS, h⟩ => by
    rw [hm] at h
    exact h w H (Le.refl w) hS x (r w)
theorem snd_glob (O : OkX P Φ fa k N sc W X Bz) {x : Str} {pos : Pos} (hg : isGl sc x = true) (hn : nmOk x = true) : PE X (.Name x pos) (rdE P Φ ⟨X.K, Bz⟩ W (.glob x)) := by
  cases e : P.glob x with
  | none =>
    refine ⟨fun pins s σ H Q I ⟨w, env, st, hE, hS, h⟩ => ?_⟩
    replace h : Post ⟨X.K, Bz⟩ w (R.of (P.glob x) st) (fun w' v _ H' => ∀ x, RV ⟨X.K, Bz⟩ w' v x → Q x H') fun c d H' => W c d σ H' := h
    rw [e] at h; exact h.elim
  | some v =>
    obtain ⟨y, u, h1, h2, h3⟩ := O.lk.gl x v e
    refine snd_const (v := v) (pe_glob (gl_ok O hg) h1 h2 (nmOk_d hn).1) (fun env st => ?_) h3
    show R.of (P.glob x) st = _
    rw [e]; rfl
theorem snd_bin {op : Bop} {o : Operator} {a b : Expr} {ma mb : ME} {pos : Pos} (ho : o = pyop op) (ha : PE X a (rdE P Φ ⟨X.K, Bz⟩ W ma)) (hb : PE X b (rdE P Φ ⟨X.K, Bz⟩ W mb)) : PE X (.BinOp a o b pos) (rdE P Φ ⟨X.K, Bz⟩ W (.bin op ma mb)) := by
  subst ho
  refine (pe_op (op_bin (Bz := Bz) op) ha hb).imp fun σ H Q ⟨w, env, st, hE, hS, h⟩ => ?_
  refine rdE_seq hE hS h fun w1 v x st1 H1 l1 hE1 hS1 rv h1 => ?_
  refine rdE_seq hE1 hS1 h1 fun w2 u y st2 H2 l2 hE2 hS2 ru h2 => ?_
  obtain ⟨z, e, q⟩ := h2.of
  exact ⟨w2, st2, v, u, hS2, RV.mono l2 v rv, ru, z, e, q⟩
theorem snd_neg {a : Expr} {ma : ME} {pos : Pos} (ha : PE X a (rdE P Φ ⟨X.K, Bz⟩ W ma)) : PE X (.UnaryOp .USub a pos) (rdE P Φ ⟨X.K, Bz⟩ W (.neg ma)) := by
  refine (pe_un un_neg ha).imp fun σ H Q ⟨w, env, st, hE, hS, h⟩ => ?_
  refine rdE_seq hE hS h fun w1 v x st1 H1 l1 hE1 hS1 rv h1 => ?_
  cases v with
  | int i => cases (show x = .int i from rv); exact ⟨i, rfl, h1 w1 H1 (Le.refl _) hS1 _ rfl⟩
  | _ => exact h1.elim
theorem cmp_tail {op : Cop} {σ : L2.St} {H : Hp} {Q : VK} {w : Wd} {st : Store} {a b : Val} {x y : V} (hS : RS ⟨X.K, Bz⟩ w st H) (ra : RV ⟨X.K, Bz⟩ w a x) (rb : RV ⟨X.K, Bz⟩ w b y) (h : Post ⟨X.K, Bz⟩ w (R.of ((cmpV st op a b).map Val.bl) st) (AV ⟨X.K, Bz⟩ Q) fun c d H' => W c d σ H') : rCmp ⟨X.K, Bz⟩ op x y H Q := by
  obtain ⟨z, e, q⟩ := h.of
  obtain ⟨kk, e2, rfl⟩ := Option.map_eq_some_iff.mp e
  exact ⟨w, st, a, b, hS, ra, rb, kk, e2, fun w' H' l s => q w' H' l s _ rfl⟩
theorem units64 (O : OkX P Φ fa k N sc W X Bz) : X.A.units + 65 < cLine := by have := O.room.un; omega
theorem snd_cmp (O : OkX P Φ fa k N sc W X Bz) {op : Cop} {o : CmpOp} {a b : Expr} {ma mb : ME} {pos : Pos} (ho : o = pycop op) (hm : behindInMarks o b = false) (ha : PE X a (rdE P Φ ⟨X.K, Bz⟩ W ma)) (hb : PE X b (rdE P Φ ⟨X.K, Bz⟩ W mb)) : PE X (.Compare a [o] [b] pos) (rdE P Φ ⟨X.K, Bz⟩ W (.cmp op ma mb)) := by
  subst ho
  refine (pe_cmpR (op_cmp (Bz := Bz) op (units64 O)) ha hb hm).imp fun σ H Q ⟨w, env, st, hE, hS, h⟩ => ?_
  refine rdE_seq hE hS h fun w1 v x st1 H1 l1 hE1 hS1 rv h1 => ?_
  refine rdE_seq hE1 hS1 h1 fun w2 u y st2 H2 l2 hE2 hS2 ru h2 => ?_
  exact cmp_tail hS2 (RV.mono l2 v rv) ru h2
theorem asB_post {w : Wd} {r : R Val} {A : Wd → Bool → Store → Hp → Prop} {B : XK} (h : Post ⟨X.K, Bz⟩ w (asB r) A B) : Post ⟨X.K, Bz⟩ w r (fun w' v st' H' => ∃ b, v = .bl b ∧ A w' b st' H') B := by
  cases r with
  | ok v st =>
    cases v with
    | bl b => exact fun w' H' l s => ⟨b, rfl, h w' H' l s⟩
    | _ => exact h.elim
  | err c ns vs st => exact h
  | stuck => exact h
theorem snd_cmpT (O : OkX P Φ fa k N sc W X Bz) {op : Cop} {o : CmpOp} {a b : Expr} {ma mb : ME} {pos : Pos} (ho : o = pycop op) (hm : behindInMarks o b = false) (ha : PE X a (rdE P Φ ⟨X.K, Bz⟩ W ma)) (hb : PE X b (rdE P Φ ⟨X.K, Bz⟩ W mb)) : PT X (.Compare a [o] [b] pos) (rdT P Φ ⟨X.K, Bz⟩ W (.cmp op ma mb)) := by
  subst ho
  refine (pt_cmpR (op_cmp (Bz := Bz) op (units64 O)) ha hb hm).imp fun σ H Q ⟨w, env, st, hE, hS, h⟩ => ?_
  replace h := asB_post (show Post ⟨X.K, Bz⟩ w (asB _) _ _ from h)
  refine rdE_seq hE hS h fun w1 v x st1 H1 l1 hE1 hS1 rv h1 => ?_
  refine rdE_seq hE1 hS1 h1 fun w2 u y st2 H2 l2 hE2 hS2 ru h2 => ?_
  refine cmp_tail (W := W) (σ := σ) hS2 (RV.mono l2 v rv) ru (h2.imp fun w' z st' H' l s ⟨b, e, q⟩ x rx => ?_)
  subst e
  exact ⟨b, rx, q⟩
theorem chain_tail {op : Cop} {σ : L2.St} {H : Hp} {w : Wd} {st : Store} {a b : Val} {x y : V} {A : Wd → Val → Store → Hp → Prop} {Q' : Bool → Hp → Prop} {kk : Bool → R Val}
    (hS : RS ⟨X.K, Bz⟩ w st H) (ra : RV ⟨X.K, Bz⟩ w a x) (rb : RV ⟨X.K, Bz⟩ w b y) (h : Post ⟨X.K, Bz⟩ w (match cmpV st op a b with | none => .stuck | some false => kk false | some true => kk true) A fun c d H' => W c d σ H')
    (q : ∀ b' w' H', Le w w' → RS ⟨X.K, Bz⟩ w' st H' → Post ⟨X.K, Bz⟩ w' (kk b') A (fun c d H' => W c d σ H') → Q' b' H') : rCmp ⟨X.K, Bz⟩ op x y H fun z H' => ∃ b', z = .bl b' ∧ Q' b' H' := by
  cases e : cmpV st op a b with
  | none => rw [e] at h; exact h.elim
  | some b' =>
    rw [e] at h
    exact ⟨w, st, a, b, hS, ra, rb, b', e, fun w' H' l s => ⟨b', rfl, q b' w' H' l s (by cases b' <;> exact Post.mono l h)⟩⟩
theorem snd_chain (O : OkX P Φ fa k N sc W X Bz) {op op' : Cop} {o o' : CmpOp} {a b c : Expr} {ma mb mc : ME} {pos : Pos} (ho : o = pycop op) (ho' : o' = pycop op') (hm : lastMarks [o, o'] [b, c] = false)
    (ha : PE X a (rdE P Φ ⟨X.K, Bz⟩ W ma)) (hb : PE X b (rdE P Φ ⟨X.K, Bz⟩ W mb)) (hc : PE X c (rdE P Φ ⟨X.K, Bz⟩ W mc)) : PE X (.Compare a [o, o'] [b, c] pos) (rdE P Φ ⟨X.K, Bz⟩ W (.chain op op' ma mb mc)) := by
  subst ho ho'
  refine (pe_chain (op_cmp (Bz := Bz) op (units64 O)) (op_cmp (Bz := Bz) op' (units64 O)) ha hb hc hm).imp fun σ H Q ⟨w, env, st, hE, hS, h⟩ => ?_
  refine rdE_seq hE hS h fun w1 v x st1 H1 l1 hE1 hS1 rv h1 => ?_
  refine rdE_seq hE1 hS1 h1 fun w2 u y st2 H2 l2 hE2 hS2 ru h2 => ?_
  refine chain_tail (kk := fun b => match b with | false => R.ok (Val.bl false) st2 | true => (evalE P Φ mc env st2).then_ fun z st => R.of ((cmpV st op' u z).map .bl) st) hS2 (RV.mono l2 v rv) ru (by cases e : cmpV st2 op v u with
    | none => rw [e] at h2; exact h2
    | some b => rw [e] at h2; cases b <;> exact h2) fun b' w' H' l s hp => ?_
  cases b' with
  | false => exact hp w' H' (Le.refl _) s _ rfl
  | true =>
    refine rdE_seq (hE2.mono l) s hp fun w3 z x3 st3 H3 l3 hE3 hS3 rz h3 => ?_
    exact cmp_tail hS3 (RV.mono (l.trans l3) u ru) rz h3
theorem snd_chainT (O : OkX P Φ fa k N sc W X Bz) {op op' : Cop} {o o' : CmpOp} {a b c : Expr} {ma mb mc : ME} {pos : Pos} (ho : o = pycop op) (ho' : o' = pycop op') (hm : lastMarks [o, o'] [b, c] = false)
    (ha : PE X a (rdE P Φ ⟨X.K, Bz⟩ W ma)) (hb : PE X b (rdE P Φ ⟨X.K, Bz⟩ W mb)) (hc : PE X c (rdE P Φ ⟨X.K, Bz⟩ W mc)) : PT X (.Compare a [o, o'] [b, c] pos) (rdT P Φ ⟨X.K, Bz⟩ W (.chain op op' ma mb mc)) := by
  subst ho ho'
  refine (pt_chain (op_cmp (Bz := Bz) op (units64 O)) (op_cmp (Bz := Bz) op' (units64 O)) ha hb hc hm).imp fun σ H Q ⟨w, env, st, hE, hS, h⟩ => ?_
  replace h := asB_post (show Post ⟨X.K, Bz⟩ w (asB _) _ _ from h)
  refine rdE_seq hE hS h fun w1 v x st1 H1 l1 hE1 hS1 rv h1 => ?_
  refine rdE_seq hE1 hS1 h1 fun w2 u y st2 H2 l2 hE2 hS2 ru h2 => ?_
  refine chain_tail (kk := fun b => match b with | false => R.ok (Val.bl false) st2 | true => (evalE P Φ mc env st2).then_ fun z st => R.of ((cmpV st op' u z).map .bl) st) hS2 (RV.mono l2 v rv) ru (by cases e : cmpV st2 op v u with
    | none => rw [e] at h2; exact h2
    | some b => rw [e] at h2; cases b <;> exact h2) fun b' w' H' l s hp => ?_
  cases b' with
  | false =>
    obtain ⟨b, e, q⟩ := hp w' H' (Le.refl _) s
    cases e
    exact ⟨false, rfl, q⟩
  | true =>
    refine rdE_seq (hE2.mono l) s hp fun w3 z x3 st3 H3 l3 hE3 hS3 rz h3 => ?_
    refine cmp_tail (W := W) (σ := σ) hS3 (RV.mono (l.trans l3) u ru) rz (h3.imp fun w' z st' H' l s ⟨b, e, q⟩ x rx => ?_)
    subst e
    exact ⟨b, rx, q⟩
theorem snd_not {a : Expr} {ma : ME} {pos : Pos} (ha : PE X a (rdE P Φ ⟨X.K, Bz⟩ W ma)) : PE X (.UnaryOp .Not a pos) (rdE P Φ ⟨X.K, Bz⟩ W (.not ma)) := by
  refine (pe_not ha).imp fun σ H Q ⟨w, env, st, hE, hS, h⟩ => ?_
  refine rdE_seq hE hS h fun w1 v x st1 H1 l1 hE1 hS1 rv h1 => ?_
  cases v with
  | bl i => cases (show x = .bl i from rv); exact ⟨i, rfl, h1 w1 H1 (Le.refl _) hS1 _ rfl⟩
  | _ => exact h1.elim
theorem snd_notT {a : Expr} {ma : ME} {pos : Pos} (ha : PT X a (rdT P Φ ⟨X.K, Bz⟩ W ma)) : PT X (.UnaryOp .Not a pos) (rdT P Φ ⟨X.K, Bz⟩ W (.not ma)) := by
  refine (pt_not ha).imp fun σ H Q ⟨w, env, st, hE, hS, h⟩ => ?_
  refine rdT_seq hE hS h fun w1 b st1 H1 l1 hE1 hS1 h1 => h1 w1 H1 (Le.refl _) hS1
theorem snd_ite {c a b : Expr} {mc ma mb : ME} {pos : Pos} (hc : PT X c (rdT P Φ ⟨X.K, Bz⟩ W mc)) (ha : PE X a (rdE P Φ ⟨X.K, Bz⟩ W ma)) (hb : PE X b (rdE P Φ ⟨X.K, Bz⟩ W mb)) : PE X (.IfExp c a b pos) (rdE P Φ ⟨X.K, Bz⟩ W (.ite mc ma mb)) := by
  refine (pe_ifExp hc ha hb).imp fun σ H Q ⟨w, env, st, hE, hS, h⟩ => ?_
  refine rdT_seq hE hS h fun w1 b st1 H1 l1 hE1 hS1 h1 => ?_
  cases b with
  | true => exact ⟨w1, env, st1, hE1, hS1, h1⟩
  | false => exact ⟨w1, env, st1, hE1, hS1, h1⟩
theorem snd_nil : PA X [] (rdA P Φ ⟨X.K, Bz⟩ W []) := pa_nil.imp fun σ H Q ⟨w, env, st, hE, hS, h⟩ => h w H (Le.refl _) hS [] rfl
theorem snd_cons {e : Expr} {es : List Expr} {m : ME} {ms : List ME} (hs : starEach (e :: es) X.env = (false, eval e X.env) :: starEach es X.env) (he : PE X e (rdE P Φ ⟨X.K, Bz⟩ W m)) (hr : PA X es (rdA P Φ ⟨X.K, Bz⟩ W ms)) : PA X (e :: es) (rdA P Φ ⟨X.K, Bz⟩ W (m :: ms)) := by
  refine (pa_cons he hr hs).imp fun σ H Q ⟨w, env, st, hE, hS, h⟩ => ?_
  refine rdE_seq hE hS h fun w1 v x st1 H1 l1 hE1 hS1 rv h1 => ?_
  refine rdA_seq hE1 hS1 h1 fun w2 u y st2 H2 l2 hE2 hS2 ru h2 => ?_
  exact h2 w2 H2 (Le.refl _) hS2 _ (RVs.cons (RV.mono l2 v rv) ru)
theorem le_line {n : Nat} (h : n ≤ 1000) : n ≤ sizeLine := by rw [sizeLine_eq]; omega
theorem snd_tup {es : List Expr} {ms : List ME} {x1 : Nat} {pos : Pos} (hl : ms.length ≤ 1000) (hn : ∀ env st vs st', evalEs P Φ ms env st = .ok vs st' → vs.length = ms.length) (ha : PA X es (rdA P Φ ⟨X.K, Bz⟩ W ms)) : PE X (.Tuple es x1 pos) (rdE P Φ ⟨X.K, Bz⟩ W (.tup ms)) := by
  refine (pe_tup ha).imp fun σ H Q ⟨w, env, st, hE, hS, h⟩ => ?_
  refine ⟨w, env, st, hE, hS, ?_⟩
  replace h : Post ⟨X.K, Bz⟩ w ((evalEs P Φ ms env st).then_ fun vs st => R.ok (Val.tup vs) st) (AV ⟨X.K, Bz⟩ Q) fun c d H' => W c d σ H' := h
  cases e : evalEs P Φ ms env st with
  | ok vs st' =>
    rw [e] at h
    intro w1 H1 l1 hS1 xs r
    have hz : vs.length ≤ sizeLine := by rw [hn _ _ _ _ e]; exact le_line hl
    refine ⟨by rw [← r.length]; exact hz, give_tup (A := fun w' v st' H' => ∀ x, RV ⟨X.K, Bz⟩ w' v x → Q x H') hS1 r hz (fun w' H' l s => h w' H' (l1.trans l) s) fun _ _ h => h⟩
  | err c ns vs st' => rw [e] at h; exact h
  | stuck => rw [e] at h; exact h
theorem snd_lst {es : List Expr} {ms : List ME} {pos : Pos} {mu : Bool} (hl : ms.length ≤ 1000) (hn : ∀ env st vs st', evalEs P Φ ms env st = .ok vs st' → vs.length = ms.length) (ha : PA X es (rdA P Φ ⟨X.K, Bz⟩ W ms)) : PE X (.List es pos) (rdE P Φ ⟨X.K, Bz⟩ W (.lst mu ms)) := by
  refine (pe_lst ha).imp fun σ H Q ⟨w, env, st, hE, hS, h⟩ => ?_
  refine ⟨w, env, st, hE, hS, ?_⟩
  replace h : Post ⟨X.K, Bz⟩ w ((evalEs P Φ ms env st).then_ fun vs st => match mu with
    | true => R.ok (Val.ref st.length) (st ++ [.lst vs])
    | false => R.ok (Val.lst vs) st) (AV ⟨X.K, Bz⟩ Q) fun c d H' => W c d σ H' := h
  cases e : evalEs P Φ ms env st with
  | ok vs st' =>
    rw [e] at h
    intro w1 H1 l1 hS1 xs r
    have hz : vs.length ≤ sizeLine := by rw [hn _ _ _ _ e]; exact le_line hl
    refine ⟨by rw [← r.length]; exact hz, ?_⟩
    cases mu with
    | false => exact give_lst (A := fun w' v st' H' => ∀ x, RV ⟨X.K, Bz⟩ w' v x → Q x H') hS1 r hz (fun w' H' l s => h w' H' (l1.trans l) s) fun _ _ h => h
    | true =>
      intro p hp
      have s2 := hS1.push (H' := upd H1 p (.lst xs)) (s := .lst vs) hp (fun q n _ => upd_ne n) ⟨xs, upd_same, hz, RVs.mono (RS.push_le p) _ r⟩
      refine h _ _ (l1.trans (RS.push_le p)) s2 _ ⟨p, rfl, ?_⟩
      show (w1.e ++ [p])[st'.length]? = some p
      rw [← hS1.len]; simp
  | err c ns vs st' => rw [e] at h; exact h
  | stuck => rw [e] at h; exact h
theorem snd_ix {a b : Expr} {ma mb : ME} {pos : Pos} (hp : PlainIx b) (ha : PE X a (rdE P Φ ⟨X.K, Bz⟩ W ma)) (hb : PE X b (rdE P Φ ⟨X.K, Bz⟩ W mb)) : PE X (.Subscript a b pos) (rdE P Φ ⟨X.K, Bz⟩ W (.ix ma mb)) := by
  refine (pe_ix (ix_ok (Bz := Bz)) ha hb hp).imp fun σ H Q ⟨w, env, st, hE, hS, h⟩ => ?_
  refine rdE_seq hE hS h fun w1 v x st1 H1 l1 hE1 hS1 rv h1 => ?_
  refine rdE_seq hE1 hS1 h1 fun w2 u y st2 H2 l2 hE2 hS2 ru h2 => ?_
  obtain ⟨z, e, q⟩ := h2.of
  exact ⟨w2, st2, v, u, hS2, RV.mono l2 v rv, ru, z, e, q⟩
inductive PB1 (X : Cx) (Bz : Zs) (P : Prog) (Φ : Cal) (W : WX) : Option Expr → List ME → Prop
  | no : PB1 X Bz P Φ W none []
  | one {e : Expr} {m : ME} (h : PE X e (rdE P Φ ⟨X.K, Bz⟩ W m)) : PB1 X Bz P Φ W (some e) [m]
theorem snd_part {o : Option Expr} {ms : List ME} (h : PB1 X Bz P Φ W o ms) : PO X o (fun σ H Q => rd ⟨X.K, Bz⟩ W (evalEs P Φ ms) σ H fun w' vs H' => ∃ i, partOf vs = some i ∧ Q i H') := by
  cases h with
  | no =>
    refine ⟨fun pins s σ H Q I ⟨w, env, st, hE, hS, h⟩ => ?_⟩
    obtain ⟨i, e, q⟩ := h w H (Le.refl _) hS
    cases e
    exact (po_none (X := X)).run pins s σ H Q I q
  | one h =>
    rename_i e m
    refine ⟨fun pins s σ H Q I ⟨w, env, st, hE, hS, hh⟩ => ?_⟩
    refine (po_some h).run pins s σ H Q I ?_
    replace hh : Post ⟨X.K, Bz⟩ w ((evalE P Φ m env st).then_ fun v st => R.ok [v] st) (fun w' vs _ H' => ∃ i, partOf vs = some i ∧ Q i H') fun c d H' => W c d σ H' := hh
    refine rdE_seq hE hS hh fun w1 v x st1 H1 l1 hE1 hS1 rv h1 => ?_
    obtain ⟨i, e, q⟩ := h1 w1 H1 (Le.refl _) hS1
    cases v with
    | int j => cases (show x = .int j from rv); cases e; exact ⟨j, rfl, q⟩
    | _ => simp [partOf] at e
theorem snd_slc {a : Expr} {lo hi : Option Expr} {ma : ME} {ml mh : List ME} {p2 pos : Pos} (ha : PE X a (rdE P Φ ⟨X.K, Bz⟩ W ma)) (hl : PB1 X Bz P Φ W lo ml) (hh : PB1 X Bz P Φ W hi mh) : PE X (.Subscript a (.Slice lo hi none p2) pos) (rdE P Φ ⟨X.K, Bz⟩ W (.slc ma ml mh)) := by
  refine (pe_slice (slc_ok (Bz := Bz)) ha (snd_part hl) (snd_part hh)).imp fun σ H Q ⟨w, env, st, hE, hS, h⟩ => ?_
  refine rdE_seq hE hS h fun w1 v x st1 H1 l1 hE1 hS1 rv h1 => ?_
  refine rd_seq hE1 hS1 h1 fun w2 us st2 H2 l2 hE2 hS2 h2 => ?_
  cases e1 : partOf us with
  | none => rw [e1] at h2; exact h2.elim
  | some i =>
    rw [e1] at h2
    refine ⟨i, rfl, ?_⟩
    refine rd_seq hE2 hS2 h2 fun w3 ws st3 H3 l3 hE3 hS3 h3 => ?_
    cases e2 : partOf ws with
    | none => rw [e2] at h3; exact h3.elim
    | some j =>
      rw [e2] at h3
      obtain ⟨z, e, q⟩ := h3.of
      exact ⟨j, rfl, w3, st3, v, hS3, RV.mono (l2.trans l3) v rv, z, e, q⟩
end
end Mp
end
section
set_option Elab.async false
set_option linter.all false
set_option maxRecDepth 100000
set_option maxHeartbeats
                         1000000
namespace Mp
open PySem L2 PySem.Spec PyProof.Rows
section
variable {P : Prog} {Φ : Cal} {fa : Str → Addr} {k : Nat} {N : List Str} {sc : Sco} {W : WX} {X : Cx} {Bz : Zs}
theorem snd_kws {kn : List Str} {kws : List Keyword} {ks : List ME} (h : KwsOk kn kws) (hp : ∀ p ∈ (kws.map (·.value)).zip ks, PE X p.1 (rdE P Φ ⟨X.K, Bz⟩ W p.2)) (hl : kws.length = ks.length) : PK X kws (rdA P Φ ⟨X.K, Bz⟩ W ks) := by
  induction h generalizing ks
                              with
  | nil =>
    cases ks with
    | nil => exact ⟨fun pos pins s σ H Q I ⟨w, env, st, hE, hS, h⟩ => (pk_nil (X := X)).run pos pins s σ H Q I (h w H (Le.refl _) hS [] rfl)⟩
    | cons _ _ => cases hl
  | @cons n kn e p kws h ih =>
    cases ks with
    | nil => cases hl
    | cons m ms =>
      have h1 := hp (e, m) (by simp)
      have h2 := ih (ks := ms) (fun q hq => hp q (by simp at hq ⊢; exact .inr hq)) (by simpa using hl)
      refine ⟨fun pos pins s σ H Q I ⟨w, env, st, hE, hS, h⟩ => (pk_cons h1 h2).run pos pins s σ H Q I ?_⟩
      refine rdE_seq hE hS h fun w1 v x st1 H1 l1 hE1 hS1 rv h1 => ?_
      refine rdA_seq hE1 hS1 h1 fun w2 u y st2 H2 l2 hE2 hS2 ru h2 => ?_
      exact h2 w2 H2 (Le.refl _) hS2 _ (RVs.cons (RV.mono l2 v rv) ru)
theorem pe_callG {x : Str} {p pos : Pos} {es : List Expr} {kws : List Keyword} {kn : List Str} {a : Addr} {t tk : TA} {r : L2.St → List V → List V → Hp → VK → Prop} (hg : Gl X x) (hd : (x == ("__debug__" : Str)) = false) (hm : X.mg x = some (.ref a)) (hk : PySem.W.keepIn X.K (.ref a) = true)
    (ns : NoStar es) (ns2 : ∀ e es', es = e :: es' → NoStar es') (ko : KwsOk kn kws) (ha : PA X es t) (hnil : es = [] → ∀ σ H Q, t σ H Q → Q [] H) (hkw : PK X kws tk)
    (run : ∀ (pins : List (Addr × Obj)) (s : Shared) (σ : L2.St) (H : Hp) (vs zs : List V) (us ws : List Value) (Q : VK), L2.Inv X pins σ H s → Vals vs us → Vals zs ws → r σ vs zs H Q → wpAny (model X.prog X.w) X.A (PySem.call (.ref a) us (kn.zip ws)) (EP X pins σ Q) X.xe s) :
    PE X (.Call (.Name x p) es kws pos) (fun σ H Q => t σ H fun vs H1 => tk σ H1 fun zs H2 => r σ vs zs H2 Q) := by
  refine ⟨fun pins s σ H Q I h =>
                                  ?_⟩
  refine wpAny_Call_Name_kw (ld_glob I hg hm ?_
                                                hd)
  cases es with
  | nil =>
    refine PySem.W.callWith_KW0 (h₀ := X.base) (first := []) I.ok.mod.kin hk (ko.all _ _) ?_ (by rw [ko.none]; rfl)
    refine thn (hkw.run pos pins s σ H _ I (hnil rfl σ H _ h)) fun ws s2 ⟨zs, H2, I2, rz, q2⟩ => ⟨I2.kIn, ?_⟩
    rw [ko.names]
    exact run pins s2 σ H2 [] zs [] ws Q I2 .nil rz q2
  | cons e es =>
    refine PySem.W.callWith_KW (h₀ := X.base) (first := []) I.ok.mod.kin hk (ko.all _ _) ?_ (by rw [(ns).any, ko.none]; rfl) (ns.cons (ns2 e es rfl) _)
    refine thn (ha.run pos pins s σ H _ I h) fun us s1 ⟨vs, H1, I1, r1, q⟩ => ?_
    refine thn (hkw.run pos pins s1 σ H1 _ I1 q) fun ws s2 ⟨zs, H2, I2, rz, q2⟩ => ⟨I2.kIn,
                                                                                            ?_⟩
    rw [ko.names]
    exact run pins s2 σ H2 vs zs us ws Q I2 r1 rz q2
section
open PySem.W
variable {M : Model} {A : Around} {E : Value → Shared → Prop} {s :
                                                                   Shared}
theorem ks_callW {f : Value} {first : List Value} {pos : Pos} {Q : Value → Shared → Prop} {F : Heap → Prop} {args : List (Bool × Sem Value)} {kws : List (Option Str × Sem Value)} (hst : args.any (·.1) = true)
    (hk : ∀ h, F h → ∃ k, (k = Keeper.frame ∨ k = Keeper.machine ∨ k = Keeper.boundFrame) ∧ Looks M h (keeperOf f) k)
    (h : wpAny M A (evalArgs f true args kws) (fun a s₁ => F s₁.heap ∧ wpAny M A (PySem.call f (first ++ a.pos) a.kw) Q E s₁) E s) : wpAny M A (callWith pos f first args kws) Q E s := by
  unfold callWith
  refine wpAny_bind (wpAny_holding (wpAny_mono h (fun a s₁ h₁ => wpAny_bind (wpAny_standAt ?_)) fun _ _ x =>
                                                                                                             x))
  obtain ⟨k, hk', L⟩ := hk _
                             h₁.1
  simp only [hst, Bool.true_or]
  refine wpAny_bind (L.here ?_)
  have tail : ∀ {t : Sem Value}, wpAny M A t Q E s₁ → wpAny M A (t >>= fun r => holding [r] point >>= fun _ => pure r) Q E s₁
                                                                                                                              :=
    fun ht => wpAny_bind (wpAny_mono ht (fun r s₂ hr => wpAny_bind (wpAny_holding (wpAny_point (wpAny_pure hr)))) fun _ _ x =>
                                                                                                                               x)
  have marked (mk : Value) : wpAny M A (callMarked mk f (first ++ a.pos) a.kw) Q E s₁ := by unfold callMarked; exact Calls.wpAny_keep
                                                                                                                                      h₁.2
  rcases hk' with rfl | rfl | rfl <;> dsimp only <;> first | exact tail (marked _) | exact tail (wpAny_operating
                                                                                                                 h₁.2)
theorem callWith_SKW {K : Frag} {h₀ : Heap} {env : PySem.Env} {pos : Pos} {f : Value} {first : List Value} {Q : Value → Shared → Prop} {e : Expr} {rest : List Expr} {kws : List Keyword} (_X : K.In h₀) (hk : keepIn K f = true) (hall : (backToKw pos (keywordEach kws env)).all (·.1.isSome) = true)
    (h : wpAny M A (spliced (backTo pos (starEach (e :: rest) env))) (fun vs s₁ => wpAny M A (evalAll ((backToKw pos (keywordEach kws env)).map
                                                                                                                                                (·.2)))
      (fun ks s₂ => K.In s₂.heap ∧ wpAny M A (PySem.call f (first ++ vs) (((backToKw pos (keywordEach kws env)).filterMap (·.1)).zip ks)) Q E s₂) E s₁) E s)
    (hst : (backTo pos (starEach rest env)).any (·.1) = true) (he : starEach (e :: rest) env = (false, eval e env) :: starEach rest env) :
    wpAny M A (callWith pos f first (backTo pos (starEach (e :: rest) env)) (backToKw pos (keywordEach kws env))) Q E s := by
  refine ks_callW ?_ (keeps_K hk) (evalArgs_kw2 hall h he)
  rw [he]
  show (false || (backTo pos (starEach rest env)).any (·.1)) = true
  rw [hst]; rfl
end
theorem pe_callGS {x : Str} {p pos : Pos} {e : Expr} {es : List Expr} {kws : List Keyword} {kn : List Str} {a : Addr} {t tk : TA} {r : L2.St → List V → List V → Hp → VK → Prop} (hg : Gl X x) (hd : (x == ("__debug__" : Str)) = false) (hm : X.mg x = some (.ref a)) (hk : PySem.W.keepIn X.K (.ref a) = true)
    (he : starEach (e :: es) X.env = (false, eval e X.env) :: starEach es X.env) (hst : ∀ pos, (backTo pos (starEach es X.env)).any (·.1) = true) (ko : KwsOk kn kws) (ha : PA X (e :: es) t) (hkw : PK X kws tk)
    (run : ∀ (pins : List (Addr × Obj)) (s : Shared) (σ : L2.St) (H : Hp) (vs zs : List V) (us ws : List Value) (Q : VK), L2.Inv X pins σ H s → Vals vs us → Vals zs ws → r σ vs zs H Q → wpAny (model X.prog X.w) X.A (PySem.call (.ref a) us (kn.zip ws)) (EP X pins σ Q) X.xe s) :
    PE X (.Call (.Name x p) (e :: es) kws pos) (fun σ H Q => t σ H fun vs H1 => tk σ H1 fun zs H2 => r σ vs zs H2 Q) := by
  refine ⟨fun pins s σ H Q I h =>
                                  ?_⟩
  refine wpAny_Call_Name_kw (ld_glob I hg hm ?_
                                                hd)
  refine callWith_SKW (h₀ := X.base) (first := []) I.ok.mod.kin hk (ko.all _ _) ?_ (hst pos) he
  refine thn (ha.run pos pins s σ H _ I h) fun us s1 ⟨vs, H1, I1, r1, q⟩ => ?_
  refine thn (hkw.run pos pins s1 σ H1 _ I1 q) fun ws s2 ⟨zs, H2, I2, rz, q2⟩ => ⟨I2.kIn,
                                                                                          ?_⟩
  rw [ko.names]
  exact run pins s2 σ H2 vs zs us ws Q I2 r1 rz q2
theorem pe_methG {o : Expr} {m : Str} {apos pos : Pos} {es : List Expr} {to : TE} {t : TA} {r : Addr → L2.St → V → List V → Hp → VK → Prop} {g : V → Hp → Addr → Prop} (hl : (apos.endLine == pos.line) = true) (hz : es.length < 30) (hb : attributeBase o m X.env (eval o X.env) = eval o X.env)
    (ns : NoStar es) (ns2 : ∀ e es', es = e :: es' → NoStar es') (ho : PE X o to) (ha : PA X es t) (hnil : es = [] → ∀ σ H Q, t σ H Q → Q [] H)
    (get : ∀ (pins : List (Addr × Obj)) (s : Shared) (σ : L2.St) (H : Hp) (x : V) (u : Value) (a : Addr) (pl : Sem Bool) (R : Value × List Value → Shared → Prop), L2.Inv X pins σ H s → RelV x u → g x H a → R (.ref a, [u]) s → wpAny (model X.prog X.w) X.A (getMethod u m pl) R X.xe s)
    (kp : ∀ x H a, g x H a → PySem.W.keepIn X.K (.ref a) = true)
    (run : ∀ (pins : List (Addr × Obj)) (s : Shared) (σ : L2.St) (H1 H : Hp) (x : V) (a : Addr) (u : Value) (vs : List V) (us : List Value) (Q : VK), L2.Inv X pins σ H s → g x H1 a → RelV x u → Vals vs us → r a σ x vs H Q → wpAny (model X.prog X.w) X.A (PySem.call (.ref a) (u :: us)) (EP X pins σ Q) X.xe s) :
    PE X (.Call (.Attribute o m apos) es [] pos) (fun σ H Q => to σ H fun x H1 => ∃ a, g x H1 a ∧ t σ H1 fun vs H2 => r a σ x vs H2 Q) := by
  refine ⟨fun pins s σ H Q I h =>
                                  ?_⟩
  have hform : methodCallForm es.length (backTo pos (starEach es X.env)) (backToKw pos (keywordEach [] X.env)) = true := by
    unfold methodCallForm
    rw [ns.all]
    simp [backToKw, keywordEach, hz]
  have ht : eval (.Call (.Attribute o m apos) es [] pos) X.env = (do
      let ov ← eval o X.env
      standAt apos.atName
      let (f, first) ← holding [ov] (getMethod ov m (plainOf o X.env))
      callWith pos f first (backTo pos (starEach es X.env)) (backToKw pos (keywordEach [] X.env))) := by
    have e1 : eval (.Call (.Attribute o m apos) es [] pos) X.env = (do
      let ov ← eval o X.env
      standAt apos.atName
      methodCall o m apos pos X.env ov es.length (backTo pos (starEach es X.env)) (backToKw pos (keywordEach [] X.env))) := by
      rw [arm_eval_Call, hb]
      rfl
    rw [e1]
    simp only [mcall_line hform hl]
  refine PySem.W.methodCall_KW (pl := plainOf o X.env) (thn (ho.run pins s σ H _ I h) fun u s1 ⟨x, H1, I1, rx, a, ga, q⟩ => ?_) ht
  refine get pins s1 σ H1 x u a _ _ I1 rx ga ?_
  cases es with
  | nil => exact PySem.W.callWith_K0 (first := [u]) I1.kIn (kp _ _ _ ga) (run pins s1 σ H1 H1 x a u [] [] Q I1 ga rx .nil (hnil rfl σ H1 _ q))
  | cons e es =>
    refine PySem.W.callWith_K (first := [u]) (h₀ := X.base) I.ok.mod.kin (kp _ _ _ ga) (thn (ha.run pos pins s1 σ H1 _ I1 q) fun us s2 ⟨vs, H2, I2, r, q2⟩ => ⟨I2.kIn, ?_⟩) (ns.cons (ns2 e es rfl) _) ((ns2 e es rfl).any _ _)
    exact run pins s2 σ H1 H2 x a u vs us Q I2 ga rx r q2
theorem pe_methK {o : Expr} {m : Str} {apos pos : Pos} {es : List Expr} {kws : List Keyword} {kn : List Str} {to : TE} {t tk : TA} {r : Addr → L2.St → V → List V → List V → Hp → VK → Prop} {g : V → Hp → Addr → Prop} (hl : (apos.endLine == pos.line) = true) (hz : es.length + kws.length + 1 < 30) (hb : attributeBase o m X.env (eval o X.env) = eval o X.env)
    (ns : NoStar es) (ns2 : ∀ e es', es = e :: es' → NoStar es') (ko : KwsOk kn kws) (ho : PE X o to) (ha : PA X es t) (hnil : es = [] → ∀ σ H Q, t σ H Q → Q [] H) (hkw : PK X kws tk)
    (get : ∀ (pins : List (Addr × Obj)) (s : Shared) (σ : L2.St) (H : Hp) (x : V) (u : Value) (a : Addr) (pl : Sem Bool) (R : Value × List Value → Shared → Prop), L2.Inv X pins σ H s → RelV x u → g x H a → R (.ref a, [u]) s → wpAny (model X.prog X.w) X.A (getMethod u m pl) R X.xe s)
    (kp : ∀ x H a, g x H a → PySem.W.keepIn X.K (.ref a) = true)
    (run : ∀ (pins : List (Addr × Obj)) (s : Shared) (σ : L2.St) (H1 H : Hp) (x : V) (a : Addr) (u : Value) (vs zs : List V) (us ws : List Value) (Q : VK), L2.Inv X pins σ H s → g x H1 a → RelV x u → Vals vs us → Vals zs ws → r a σ x vs zs H Q → wpAny (model X.prog X.w) X.A (PySem.call (.ref a) (u :: us) (kn.zip ws)) (EP X pins σ Q) X.xe s) :
    PE X (.Call (.Attribute o m apos) es kws pos) (fun σ H Q => to σ H fun x H1 => ∃ a, g x H1 a ∧ t σ H1 fun vs H2 => tk σ H2 fun zs H3 => r a σ x vs zs H3 Q) := by
  refine ⟨fun pins s σ H Q I h =>
                                  ?_⟩
  have hform : methodCallForm (es.length + kws.length) (backTo pos (starEach es X.env)) (backToKw pos (keywordEach kws X.env)) = true := by
    unfold methodCallForm
    rw [ns.all, ko.all]
    have : es.length + kws.length + (if (backToKw pos (keywordEach kws X.env)).isEmpty = true then 0 else 1) < 30 := by
      split <;> omega
    show (true && true && decide (es.length + kws.length + (if (backToKw pos (keywordEach kws X.env)).isEmpty = true then 0 else 1) < 30)) = true
    rw [decide_eq_true this]; rfl
  have ht : eval (.Call (.Attribute o m apos) es kws pos) X.env = (do
      let ov ← eval o X.env
      standAt apos.atName
      let (f, first) ← holding [ov] (getMethod ov m (plainOf o X.env))
      callWith pos f first (backTo pos (starEach es X.env)) (backToKw pos (keywordEach kws X.env))) := by
    have e1 : eval (.Call (.Attribute o m apos) es kws pos) X.env = (do
      let ov ← eval o X.env
      standAt apos.atName
      methodCall o m apos pos X.env ov (es.length + kws.length) (backTo pos (starEach es X.env)) (backToKw pos (keywordEach kws X.env))) := by
      rw [arm_eval_Call, hb]
    rw [e1]
    simp only [mcall_line hform hl]
  refine PySem.W.methodCall_KW (pl := plainOf o X.env) (thn (ho.run pins s σ H _ I h) fun u s1 ⟨x, H1, I1, rx, a, ga, q⟩ => ?_) ht
  refine get pins s1 σ H1 x u a _ _ I1 rx ga ?_
  cases es with
  | nil =>
    refine PySem.W.callWith_KW0 (h₀ := X.base) (first := [u]) I.ok.mod.kin (kp _ _ _ ga) (ko.all _ _) ?_ (by rw [ko.none]; rfl)
    refine thn (hkw.run pos pins s1 σ H1 _ I1 (hnil rfl σ H1 _ q)) fun ws s2 ⟨zs, H2, I2, rz, q2⟩ => ⟨I2.kIn, ?_⟩
    rw [ko.names]
    exact run pins s2 σ H1 H2 x a u [] zs [] ws Q I2 ga rx .nil rz q2
  | cons e es =>
    refine PySem.W.callWith_KW (h₀ := X.base) (first := [u]) I.ok.mod.kin (kp _ _ _ ga) (ko.all _ _) ?_ (by rw [(ns).any, ko.none]; rfl) (ns.cons (ns2 e es rfl) _)
    refine thn (ha.run pos pins s1 σ H1 _ I1 q) fun us s2 ⟨vs, H2, I2, r, q2⟩ => ?_
    refine thn (hkw.run pos pins s2 σ H2 _ I2 q2) fun ws s3 ⟨zs, H3, I3, rz, q3⟩ => ⟨I3.kIn, ?_⟩
    rw [ko.names]
    exact run pins s3 σ H1 H3 x a u vs zs us ws Q I3 ga rx r rz q3
end
theorem pe_static {x m : Str} {p apos pos : Pos} {es : List Expr} {kws : List Keyword} {kn : List Str} {C a : Addr} {t tk : TA} {r : L2.St → List V → List V → Hp → VK → Prop} (hl : (apos.endLine == pos.line) = true) (hz : es.length + kws.length + 1 < 30) (hb : attributeBase (.Name x p) m X.env (eval (.Name x p) X.env) = eval (.Name x p) X.env)
    (hx : PE X (.Name x p) (fun σ H Q => Q (.ref C) H)) (so : StatOf X.K C m a) (hk : PySem.W.keepIn X.K (.ref a) = true)
    (ns : NoStar es) (ns2 : ∀ e es', es = e :: es' → NoStar es') (ko : KwsOk kn kws) (ha : PA X es t) (hnil : es = [] → ∀ σ H Q, t σ H Q → Q [] H) (hkw : PK X kws tk)
    (run : ∀ (pins : List (Addr × Obj)) (s : Shared) (σ : L2.St) (H : Hp) (vs zs : List V) (us ws : List Value) (Q : VK), L2.Inv X pins σ H s → Vals vs us → Vals zs ws → r σ vs zs H Q → wpAny (model X.prog X.w) X.A (PySem.call (.ref a) us (kn.zip ws)) (EP X pins σ Q) X.xe s) :
    PE X (.Call (.Attribute (.Name x p) m apos) es kws pos) (fun σ H Q => t σ H fun vs H1 => tk σ H1 fun zs H2 => r σ vs zs H2 Q) := by
  refine ⟨fun pins s σ H Q I h =>
                                  ?_⟩
  have hform : methodCallForm (es.length + kws.length) (backTo pos (starEach es X.env)) (backToKw pos (keywordEach kws X.env)) = true := by
    unfold methodCallForm
    rw [ns.all, ko.all]
    have : es.length + kws.length + (if (backToKw pos (keywordEach kws X.env)).isEmpty = true then 0 else 1) < 30 := by
      split <;> omega
    show (true && true && decide (es.length + kws.length + (if (backToKw pos (keywordEach kws X.env)).isEmpty = true then 0 else 1) < 30)) = true
    rw [decide_eq_true this]; rfl
  have ht : eval (.Call (.Attribute (.Name x p) m apos) es kws pos) X.env = (do
      let ov ← eval (.Name x p) X.env
      standAt apos.atName
      let (f, first) ← holding [ov] (getMethod ov m (plainOf (.Name x p) X.env))
      callWith pos f first (backTo pos (starEach es X.env)) (backToKw pos (keywordEach kws X.env))) := by
    have e1 : eval (.Call (.Attribute (.Name x p) m apos) es kws pos) X.env = (do
      let ov ← eval (.Name x p) X.env
      standAt apos.atName
      methodCall (.Name x p) m apos pos X.env ov (es.length + kws.length) (backTo pos (starEach es X.env)) (backToKw pos (keywordEach kws X.env))) := by
      rw [arm_eval_Call, hb]
    rw [e1]
    simp only [mcall_line hform hl]
  obtain ⟨q, rest, f1, f2⟩ := so.at_
  refine PySem.W.methodCall_KW (pl := plainOf (.Name x p) X.env) (thn (hx.run pins s σ H (fun y H1 => y = .ref C ∧ H1 = H) I ⟨rfl, rfl⟩) fun u s1 ⟨y, H1, I1, rx, e1, e2⟩ => ?_) ht
  subst e1 e2
  obtain rfl : u = Value.ref C :=
                                  rx
  have I2 : L2.Inv X pins σ H1 { s1 with toks := s1.toks + 1 } := I1.tok _
  refine PySem.W.method_cls I1.kIn so.ga (PySem.W.cls_bind I1.kIn so.rd f1 (wpAny_call (PySem.W.sm_get (s := { s1 with toks := s1.toks + 1 }) I1.kIn f2 (PySem.W.handed_on rfl ?_))))
  generalize hs2 : ({ s1 with toks := s1.toks + 1 } : Shared) = s2 at I2
  cases es with
  | nil =>
    refine PySem.W.callWith_KW0 (h₀ := X.base) (first := []) I.ok.mod.kin hk (ko.all _ _) ?_ (by rw [ko.none]; rfl)
    refine thn (hkw.run pos pins s2 σ H1 _ I2 (hnil rfl σ H1 _ h)) fun ws s3 ⟨zs, H2, I3, rz, q2⟩ => ⟨I3.kIn, ?_⟩
    rw [ko.names]
    exact run pins s3 σ H2 [] zs [] ws Q I3 .nil rz q2
  | cons e es =>
    refine PySem.W.callWith_KW (h₀ := X.base) (first := []) I.ok.mod.kin hk (ko.all _ _) ?_ (by rw [(ns).any, ko.none]; rfl) (ns.cons (ns2 e es rfl) _)
    refine thn (ha.run pos pins s2 σ H1 _ I2 h) fun us s3 ⟨vs, H2, I3, r1, q⟩ => ?_
    refine thn (hkw.run pos pins s3 σ H2 _ I3 q) fun ws s4 ⟨zs, H3, I4, rz, q2⟩ => ⟨I4.kIn, ?_⟩
    rw [ko.names]
    exact run pins s4 σ H3 vs zs us ws Q I4 r1 rz q2
end Mp
end
section
set_option Elab.async false
set_option linter.all false
set_option maxRecDepth 100000
set_option maxHeartbeats
                         1000000
namespace Mp
open PySem L2 PySem.Spec PyProof.Rows
section
variable {P : Prog} {Φ : Cal} {fa : Str → Addr} {k : Nat} {N : List Str} {sc : Sco} {W : WX} {X : Cx} {Bz : Zs}
theorem evalEs_len (ms : List ME) : ∀ env st vs st', evalEs P Φ ms env st = .ok vs st' → vs.length = ms.length := by
  induction ms with
  | nil => intro env st vs st' h; cases (show R.ok [] st = _ from h); rfl
  | cons m ms ih =>
    intro env st vs st' h
    replace h : (evalE P Φ m env st).then_ (fun v st => (evalEs P Φ ms env st).then_ fun vs st => R.ok (v :: vs) st) = .ok vs st' := h
    cases e : evalE P Φ m env st with
    | ok v st1 =>
      rw [e] at h
      replace h : (evalEs P Φ ms env st1).then_ (fun vs st => R.ok (v :: vs) st) = .ok vs st' := h
      cases e2 : evalEs P Φ ms env st1 with
      | ok us st2 =>
        rw [e2] at h
        have h' : R.ok (v :: us) st2 = R.ok vs st' := h
        injection h' with h1 h2
        rw [← h1, List.length_cons, List.length_cons, ih _ _ _ _ e2]
      | err c ns vs st => rw [e2] at h; cases h
      | stuck => rw [e2] at h; cases h
    | err c ns vs st => rw [e] at h; cases h
    | stuck => rw [e] at h; cases h
theorem rdA_nil {ms : List ME} (h : ms = []) : ∀ σ H (Q : List V → Hp → Prop), rdA P Φ ⟨X.K, Bz⟩ W ms σ H Q → Q [] H := fun σ H Q ⟨w, env, st, hE, hS, q⟩ => by
  subst h; exact q w H (Le.refl _) hS [] rfl
def rCallV (P : Prog) (Φ : Cal) (K : KZ) (W : WX) (ev : List Val → List Val → Store → R Val) (nk : Nat) : L2.St → List V → List V → Hp → VK → Prop := fun σ xs zs H Q =>
  ∃ w st vs ks, RS K w st H ∧ RVs K w vs xs ∧ RVs K w ks zs ∧ ks.length = nk ∧ Post K w (ev vs ks st) (AV K Q) fun c d H' => W c d σ H'
theorem args_tail {ms ks : List ME} {σ : L2.St} {H : Hp} {Q : VK} {w : Wd} {env : Env} {st : Store} {ev : List Val → List Val → Store → R Val} (hE : RE ⟨X.K, Bz⟩ w env σ) (hS : RS ⟨X.K, Bz⟩ w st H)
    (h : Post ⟨X.K, Bz⟩ w ((evalEs P Φ ms env st).then_ fun vs st => (evalEs P Φ ks env st).then_ fun zs st => ev vs zs st) (AV ⟨X.K, Bz⟩ Q) fun c d H' => W c d σ H') :
    rdA P Φ ⟨X.K, Bz⟩ W ms σ H fun vs H1 => rdA P Φ ⟨X.K, Bz⟩ W ks σ H1 fun zs H2 => rCallV P Φ ⟨X.K, Bz⟩ W ev ks.length σ vs zs H2 Q := by
  refine rdA_seq hE hS h fun w1 v x st1 H1 l1 hE1 hS1 rv h1 => ?_
  refine ⟨w1, env, st1, hE1, hS1, ?_⟩
  cases e : evalEs P Φ ks env st1 with
  | ok us st2 =>
    rw [e] at h1
    intro w2 H2 l2 hS2 y ru
    exact ⟨w2, st2, v, us, hS2, RVs.mono l2 v rv, ru, evalEs_len ks _ _ _ _ e, Post.mono l2 h1⟩
  | err c ns vs st => rw [e] at h1; exact h1
  | stuck => rw [e] at h1; exact h1
theorem snd_call (O : OkX P Φ fa k N sc W X Bz) {m : Mode} {f : Str} {p pos : Pos} {es : List Expr} {kws : List Keyword} {kn : List Str} {ms ks : List ME} (hg : isGl sc f = true) (hn : nmOk f = true) (hf : P.isg f = true) (hb : (P.bind f ms.length kn).isSome = true)
    (ns : NoStar es) (ns2 : ∀ e es', es = e :: es' → NoStar es') (ko : KwsOk kn kws) (hl : ks.length = kn.length) (hnil : es = [] → ms = []) (ha : PA X es (rdA P Φ ⟨X.K, Bz⟩ W ms)) (hk : PK X kws (rdA P Φ ⟨X.K, Bz⟩ W ks)) :
    PE X (.Call (.Name f p) es kws pos) (rdE P Φ ⟨X.K, Bz⟩ W (.call m f ms kn ks)) := by
  obtain ⟨tp, etp⟩ := Option.isSome_iff_exists.mp hb
  refine (pe_callG (r := rCallV P Φ ⟨X.K, Bz⟩ W (fun vs zs st => callM P Φ m f kn vs zs st) ks.length) (gl_ok O hg) (nmOk_d hn).1 (O.lk.gf f hf) (O.lk.fn f _ kn tp etp).2 ns ns2 ko ha (fun e => rdA_nil (hnil e)) hk fun pins s σ H vs zs us ws Q I r rz ⟨w, st, va, vk, hS, rv, rk, hlen, h⟩ => ?_).imp fun σ H Q ⟨w, env, st, hE, hS, h⟩ => ?_
  · exact callM_ok O I hS rv rk r rz (hlen.trans hl) h
  · exact args_tail hE hS h
theorem ref_rel {w : Wd} {i : Nat} {p : Addr} (h : w.e[i]? = some p) : RV ⟨X.K, Bz⟩ w (.ref i) (.ref p) := ⟨p, rfl, h⟩
theorem makeM_ok (O : OkX P Φ fa k N sc W X Bz) {m : Mode} {c : Str} {kn : List Str} {vs ks : List Val} {xs zs : List V} {us ws : List Value} {pins : List (Addr × Obj)} {s : Shared} {σ : L2.St} {H : Hp} {Q : VK} {w : Wd} {st : Store} (I : L2.Inv X pins σ H s) (hS : RS ⟨X.K, Bz⟩ w st H) (rv : RVs ⟨X.K, Bz⟩ w vs xs) (rk : RVs ⟨X.K, Bz⟩ w ks zs) (r : Vals xs us) (rz : Vals zs ws) (hkn : ks.length = kn.length)
    (h : Post ⟨X.K, Bz⟩ w (makeM P Φ m c kn vs ks st) (AV ⟨X.K, Bz⟩ Q) fun c d H' => W c d σ H') : wpAny (model X.prog X.w) X.A (PySem.call (.ref (cA X.K c)) us (kn.zip ws)) (EP X pins σ Q) X.xe s := by
  unfold makeM at h
  cases e0 : P.meth c "__init__" with
  | none => rw [e0] at h; exact h.elim
  | some f =>
    rw [e0] at h
    simp only at h
    split at h
    · rename_i hc
      cases e : P.bind f (vs.length + 1) kn with
      | none => rw [e] at h; exact h.elim
      | some tp =>
        rw [e] at h
        simp only at h
        cases e2 : srcs (.ref st.length :: vs) ks tp with
        | none => rw [e2] at h; exact h.elim
        | some args =>
          rw [e2] at h
          simp only at h
          have h1 := finish_ok hS h
          obtain ⟨mk1, mk2, mk3⟩ := O.lk.mkC c f e0 hc
          have I2 := Inv.made (C := cA X.K c) I
          have hx : H (s.heap.objs.size + 1) = none := I.hok.fresh (Nat.le_succ _)
          have hdx : H s.heap.objs.size = none := I.hok.fresh (Nat.le_refl _)
          have hne : s.heap.objs.size ≠ s.heap.objs.size + 1 := Nat.ne_of_lt (Nat.lt_succ_self _)
          have le1 : Le w ⟨w.F, w.e ++ [s.heap.objs.size + 1], w.G⟩ := RS.push_le _
          have hS2 : RS ⟨X.K, Bz⟩ ⟨w.F, w.e ++ [s.heap.objs.size + 1], w.G⟩ (st ++ [.ins c [] []]) (upd (upd H s.heap.objs.size (.own (s.heap.objs.size + 1))) (s.heap.objs.size + 1) (.ins (cA X.K c) s.heap.objs.size [])) :=
            hS.push hx (fun q n hq => by
              rw [upd_ne n]
              exact upd_ne fun z => hq (by rw [z]; exact hdx)) ⟨s.heap.objs.size, [], by rw [ob_ins (O.lk.nd hc)]; exact upd_same, rfl, rfl⟩
          have er : (w.e ++ [s.heap.objs.size + 1])[st.length]? = some (s.heap.objs.size + 1) := by rw [← hS.len]; simp
          have C := (O.lk.fn f _ kn tp e).1
          refine wpAny_call (make_map (f := fa f) I.kIn mk1 mk2 (beq_iff_eq.mp mk3) (codeAny_mono (C _ X.stack _ _ (Value.ref (s.heap.objs.size + 1) :: us) ws (V.ref (s.heap.objs.size + 1) :: xs) zs (fun v H2 => v = .non ∧ Q (.ref (s.heap.objs.size + 1)) H2) (fun c d H' => W c d σ H') ((O.room.mono (by omega) : Room (k + 1) X.A).make _ us (kn.zip ws))
            (I2.env0.make _ us (kn.zip ws)) (.cons rfl r) rz ⟨_, _, _, _, args, hS2, RVs.cons (ref_rel er) (RVs.mono le1 _ rv), RVs.mono le1 _ rk, rfl, hkn, e2, ?_⟩) fun r s' hq' => ?_))
          · -- the __init__'s result
            cases eΦ : Φ f args (st ++ [.ins c [] []]) with
            | ok v st' =>
              rw [eΦ] at h1
              cases v with
              | non =>
                intro w' H' l' s' x rx
                refine ⟨rx, ?_⟩
                have h1' : Post ⟨X.K, Bz⟩ w (R.ok (Val.ref st.length) st') (AV ⟨X.K, Bz⟩ Q) fun c d H' => W c d σ H' := h1
                exact h1' w' H' (le1.trans l') s' _ (ref_rel (l'.e _ _ er))
              | _ => exact h1.elim
            | err c' ns vs' st' =>
              rw [eΦ] at h1
              have h1' : Post ⟨X.K, Bz⟩ w (R.err c' ns vs' st') (AV ⟨X.K, Bz⟩ Q) fun c d H' => W c d σ H' := h1
              exact fun w' cls d H' l' s' x => h1' w' cls d H' (le1.trans l') s' x
            | stuck => rw [eΦ] at h1; exact h1.elim
          · cases r with
            | error e => exact O.tk e s' (XE.of_call I2 (fun _ _ _ h => h) hq')
            | ok fl =>
              cases fl with
              | ret u =>
                obtain ⟨v, H', I3, rv, ev, q3⟩ := I2.after
                                                           hq'
                subst ev
                exact ⟨rv, ⟨V.ref (s.heap.objs.size + 1), H', I3, rfl,
                                                                       q3⟩⟩
              | next => exact False.elim
                                         hq'
              | brk => exact False.elim hq'
              | cont => exact False.elim
                                         hq'
    · exact h.elim
theorem snd_make (O : OkX P Φ fa k N sc W X Bz) {m : Mode} {c : Str} {p pos : Pos} {es : List Expr} {kws : List Keyword} {kn : List Str} {ms ks : List ME} (hg : isGl sc c = true) (hn : nmOk c = true) (hc : P.isc c = true)
    (ns : NoStar es) (ns2 : ∀ e es', es = e :: es' → NoStar es') (ko : KwsOk kn kws) (hl : ks.length = kn.length) (hnil : es = [] → ms = []) (ha : PA X es (rdA P Φ ⟨X.K, Bz⟩ W ms)) (hk : PK X kws (rdA P Φ ⟨X.K, Bz⟩ W ks)) :
    PE X (.Call (.Name c p) es kws pos) (rdE P Φ ⟨X.K, Bz⟩ W (.make m c ms kn ks)) := by
  obtain ⟨g1, g2, _⟩ := O.lk.gc c hc
  refine (pe_callG (r := rCallV P Φ ⟨X.K, Bz⟩ W (fun vs zs st => makeM P Φ m c kn vs zs st) ks.length) (gl_ok O hg) (nmOk_d hn).1 g1 g2 ns ns2 ko ha (fun e => rdA_nil (hnil e)) hk fun pins s σ H vs zs us ws Q I r rz ⟨w, st, va, vk, hS, rv, rk, hlen, h⟩ => ?_).imp fun σ H Q ⟨w, env, st, hE, hS, h⟩ => ?_
  · exact makeM_ok O I hS rv rk r rz (hlen.trans hl) h
  · exact args_tail hE hS h
theorem snd_lstS {z y : Expr} {sp pos : Pos} {m1 m2 : ME} {mu : Bool} (he : starEach [y] X.env = (false, eval y X.env) :: starEach [] X.env) (h1 : PE X z (rdE P Φ ⟨X.K, Bz⟩ W m1)) (h2 : PE X y (rdE P Φ ⟨X.K, Bz⟩ W m2)) :
    PE X (.List [.Starred z sp, y] pos) (rdE P Φ ⟨X.K, Bz⟩ W (.lstS mu m1 m2)) := by
  refine (pe_lst (StX.pa_star h1 (pa_cons h2 pa_nil he))).imp fun σ H Q ⟨w, env, st, hE, hS, h⟩ => ?_
  refine rdE_seq hE hS h fun w1 v x st1 H1 l1 hE1 hS1 rv h1 => ?_
  cases e : seqOf st1 v with
  | none => rw [e] at h1; exact h1.elim
  | some vs =>
    rw [e] at h1
    obtain ⟨p, xs, rfl, hp, hz0, rr⟩ := seqOf_rel hS1 rv e
    refine ⟨p, xs, rfl, hp.symm, ?_⟩
    refine rdE_seq hE1 hS1 h1 fun w2 u y st2 H2 l2 hE2 hS2 ru h2 => ?_
    by_cases hl : vs.length + 1 ≤ sizeLine
    · rw [if_pos hl] at h2
      have r : RVs ⟨X.K, Bz⟩ w2 (vs ++ [u]) (xs ++ [y]) := (RVs.mono l2 _ rr).append (RVs.cons ru RVs.nil)
      have hz : (vs ++ [u]).length ≤ sizeLine := by rw [List.length_append]; exact hl
      show (xs ++ [y]).length ≤ sizeLine ∧ _
      refine ⟨by rw [← r.length]; exact hz, ?_⟩
      cases mu with
      | false => exact give_lst (A := fun w' v st' H' => ∀ x, RV ⟨X.K, Bz⟩ w' v x → Q x H') hS2 r hz (fun w' H' l s => h2 w' H' l s) fun _ _ h => h
      | true =>
        intro p hp
        have s2 := hS2.push (H' := upd H2 p (.lst (xs ++ [y]))) (s := .lst (vs ++ [u])) hp (fun q n _ => upd_ne n) ⟨xs ++ [y], upd_same, hz, RVs.mono (RS.push_le p) _ r⟩
        refine h2 _ _ (RS.push_le p) s2 _ ⟨p, rfl, ?_⟩
        show (w2.e ++ [p])[st2.length]? = some p
        rw [← hS2.len]; simp
    · rw [if_neg hl] at h2; exact h2.elim
theorem snd_scall (O : OkX P Φ fa k N sc W X Bz) {m : Mode} {f c a : Str} {p apos pos : Pos} {es : List Expr} {kws : List Keyword} {kn : List Str} {ms ks : List ME} (hl : (apos.endLine == pos.line) = true) (hz : es.length + kws.length + 1 < 30) (hb0 : attributeBase (.Name c p) a X.env (eval (.Name c p) X.env) = eval (.Name c p) X.env)
    (hg : isGl sc c = true) (hn : nmOk c = true) (hc : P.isc c = true) (hst : P.stat c a = some f) (hb : (P.bind f ms.length kn).isSome = true)
    (ns : NoStar es) (ns2 : ∀ e es', es = e :: es' → NoStar es') (ko : KwsOk kn kws) (hlk : ks.length = kn.length) (hnil : es = [] → ms = []) (ha : PA X es (rdA P Φ ⟨X.K, Bz⟩ W ms)) (hk : PK X kws (rdA P Φ ⟨X.K, Bz⟩ W ks)) :
    PE X (.Call (.Attribute (.Name c p) a apos) es kws pos) (rdE P Φ ⟨X.K, Bz⟩ W (.scall m f c a ms kn ks)) := by
  obtain ⟨tp, etp⟩ := Option.isSome_iff_exists.mp hb
  obtain ⟨g1, g2, _⟩ := O.lk.gc c hc
  refine (pe_static (r := rCallV P Φ ⟨X.K, Bz⟩ W (fun vs zs st => callM P Φ m f kn vs zs st) ks.length) hl hz hb0 (pe_glob (v := .ref (cA X.K c)) (gl_ok O hg) g1 rfl (nmOk_d hn).1) (O.lk.st c a f hst hc) (O.lk.fn f _ kn tp etp).2 ns ns2 ko ha (fun e => rdA_nil (hnil e)) hk fun pins s σ H vs zs us ws Q I r rz ⟨w, st, va, vk, hS, rv, rk, hlen, h⟩ => ?_).imp fun σ H Q ⟨w, env, st, hE, hS, h⟩ => ?_
  · exact callM_ok O I hS rv rk r rz (hlen.trans hlk) h
  · exact args_tail hE hS h
theorem snd_makeS (O : OkX P Φ fa k N sc W X Bz) {m : Mode} {c : Str} {p pos sp : Pos} {y z : Expr} {kws : List Keyword} {kn : List Str} {m1 m2 : ME} {ks : List ME} (hg : isGl sc c = true) (hn : nmOk c = true) (hc : P.isc c = true)
    (he : starEach [y, .Starred z sp] X.env = (false, eval y X.env) :: starEach [.Starred z sp] X.env) (ko : KwsOk kn kws) (hl : ks.length = kn.length) (h1 : PE X y (rdE P Φ ⟨X.K, Bz⟩ W m1)) (h2 : PE X z (rdE P Φ ⟨X.K, Bz⟩ W m2)) (hk : PK X kws (rdA P Φ ⟨X.K, Bz⟩ W ks)) :
    PE X (.Call (.Name c p) [y, .Starred z sp] kws pos) (rdE P Φ ⟨X.K, Bz⟩ W (.makeS m c m1 m2 kn ks)) := by
  obtain ⟨g1, g2, _⟩ := O.lk.gc c hc
  refine (pe_callGS (r := rCallV P Φ ⟨X.K, Bz⟩ W (fun vs zs st => makeM P Φ m c kn vs zs st) ks.length) (gl_ok O hg) (nmOk_d hn).1 g1 g2 he (fun _ => rfl) ko (pa_cons h1 (StX.pa_star h2 pa_nil) he) hk fun pins s σ H vs zs us ws Q I r rz ⟨w, st, va, vk, hS, rv, rk, hlen, h⟩ => ?_).imp fun σ H Q ⟨w, env, st, hE, hS, h⟩ => ?_
  · exact makeM_ok O I hS rv rk r rz (hlen.trans hl) h
  · refine rdE_seq hE hS h fun w1 v x st1 H1 l1 hE1 hS1 rv h1 => ?_
    refine rdE_seq hE1 hS1 h1 fun w2 u y st2 H2 l2 hE2 hS2 ru h2 => ?_
    cases e : seqOf st2 u with
    | none => rw [e] at h2; exact h2.elim
    | some vs =>
      rw [e] at h2
      obtain ⟨p, xs, rfl, hp, hz, rr⟩ := seqOf_rel hS2 ru e
      refine ⟨p, xs, rfl, hp.symm, ?_⟩
      show rdA P Φ ⟨X.K, Bz⟩ W ks σ H2 fun zs H3 => rCallV P Φ ⟨X.K, Bz⟩ W (fun vs zs st => makeM P Φ m c kn vs zs st) ks.length σ (x :: (xs ++ [])) zs H3 Q
      rw [List.append_nil]
      refine ⟨w2, env, st2, hE2, hS2, ?_⟩
      cases e2 : evalEs P Φ ks env st2 with
      | ok us st3 =>
        rw [e2] at h2
        intro w3 H3 l3 hS3 y ru
        exact ⟨w3, st3, v :: vs, us, hS3, RVs.cons (RV.mono (l2.trans l3) v rv) (RVs.mono l3 vs rr), ru, evalEs_len ks _ _ _ _ e2, Post.mono l3 h2⟩
      | err c ns vs st => rw [e2] at h2; exact h2
      | stuck => rw [e2] at h2; exact h2
theorem snd_attr (O : OkX P Φ fa k N sc W X Bz) {a : Expr} {ma : ME} {f : Str} {pos : Pos} (hb : attributeBase a f X.env (eval a X.env) = eval a X.env) (ha : PE X a (rdE P Φ ⟨X.K, Bz⟩ W ma)) : PE X (.Attribute a f pos) (rdE P Φ ⟨X.K, Bz⟩ W (.attr ma f)) := by
  refine ⟨fun pins s σ H Q I ⟨w, env, st, hE, hS, h⟩ => ?_⟩
  refine attr_of hb (thn (ha.run pins s σ H (fun x H1 => ∃ w1 v st1, RS ⟨X.K, Bz⟩ w1 st1 H1 ∧ RV ⟨X.K, Bz⟩ w1 v x ∧ Post ⟨X.K, Bz⟩ w1 (attrM P Φ v f st1) (AV ⟨X.K, Bz⟩ Q) fun c d H' => W c d σ H') I (rdE_seq hE hS h fun w1 v x st1 H1 l1 hE1 hS1 rv h1 => ⟨w1, v, st1, hS1, rv, h1⟩)) fun u s1 ⟨x, H1, I1, rx, w1, v, st1, hS1, rv, h1⟩ => ?_)
  exact attrM_ok O I1 hS1 rv rx h1
theorem methG_some {x : Val} {f g : Str} {n : Nat} {st : Store} (h : methG P x f n st = some g) : ∃ c ns ws tp, insOf st x = some (c, ns, ws) ∧ P.isc c = true ∧ fld ns ws f = none ∧ P.meth c f = some g ∧ P.bind g n [] = some tp := by
  unfold methG at h
  cases e : insOf st x with
  | none => rw [e] at h; cases
                               h
  | some z =>
    obtain ⟨c, ns, ws⟩ := z
    rw [e] at h
    simp only at h
    split at h
    · rename_i g' e1 e2 e3
      split at h
      · rename_i tp e4
        cases h
        exact ⟨c, ns, ws, tp, rfl, e1, e2, e3, e4⟩
      · cases h
    · cases h
theorem snd_meth (O : OkX P Φ fa k N sc W X Bz) {m : Mode} {a : Expr} {ma : ME} {f : Str} {apos pos : Pos} {es : List Expr} {ms : List ME} (hl : (apos.endLine == pos.line) = true) (hz : es.length < 30) (hb : attributeBase a f X.env (eval a X.env) = eval a X.env)
    (ns : NoStar es) (ns2 : ∀ e es', es = e :: es' → NoStar es') (hnil : es = [] → ms = []) (ha : PE X a (rdE P Φ ⟨X.K, Bz⟩ W ma)) (has : PA X es (rdA P Φ ⟨X.K, Bz⟩ W ms)) :
    PE X (.Call (.Attribute a f apos) es [] pos) (rdE P Φ ⟨X.K, Bz⟩ W (.meth m ma f ms)) := by
  refine (pe_methG (t := rdA P Φ ⟨X.K, Bz⟩ W ms) (to := rdE P Φ ⟨X.K, Bz⟩ W ma)
    (g := fun x H a' => ∃ w st v g, RS ⟨X.K, Bz⟩ w st H ∧ RV ⟨X.K, Bz⟩ w v x ∧ methG P v f (ms.length + 1) st = some g ∧ a' = fa g)
    (r := fun a' σ x xs H Q => ∃ w st v vs g, RS ⟨X.K, Bz⟩ w st H ∧ RV ⟨X.K, Bz⟩ w v x ∧ RVs ⟨X.K, Bz⟩ w vs xs ∧ a' = fa g ∧ Post ⟨X.K, Bz⟩ w (callM P Φ m g [] (v :: vs) [] st) (AV ⟨X.K, Bz⟩ Q) fun c d H' => W c d σ H')
    hl hz hb ns ns2 ha has (fun e => rdA_nil (hnil e)) (fun pins s σ H x u a' pl R I rx ⟨w, st, v, g, hS, rv, hg, ea⟩ q => ?_) (fun x H a' ⟨w, st, v, g, hS, rv, hg, ea⟩ => ?_)
    (fun pins s σ H1 H x a' u xs us Q I _ rx r ⟨w, st, v, vs, g, hS, rv, rvs, ea, h⟩ => ?_)).imp fun σ H Q ⟨w, env, st, hE, hS, h⟩ => ?_
  · subst ea
    obtain ⟨c, ns', ws', tp, h1, h2, h3, h4, h5⟩ := methG_some hg
    exact methM_ok O I hS rv rx h1 h3 h4 h2 q
  · subst ea
    obtain ⟨c, ns', ws', tp, h1, h2, h3, h4, h5⟩ := methG_some hg
    exact (O.lk.fn g _ [] tp h5).2
  · subst ea
    exact callM_ok (ws := []) (zs := []) O I hS (RVs.cons rv rvs) RVs.nil (.cons rx r) .nil rfl h
  · refine rdE_seq hE hS h fun w1 v x st1 H1 l1 hE1 hS1 rv h1 => ?_
    cases e : methG P v f (ms.length + 1) st1 with
    | none => rw [e] at h1; exact h1.elim
    | some g =>
      rw [e] at h1
      refine ⟨fa g, ⟨w1, st1, v, g, hS1, rv, e, rfl⟩, ?_⟩
      refine rdA_seq hE1 hS1 h1 fun w2 vs xs st2 H2 l2 hE2 hS2 rvs h2 => ?_
      exact ⟨w2, st2, v, vs, g, hS2, RV.mono l2 v rv, rvs, rfl, h2⟩
theorem methK_some {x : Val} {f g : Str} {n : Nat} {kn : List Str} {st : Store} (h : methK P x f n kn st = some g) : ∃ c ns ws tp, insOf st x = some (c, ns, ws) ∧ P.isc c = true ∧ fld ns ws f = none ∧ P.meth c f = some g ∧ P.bind g n kn = some tp := by
  unfold methK at h
  cases e : insOf st x with
  | none => rw [e] at h; cases
                               h
  | some z =>
    obtain ⟨c, ns, ws⟩ := z
    rw [e] at h
    simp only at h
    split at h
    · rename_i g' e1 e2 e3
      split at h
      · rename_i tp e4
        cases h
        exact ⟨c, ns, ws, tp, rfl, e1, e2, e3, e4⟩
      · cases h
    · cases h
theorem snd_methk (O : OkX P Φ fa k N sc W X Bz) {m : Mode} {a : Expr} {ma : ME} {f : Str} {apos pos : Pos} {es : List Expr} {kws : List Keyword} {kn : List Str} {ms ks : List ME} (hl : (apos.endLine == pos.line) = true) (hz : es.length + kws.length + 1 < 30) (hb : attributeBase a f X.env (eval a X.env) = eval a X.env)
    (ns : NoStar es) (ns2 : ∀ e es', es = e :: es' → NoStar es') (ko : KwsOk kn kws) (hlk : ks.length = kn.length) (hnil : es = [] → ms = []) (ha : PE X a (rdE P Φ ⟨X.K, Bz⟩ W ma)) (has : PA X es (rdA P Φ ⟨X.K, Bz⟩ W ms)) (hk : PK X kws (rdA P Φ ⟨X.K, Bz⟩ W ks)) :
    PE X (.Call (.Attribute a f apos) es kws pos) (rdE P Φ ⟨X.K, Bz⟩ W (.methk m ma f ms kn ks)) := by
  refine (pe_methK (t := rdA P Φ ⟨X.K, Bz⟩ W ms) (tk := rdA P Φ ⟨X.K, Bz⟩ W ks) (to := rdE P Φ ⟨X.K, Bz⟩ W ma)
    (g := fun x H a' => ∃ w st v g, RS ⟨X.K, Bz⟩ w st H ∧ RV ⟨X.K, Bz⟩ w v x ∧ methK P v f (ms.length + 1) kn st = some g ∧ a' = fa g)
    (r := fun a' σ x xs zs H Q => ∃ w st v vs us g, RS ⟨X.K, Bz⟩ w st H ∧ RV ⟨X.K, Bz⟩ w v x ∧ RVs ⟨X.K, Bz⟩ w vs xs ∧ RVs ⟨X.K, Bz⟩ w us zs ∧ us.length = kn.length ∧ a' = fa g ∧ Post ⟨X.K, Bz⟩ w (callM P Φ m g kn (v :: vs) us st) (AV ⟨X.K, Bz⟩ Q) fun c d H' => W c d σ H')
    hl hz hb ns ns2 ko ha has (fun e => rdA_nil (hnil e)) hk (fun pins s σ H x u a' pl R I rx ⟨w, st, v, g, hS, rv, hg, ea⟩ q => ?_) (fun x H a' ⟨w, st, v, g, hS, rv, hg, ea⟩ => ?_)
    (fun pins s σ H1 H x a' u xs zs us ws Q I _ rx r rz ⟨w, st, v, vs, ks', g, hS, rv, rvs, rks, hlen, ea, h⟩ => ?_)).imp fun σ H Q ⟨w, env, st, hE, hS, h⟩ => ?_
  · subst ea
    obtain ⟨c, ns', ws', tp, h1, h2, h3, h4, h5⟩ := methK_some hg
    exact methM_ok O I hS rv rx h1 h3 h4 h2 q
  · subst ea
    obtain ⟨c, ns', ws', tp, h1, h2, h3, h4, h5⟩ := methK_some hg
    exact (O.lk.fn g _ kn tp h5).2
  · subst ea
    exact callM_ok O I hS (RVs.cons rv rvs) rks (.cons rx r) rz hlen h
  · refine rdE_seq hE hS h fun w1 v x st1 H1 l1 hE1 hS1 rv h1 => ?_
    cases e : methK P v f (ms.length + 1) kn st1 with
    | none => rw [e] at h1; exact h1.elim
    | some g =>
      rw [e] at h1
      refine ⟨fa g, ⟨w1, st1, v, g, hS1, rv, e, rfl⟩, ?_⟩
      refine rdA_seq hE1 hS1 h1 fun w2 vs xs st2 H2 l2 hE2 hS2 rvs h2 => ?_
      refine ⟨w2, env, st2, hE2, hS2, ?_⟩
      cases e2 : evalEs P Φ ks env st2 with
      | ok us st3 =>
        rw [e2] at h2
        intro w3 H3 l3 hS3 y ru
        exact ⟨w3, st3, v, vs, us, g, hS3, RV.mono (l2.trans l3) v rv, RVs.mono l3 vs rvs, ru, (evalEs_len ks _ _ _ _ e2).trans hlk, rfl, Post.mono l3 h2⟩
      | err c ns vs st => rw [e2] at h2; exact h2
      | stuck => rw [e2] at h2; exact h2
end
end Mp
end
section
set_option Elab.async false
set_option linter.all false
set_option maxRecDepth 100000
set_option maxHeartbeats
                         1000000
namespace Mp
open PySem L2 PySem.Spec PyProof.Rows
section
variable {P : Prog} {Φ : Cal} {fa : Str → Addr} {k : Nat} {N : List Str} {sc : Sco} {W : WX} {X : Cx} {Bz : Zs}
inductive PEs (X : Cx) (Bz : Zs) (P : Prog) (Φ : Cal) (W : WX) : List Expr → List ME → Prop
  | nil : PEs X Bz P Φ W [] []
  | cons {e : Expr} {m : ME} {es : List Expr} {ms : List ME} (h : PE X e (rdE P Φ ⟨X.K, Bz⟩ W m)) (r : PEs X Bz P Φ W es ms) : PEs X Bz P Φ W (e :: es) (m :: ms)
inductive PTs2 (X : Cx) (Bz : Zs) (P : Prog) (Φ : Cal) (W : WX) : List Expr → List ME → Prop
  | nil : PTs2 X Bz P Φ W [] []
  | cons {e : Expr} {m : ME} {es : List Expr} {ms : List ME} (h : PT X e (rdT P Φ ⟨X.K, Bz⟩ W m)) (r : PTs2 X Bz P Φ W es ms) : PTs2 X Bz P Φ W (e :: es) (m :: ms)
theorem PEs.len {es : List Expr} {ms : List ME} (h : PEs X Bz P Φ W es ms) : es.length = ms.length := by
  induction h with
  | nil => rfl
  | cons _ _ ih => rw [List.length_cons, List.length_cons,
                                                           ih]
theorem snd_and {pos : Pos} : ∀ {es : List Expr} {ms : List ME}, PEs X Bz P Φ W es ms → es ≠ [] → PE X (.BoolOp .And es pos) (rdE P Φ ⟨X.K, Bz⟩ W (.and ms))
  | _, _, .nil, h => absurd rfl h
  | _, _, .cons h .nil, _ => (pe_one h).imp fun σ H Q q => q
  | _, _, .cons h (.cons h2 hr), _ => by
    refine (pe_and h (snd_and (.cons h2 hr) (by simp))).imp fun σ H Q ⟨w, env, st, hE, hS, q⟩ => ?_
    refine rdE_seq hE hS q fun w1 v x st1 H1 l1 hE1 hS1 rv h1 => ?_
    cases v with
    | bl b =>
      cases (show x = .bl b from rv)
      refine ⟨b, rfl, ?_⟩
      cases b with
      | true => exact ⟨w1, env, st1, hE1, hS1, h1⟩
      | false => exact h1 w1 H1 (Le.refl _) hS1 _ rfl
    | _ => exact h1.elim
theorem snd_or {pos : Pos} : ∀ {es : List Expr} {ms : List ME}, PEs X Bz P Φ W es ms → es ≠ [] → PE X (.BoolOp .Or es pos) (rdE P Φ ⟨X.K, Bz⟩ W (.or ms))
  | _, _, .nil, h => absurd rfl h
  | _, _, .cons h .nil, _ => (pe_one h).imp fun σ H Q q => q
  | _, _, .cons h (.cons h2 hr), _ => by
    refine (pe_or h (snd_or (.cons h2 hr) (by simp))).imp fun σ H Q ⟨w, env, st, hE, hS, q⟩ => ?_
    refine rdE_seq hE hS q fun w1 v x st1 H1 l1 hE1 hS1 rv h1 => ?_
    cases v with
    | bl b =>
      cases (show x = .bl b from rv)
      refine ⟨b, rfl, ?_⟩
      cases b with
      | false => exact ⟨w1, env, st1, hE1, hS1, h1⟩
      | true => exact h1 w1 H1 (Le.refl _) hS1 _ rfl
    | _ => exact h1.elim
def rdTw (P : Prog) (Φ : Cal) (K : KZ) (W : WX) (f : Env → Store → R Bool) : TT := fun σ H Q => rd K W f σ H fun _ b H' => Q b H'
theorem pw_imp {e : Expr} {t t' : TT} (h : PW X e t) (i : ∀ σ H Q, t' σ H Q → t σ H Q) : PW X e t' := ⟨fun wh pins s σ H Q I q => h.run wh pins s σ H Q I (i σ H Q q)⟩
theorem snd_andT {pos : Pos} : ∀ {es : List Expr} {ms : List ME}, PTs2 X Bz P Φ W es ms → es ≠ [] → PW X (.BoolOp .And es pos) (rdT P Φ ⟨X.K, Bz⟩ W (.and ms))
  | _, _, .nil, h => absurd rfl h
  | _, _, .cons h .nil, _ => pw_imp (pw_and1 h) fun σ H Q q => q
  | _, _, .cons h (.cons h2 hr), _ => by
    refine pw_imp (pw_and h (snd_andT (.cons h2 hr) (by simp))) fun σ H Q ⟨w, env, st, hE, hS, q⟩ => ?_
    refine rdT_seq hE hS q fun w1 b st1 H1 l1 hE1 hS1 h1 => ?_
    cases b with
    | true => exact ⟨w1, env, st1, hE1, hS1, h1⟩
    | false => exact h1 w1 H1 (Le.refl _) hS1
theorem snd_orT {pos : Pos} : ∀ {es : List Expr} {ms : List ME}, PTs2 X Bz P Φ W es ms → es ≠ [] → PW X (.BoolOp .Or es pos) (rdT P Φ ⟨X.K, Bz⟩ W (.or ms))
  | _, _, .nil, h => absurd rfl h
  | _, _, .cons h .nil, _ => pw_imp (pw_or1 h) fun σ H Q q => q
  | _, _, .cons h (.cons h2 hr), _ => by
    refine pw_imp (pw_or h (snd_orT (.cons h2 hr) (by simp))) fun σ H Q ⟨w, env, st, hE, hS, q⟩ => ?_
    refine rdT_seq hE hS q fun w1 b st1 H1 l1 hE1 hS1 h1 => ?_
    cases b with
    | false => exact ⟨w1, env, st1, hE1, hS1, h1⟩
    | true => exact h1 w1 H1 (Le.refl _) hS1
theorem snd_truth {a : Expr} {ma : ME} (he : ∀ whole, isTrue a X.env whole = (do let v ← whole; standAt a.pos; holding [v] (truthy v))) (ha : PE X a (rdE P Φ ⟨X.K, Bz⟩ W ma))
    (hm : ∀ env st, evalT P Φ ma env st = (evalE P Φ ma env st).then_ fun v st => R.of (truV st v) st) : PT X a (rdT P Φ ⟨X.K, Bz⟩ W ma) := by
  refine ⟨fun pins s σ H Q I ⟨w, env, st, hE, hS, h⟩ => ?_⟩
  rw [hm] at h
  refine isTrue_plain (thn (ha.run pins s σ H _ I (rdE_seq (Q := fun x H' => rTru ⟨X.K, Bz⟩ x H' Q) hE hS h fun w1 v x st1 H1 l1 hE1 hS1 rv h1 => ?_)) fun v s1 ⟨x, H1, I1, r1, q1⟩ => (tru_ok2 (Bz := Bz)) pins s1 σ H1 x v Q I1 r1 q1) (he _)
  obtain ⟨b, e, q⟩ := h1.of
  exact ⟨w1, st1, v, hS1, rv, b, e, q⟩
theorem fmtL_cons (m : ME) (ms : List ME) (acc : Str) (env : Env) (st : Store) : fmtL P Φ (m :: ms) acc env st = (evalE P Φ m env st).then_ fun v st => match fmt v with
    | some (.str y) => if (acc ++ y).length ≤ sizeLine then fmtL P Φ ms (acc ++ y) env st else .stuck
    | _ => .stuck := rfl
inductive PFs (X : Cx) (Bz : Zs) (P : Prog) (Φ : Cal) (W : WX) : List Expr → List ME → Prop
  | nil : PFs X Bz P Φ W [] []
  | val {e : Expr} {m : ME} {pos : Pos} {es : List Expr} {ms : List ME} (h : PE X e (rdE P Φ ⟨X.K, Bz⟩ W m)) (r : PFs X Bz P Φ W es ms) : PFs X Bz P Φ W (.FormattedValue e (-1) none pos :: es) (m :: ms)
  | txt {e : Expr} {x : Str} {es : List Expr} {ms : List ME} (h : PE X e (rdE P Φ ⟨X.K, Bz⟩ W (.str x))) (r : PFs X Bz P Φ W es ms) : PFs X Bz P Φ W (e :: es) (.str x :: ms)
theorem fmt_cases {v y : Val} (h : fmt v = some y) : (∃ x, v = .str x ∧ y = .str x) ∨ ∃ i, v = .int i ∧ smallI i = true ∧ y = .str (toString i) := by
  cases v with
  | str x => cases h; exact .inl ⟨x, rfl, rfl⟩
  | int i =>
    unfold fmt at h
    simp only at h
    split at h
    · rename_i hs
      cases h
      exact .inr ⟨i, rfl, hs, rfl⟩
    · cases h
  | _ => cases h
theorem snd_js {es : List Expr} {ms : List ME} (h : PFs X Bz P Φ W es ms) : ∃ ts, PJ X es ts ∧ ∀ (σ : L2.St) (H : Hp) (acc : Str) (Q : VK) (w : Wd) (env : Env) (st : Store), sOk acc → RE ⟨X.K, Bz⟩ w env σ → RS ⟨X.K, Bz⟩ w st H →
    Post ⟨X.K, Bz⟩ w (fmtL P Φ ms acc env st) (AV ⟨X.K, Bz⟩ Q) (fun c d H' => W c d σ H') → tJs ts acc σ H fun out H1 => Q (.str out) H1 := by
  induction h with
  | nil => exact ⟨[], .nil, fun σ H acc Q w env st ha hE hS q => q w H (Le.refl _) hS _ ⟨rfl, ha⟩⟩
  | @val e m pos es ms he hr ih =>
    obtain ⟨ts, hj, hk⟩ := ih
    refine ⟨_ :: ts, .cons (pe_fmt he) hj, fun σ H acc Q w env st ha hE hS q => ?_⟩
    rw [fmtL_cons] at q
    refine rdE_seq hE hS q fun w1 v x st1 H1 l1 hE1 hS1 rv h1 => ?_
    split at h1
    · rename_i y hy
      split at h1
      · rename_i hz
        rcases fmt_cases hy with ⟨x', rfl, e2⟩ | ⟨i, rfl, hs, e2⟩
        · cases e2
          obtain ⟨rfl, sy⟩ := rv
          have sa : sOk (acc ++ y) := sOk_append ha sy (by rw [← length_append]; exact hz)
          exact .inl ⟨y, rfl, sy.1, y, rfl, hz, hk σ H1 _ Q w1 env st1 sa hE1 hS1 h1⟩
        · cases e2
          cases (show x = .int i from rv)
          have hs' := of_decide_eq_true hs
          have sa : sOk (acc ++ (toString i : String)) := sOk_append ha (sOk_int hs') (by rw [← length_append]; exact hz)
          exact .inr ⟨i, rfl, hs', _, rfl, hz, hk σ H1 _ Q w1 env st1 sa hE1 hS1 h1⟩
      · exact h1.elim
    · exact h1.elim
  | @txt e x es ms he hr ih =>
    obtain ⟨ts, hj, hk⟩ := ih
    refine ⟨_ :: ts, .cons he hj, fun σ H acc Q w env st ha hE hS q => ?_⟩
    rw [fmtL_cons] at q
    replace q : Post ⟨X.K, Bz⟩ w (if (acc ++ x).length ≤ sizeLine then fmtL P Φ ms (acc ++ x) env st else .stuck) (AV ⟨X.K, Bz⟩ Q) (fun c d H' => W c d σ H') := q
    split at q
    · rename_i hz
      refine ⟨w, env, st, hE, hS, fun w1 H1 l1 hS1 x' r => ?_⟩
      obtain ⟨rfl, sx⟩ := r
      exact ⟨x, rfl, hz, hk σ H1 _ Q w1 env st (sOk_append ha sx (by rw [← length_append]; exact hz)) (hE.mono l1) hS1 (Post.mono l1 q)⟩
    · exact q.elim
theorem sOk_empty : sOk Str.empty := ⟨Nat.zero_le _, by simp [PyData.strOk, Str.empty]⟩
theorem snd_fstr {v1 v2 : Expr} {rest : List Expr} {ms : List ME} {pos : Pos} (h : PFs X Bz P Φ W (v1 :: v2 :: rest) ms) : PE X (.JoinedStr (v1 :: v2 :: rest) pos) (rdE P Φ ⟨X.K, Bz⟩ W (.fstr ms)) := by
  obtain ⟨ts, hj, hk⟩ := snd_js h
  exact (pe_joined hj).imp fun σ H Q ⟨w, env, st, hE, hS, q⟩ => hk σ H _ Q w env st sOk_empty hE hS q
theorem snd_bcall (O : OkX P Φ fa k N sc W X Bz) {f : String} {x : Str} {p pos : Pos} {e : Expr} {es : List Expr} {ms : List ME} (hx : x = Str.ofString f) (hf : f ∈ biNames) (hb : bootBuiltins x = some (bval f)) (hg : isGl sc x = true) (hn : nmOk x = true)
    (ns : NoStar (e :: es)) (ns2 : NoStar es) (ha : PA X (e :: es) (rdA P Φ ⟨X.K, Bz⟩ W ms)) : PE X (.Call (.Name x p) (e :: es) [] pos) (rdE P Φ ⟨X.K, Bz⟩ W (.bcall f ms)) := by
  obtain ⟨d1, _, d3, _⟩ := nmOk_d hn
  have hm : X.mg x = none := by rw [hx]; exact O.lk.bi f hf
  have hbc := bc_ok (Bz := Bz) (X := X) f O.calm
  have he : starEach (e :: es) X.env = (false, eval e X.env) :: starEach es X.env := ns.cons ns2 _
  have hp : (backTo pos (starEach es X.env)).any (·.1) = false := ns2.any _ _
  have main : PE X (.Call (.Name x p) (e :: es) [] pos) (tCB (rBc ⟨X.K, Bz⟩ f) (rdA P Φ ⟨X.K, Bz⟩ W ms)) := by
    unfold bval at hb hbc
    split at hb
    · rename_i hc
      rw [if_pos hc] at hbc
      exact pe_callTy hbc (gl_ok O hg) hm hb ha d3 d1 he hp
    · rename_i hc
      rw [if_neg hc] at hbc
      exact pe_callB hbc (gl_ok O hg) hm hb ha d3 d1 he hp
  refine main.imp fun σ H Q ⟨w, env, st, hE, hS, h⟩ => ?_
  refine rdA_seq hE hS h fun w1 v xs st1 H1 l1 hE1 hS1 rv h1 => ?_
  obtain ⟨z, e', q⟩ := Post.of (o := bV st1 f v) h1
  exact ⟨w1, st1, v, hS1, rv, z, e', q⟩
end
end Mp
end
section
set_option Elab.async false
set_option linter.all false
set_option maxRecDepth 100000
set_option maxHeartbeats
                         1000000
namespace Mp
open PySem L2 PySem.Spec PyProof.Rows
section
variable {P : Prog} {Φ : Cal} {fa : Str → Addr} {k : Nat} {N : List Str} {sc : Sco} {W : WX} {X : Cx} {Bz : Zs}
def rBm (K : KZ) (f : String) : V → List V → Hp → VK → Prop := fun x xs H Q => ∃ w st a vs, RS K w st H ∧ RV K w a x ∧ RVs K w vs xs ∧ ∃ v st', bmV st f a vs = some (v, st') ∧ ∀ w' H', Le w w' → RS K w' st' H' → ∀ y, RV K w' v y → Q y H'
theorem at_lst {K : KZ} {w : Wd} {st : Store} {H : Hp} {i : Nat} {xs : List Val} {x : V} (hS : RS K w st H) (r : RV K w (.ref i) x) (e : st[i]? = some (.lst xs)) : ∃ p ys, x = .ref p ∧ w.e[i]? = some p ∧ H p = some (.lst ys) ∧ xs.length ≤ sizeLine ∧ RVs K w xs ys := by
  obtain ⟨p, rfl, e1⟩ := r
  obtain ⟨ys, h1, h2, h3⟩ := hS.obj i p _ e1 e
  exact ⟨p, ys, rfl, e1, h1, h2, h3⟩
theorem mt_ok_append : MtR X "list.append" (rBm ⟨X.K, Bz⟩ "append") := by
  intro pins s σ H x xs v us Q I rx rs ⟨w, st, a, vs, hS, ra, rv, u, st', e, q⟩
  replace e : appendV st a vs = some (u, st') := by simpa [bmV] using e
  unfold appendV at e
  split at e
  · rename_i i y _
    split at e
    · rename_i zs ez
      split at e
      · rename_i hz
        cases e
        obtain ⟨p, ys, rfl, e1, h1, h2, h3⟩ := at_lst hS ra ez
        obtain ⟨y', rfl, ry⟩ := one_rel rv
        refine mt_append pins s σ H _ _ v us Q I rx rs ⟨p, ys, y', rfl, rfl, h1, by rw [← h3.length]; exact hz, ?_⟩
        exact q w _ (Le.refl _) (hS.set e1 ⟨_, upd_same, by rw [List.length_append, List.length_singleton]; exact hz, h3.append (.cons ry .nil)⟩) _ rfl
      · cases e
    · cases e
  · cases e
theorem mt_ok_extend : MtR X "list.extend" (rBm ⟨X.K, Bz⟩ "extend") := by
  intro pins s σ H x xs v us Q I rx rs ⟨w, st, a, vs, hS, ra, rv, u, st', e, q⟩
  replace e : extendV st a vs = some (u, st') := by simpa [bmV] using e
  unfold extendV at e
  split at e
  · rename_i i y _
    split at e
    · rename_i zs ws ez ew
      split at e
      · rename_i hz
        cases e
        obtain ⟨p, ys, rfl, e1, h1, h2, h3⟩ := at_lst hS ra ez
        obtain ⟨y', rfl, ry⟩ := one_rel rv
        obtain ⟨p2, y2, rfl, g1, g2, g3⟩ := lstOf_rel hS ry ew
        refine mt_extend pins s σ H _ _ v us Q I rx rs ⟨p, p2, ys, y2, rfl, rfl, h1, g1, by rw [← h3.length, ← g3.length]; exact hz, ?_⟩
        exact q w _ (Le.refl _) (hS.set e1 ⟨_, upd_same, by rw [List.length_append]; exact hz, h3.append g3⟩) _ rfl
      · cases e
    · cases e
  · cases e
theorem mt_ok_clear : MtR X "list.clear" (rBm ⟨X.K, Bz⟩ "clear") := by
  intro pins s σ H x xs v us Q I rx rs ⟨w, st, a, vs, hS, ra, rv, u, st', e, q⟩
  replace e : clearV st a vs = some (u, st') := by simpa [bmV] using e
  unfold clearV at e
  split at e
  · rename_i i _
    split at e
    · rename_i zs ez
      cases e
      obtain ⟨p, ys, rfl, e1, h1, h2, h3⟩ := at_lst hS ra ez
      cases (show xs = [] from rv)
      exact mt_clear pins s σ H _ _ v us Q I rx rs ⟨p, ys, rfl, rfl, h1, q w _ (Le.refl _) (hS.set e1 ⟨_, upd_same, Nat.zero_le _, .nil⟩) _ rfl⟩
    · cases e
  · cases e
theorem mt_ok_pop : MtR X "list.pop" (rBm ⟨X.K, Bz⟩ "pop") := by
  intro pins s σ H x xs v us Q I rx rs ⟨w, st, a, vs, hS, ra, rv, u, st', e, q⟩
  replace e : popV st a vs = some (u, st') := by simpa [bmV] using e
  unfold popV at e
  split at e
  · rename_i i _
    split at e
    · rename_i zs ez
      obtain ⟨p, ys, rfl, e1, h1, h2, h3⟩ := at_lst hS ra ez
      cases (show xs = [] from rv)
      obtain ⟨y, ey, ee⟩ := Option.map_eq_some_iff.mp e
      cases ee
      obtain ⟨y', g1, g2⟩ := h3.get ey
      refine mt_pop pins s σ H _ _ v us Q I rx rs ⟨p, ys, y', rfl, rfl, h1, by rw [← h3.length]; exact g1, ?_⟩
      refine q w _ (Le.refl _) (hS.set e1 ⟨_, upd_same, ?_, ?_⟩) _ g2
      · rw [List.length_dropLast]; omega
      · rw [List.dropLast_eq_take, List.dropLast_eq_take, ← h3.length]; exact h3.take _
    · cases e
  · rename_i i _
    split at e
    · rename_i y zs ez
      cases e
      obtain ⟨p, ys, rfl, e1, h1, h2, h3⟩ := at_lst hS ra ez
      obtain ⟨y1, rfl, ry⟩ := one_rel rv
      cases (show y1 = .int 0 from ry)
      obtain ⟨y', ys', rfl, g1, g2⟩ := h3
      refine mt_popAt pins s σ H _ _ v us Q I rx rs ⟨p, y' :: ys', 0, 0, y', rfl, rfl, h1, by decide, by decide, by simp [seqIndex?], rfl, ?_⟩
      rw [List.length_cons] at h2
      exact q w _ (Le.refl _) (hS.set e1 ⟨_, upd_same, by omega, g2⟩) _ g1
    · cases e
  · cases e
theorem sOk_join {x : Str} {ys : List Str} (hx : sOk x) (hy : ∀ y ∈ ys, sOk y) (hz : (ys.map (·.length)).sum + ys.length * x.length ≤ 16777216) : sOk (Str.join x ys) := by
  have hb : ∀ (zs : List Str), (∀ y ∈ zs, sOk y) → (Str.join x zs).length ≤ (zs.map (·.length)).sum + zs.length * x.length ∧ PyData.strOk (Str.join x zs) = true := by
    intro zs
    induction zs with
    | nil => exact fun _ => ⟨Nat.zero_le _, sOk_empty.2⟩
    | cons a r ih =>
      intro h
      cases r with
      | nil => exact ⟨by simp [Str.join], (h a (by simp)).2⟩
      | cons b r =>
        obtain ⟨i1, i2⟩ := ih fun y hy => h y (List.mem_cons_of_mem _ hy)
        have ha := h a (by simp)
        have e : Str.join x (a :: b :: r) = a ++ x ++ Str.join x (b :: r) := rfl
        rw [e]
        refine ⟨?_, ?_⟩
        · rw [length_append, length_append]
          simp only [List.map_cons, List.sum_cons, List.length_cons, Nat.add_mul, Nat.one_mul] at i1 ⊢
          omega
        · have h1 := ha.2
          have h2 := hx.2
          have h3 := i2
          unfold PyData.strOk at *
          show (a.cps ++ x.cps ++ (Str.join x (b :: r)).cps).all _ = true
          rw [Array.all_append, Array.all_append, h1, h2, h3]; rfl
  obtain ⟨h1, h2⟩ := hb ys hy
  exact ⟨Nat.le_trans h1 (Nat.le_trans hz (by rw [sizeLine_eq]; omega)), h2⟩
theorem mt_ok_join : MtR X "str.join" (rBm ⟨X.K, Bz⟩ "join") := by
  intro pins s σ H x xs v us Q I rx rs ⟨w, st, a, vs, hS, ra, rv, u, st', e, q⟩
  replace e : joinV st a vs = some (u, st') := by simpa [bmV] using e
  unfold joinV at e
  split at e
  · rename_i z y
    split at e
    · rename_i ys ez
      split at e
      · rename_i hz
        cases e
        obtain ⟨rfl, sz⟩ := ra
        obtain ⟨y', rfl, ry⟩ := one_rel rv
        simp only [Option.bind_eq_some_iff] at ez
        obtain ⟨zs, e1, e2⟩ := ez
        obtain ⟨p, xs', rfl, g1, g2, g3⟩ := lstOf_rel hS ry e1
        obtain ⟨rfl, hy⟩ := strs_rel g3 e2
        exact mt_join pins s σ H _ _ v us Q I rx rs ⟨z, p, ys, rfl, rfl, .inl (SqL.of g1), hz, q w H (Le.refl _) hS _ ⟨by rw [TL.join_eq], sOk_join sz hy hz⟩⟩
      · cases e
    · cases e
  · cases e
theorem cnt_pd : ∀ (a : Val) (xs : List Val), isD a = true → isDs xs = true → (toPDs xs).countP (fun z => PyData.eqv z (toPD a)) = xs.countP fun z => veq z a
  | a, [], _, _ => rfl
  | a, x :: xs, ha, hx => by
    simp only [isDs, Bool.and_eq_true] at hx
    simp only [toPDs, List.countP_cons, eqv_veq x a hx.1 ha]
    rw [cnt_pd a xs ha hx.2]
theorem mt_ok_count (hu : X.A.units + 65 < cLine) : MtR X "list.count" (rBm ⟨X.K, Bz⟩ "count") := by
  intro pins s σ H x xs v us Q I rx rs ⟨w, st, a, vs, hS, ra, rv, u, st', e, q⟩
  replace e : countV st a vs = some (u, st') := by simpa [bmV] using e
  unfold countV at e
  split at e
  · rename_i i y
    split at e
    · rename_i zs ez
      split at e
      · rename_i hc
        simp only [Bool.and_eq_true] at
                                        hc
        cases e
        obtain ⟨y', rfl, ry⟩ := one_rel rv
        have et : top st (.ref i) = .lst zs := by unfold top lstOf; simp only [ez]
        have o1 := hc.1
        rw [← et] at o1
        obtain ⟨d1, g1, g2, g3, g4⟩ := top_rel hS ra o1
        obtain ⟨d2, k1, k2, k3, k4⟩ := top_rel hS ry hc.2
        rw [et] at g3 g4
        have ec := cnt_pd (top st y) zs k4 (by simpa [isD] using g4)
        rw [← k3] at ec
        obtain ⟨p, rfl, e1⟩ := ra
        cases rx
        cases rs with
        | cons ryv rt =>
          rename_i uy ut
          cases rt
          obtain ⟨bs, r1⟩ := Dp.reads I d2 y' uy k1 ryv
          have g3' : d1 = .list (toPDs zs) := g3
          subst g3'
          have hxs : PyData.canLayAll0 (toPDs zs) = true := SeqAt.canLay_of_shaped g2
          have hroom : X.A.units + 1 + min (PyData.depthAll (toPDs zs)) d2.depth < cLine := room_in_shaped k2 hu
          cases g1 with
          | lst hs ha =>
            obtain ⟨its, rv', ⟨⟨cls, dd, data, sls⟩, n, ho, hc', hdn, hdt⟩, hlen⟩ := I.list hs
            simp only at hc' hdt
            subst hc' hdt
            obtain ⟨as, h4⟩ := Dp.readsAll I (toPDs zs) _ its ha rv'
            have hmap : its.map (SeqAt.readOf s.heap) = toPDs zs := SeqAt.readsAll_map (toPDs zs) its as hxs h4
            refine call_meets PySem.F.slot_list_count ⟨_, ho, rfl⟩ PySem.F.entry_list_count (PySem.F.args_list_count_2 _
                                                                                                                         _)
              (SeqAt.list_countAt p its.toArray n dd sls uy (fun u => PyData.eqv (SeqAt.readOf s.heap u) d2)) ⟨ho, SeqAt.items_eqAt (vs := its.toArray) (show ReadsAll s.heap its.toArray.toList (toPDs zs) as from h4) r1 hxs (SeqAt.canLay_of_shaped k2) hroom, ?_⟩
            have en : its.toArray.toList.countP (fun u => PyData.eqv (SeqAt.readOf s.heap u) d2) = zs.countP fun z => veq z (top st y) := by
              rw [← ec, ← hmap, List.countP_map]
              rfl
            refine ⟨.int (zs.countP fun z => veq z (top st y) : Nat), H, I.tok _, ⟨s.toks, ?_⟩, q w H (Le.refl _) hS _ rfl⟩
            show Value.int ((its.toArray.toList.countP (fun u => PyData.eqv (SeqAt.readOf s.heap u) d2) : Nat) : Int) s.toks = _
            rw [en]
      · cases e
    · cases e
  · cases e
theorem tyV_of {w : Wd} {st : Store} {H : Hp} {f : String} {a : Val} {x : V} (hS : RS ⟨X.K, Bz⟩ w st H) (ra : RV ⟨X.K, Bz⟩ w a x) (h : bmTy st f a = true) : (f = "join" ∧ tyV X.K "str" x H) ∨ (f ≠ "join" ∧ tyV X.K "list" x H) := by
  by_cases hs : ∃ z, a = .str z
  · obtain ⟨z, rfl⟩ := hs
    obtain ⟨rfl, _⟩ := ra
    exact .inl ⟨of_decide_eq_true h, rfl⟩
  · have e : ((decide (f = "append") || decide (f = "extend") || decide (f = "clear") || decide (f = "pop") || decide (f = "count")) && (lstOf st a).isSome) = true := by
      cases a <;> first | exact absurd ⟨_, rfl⟩ hs | exact h
    simp only [Bool.and_eq_true, Bool.or_eq_true, decide_eq_true_eq] at e
    obtain ⟨e1, e2⟩ := e
    obtain ⟨xs, e3⟩ := Option.isSome_iff_exists.mp e2
    obtain ⟨p, ys, rfl, h1, h2, h3⟩ := lstOf_rel hS ra e3
    exact .inr ⟨by rcases e1 with (((rfl | rfl) | rfl) | rfl) | rfl <;> decide, .inl ⟨rfl, ys, SqL.of h1⟩⟩
theorem snd_bm {T id f : String} {name : Str} (pa : PlainAttrs T) (slot : Slot T name id) (hty : typeOf (.builtin id) = pure (.type "method_descriptor")) (hm : MtR X id (rBm ⟨X.K, Bz⟩ f))
    (hT : (f = "join" ∧ T = "str") ∨ (f ≠ "join" ∧ T = "list")) {o : Expr} {mo : ME} {apos cpos : Pos} {es : List Expr} {ms : List ME} (hl : (apos.endLine == cpos.line) = true) (hz : es.length < 30) (hb : attributeBase o name X.env (eval o X.env) = eval o X.env)
    (ns : NoStar es) (ns2 : ∀ e es', es = e :: es' → NoStar es') (hnil : es = [] → ms = []) (ho : PE X o (rdE P Φ ⟨X.K, Bz⟩ W mo)) (ha : PA X es (rdA P Φ ⟨X.K, Bz⟩ W ms)) : PE X (.Call (.Attribute o name apos) es [] cpos) (rdE P Φ ⟨X.K, Bz⟩ W (.bmeth f mo ms)) := by
  have read : ∀ σ H Q, rdE P Φ ⟨X.K, Bz⟩ W (.bmeth f mo ms) σ H Q → tBM X.K T (rBm ⟨X.K, Bz⟩ f) (rdE P Φ ⟨X.K, Bz⟩ W mo) (rdA P Φ ⟨X.K, Bz⟩ W ms) σ H Q := by
    intro σ H Q ⟨w, env, st, hE, hS, h⟩
    refine rdE_seq hE hS h fun w1 v x st1 H1 l1 hE1 hS1 rv h1 => ?_
    cases e : bmTy st1 f v with
    | false => rw [e] at h1; exact h1.elim
    | true =>
      rw [e] at h1
      refine ⟨?_, ?_⟩
      · rcases tyV_of hS1 rv e with ⟨e1, e2⟩ | ⟨e1, e2⟩
        · rcases hT with ⟨_, rfl⟩ | ⟨n, _⟩
          · exact e2
          · exact absurd e1 n
        · rcases hT with ⟨n, _⟩ | ⟨_, rfl⟩
          · exact absurd n e1
          · exact e2
      · refine rdA_seq hE1 hS1 h1 fun w2 vs xs st2 H2 l2 hE2 hS2 rvs h2 => ?_
        refine ⟨w2, st2, v, vs, hS2, RV.mono l2 v rv, rvs, ?_⟩
        cases e3 : bmV st2 f v vs with
        | none => rw [e3] at h2; exact h2.elim
        | some z =>
          obtain ⟨u, st3⟩ := z
          rw [e3] at h2
          exact ⟨u, st3, rfl, fun w' H' l s y r => h2 w' H' l s y r⟩
  cases es with
  | nil =>
    refine (pe_bm0 pa slot hty hm ho hb hl).imp fun σ H Q q => ?_
    have q1 := read σ H Q q
    obtain ⟨w, env, st, hE, hS, q2⟩ := q1
    refine ⟨w, env, st, hE, hS, q2.imp fun w' a st' H' l s r x rx => ?_⟩
    obtain ⟨r1, r2⟩ := r x rx
    exact ⟨r1, rdA_nil (hnil rfl) _ _ _ r2⟩
  | cons e es =>
    refine (pe_bm pa slot hty hm ho ha hb ?_ hl (ns.cons (ns2 e es rfl) _) ((ns2 e es rfl).any _ _)).imp read
    rw [ns.all]
    simp [backToKw, keywordEach]
    simp at hz
    omega
end
end Mp
end
section
set_option Elab.async false
set_option linter.all false
set_option maxRecDepth 100000
set_option maxHeartbeats
                         1000000
namespace Mp
open PySem L2 PySem.Spec PyProof.Rows
section
variable {P : Prog} {Φ : Cal} {fa : Str → Addr} {k : Nat} {N : List Str} {sc : Sco} {W : WX} {X : Cx} {Bz : Zs}
def clsV (K : PySem.W.Frag) (t : Str) : V := match bty t with
  | some s => .ty s
  | none => .ref (cA K t)
theorem clsV_ok (K : PySem.W.Frag) (t : Str) : ClsV (clsV K t) (tyVal K t) := by
  unfold clsV tyVal
  cases bty t with
  | some s => exact .ty s
  | none => exact .own _
def clsOk (P : Prog) (sc : Sco) (t : Str) : Bool := isGl sc t && nmOk t && (P.isc t || match bty t with
  | some s => decide (t = Str.ofString s) && decide (s ∈ biNames) && (bootBuiltins t == some (.type s))
  | none => false)
theorem pe_cls (O : OkX P Φ fa k N sc W X Bz) {t : Str} {p : Pos} (h : clsOk P sc t = true) : PE X (.Name t p) (tC (clsV X.K t)) := by
  unfold clsOk at h
  simp only [Bool.and_eq_true, Bool.or_eq_true] at h
  obtain ⟨⟨h1, h2⟩, h3⟩ := h
  obtain ⟨d1, _, d3, _⟩ := nmOk_d h2
  by_cases hc : P.isc t = true
  · obtain ⟨g1, g2, g3⟩ := O.lk.gc t hc
    have e : clsV X.K t = .ref (cA X.K t) := by unfold clsV; rw [g3]
    rw [e]
    exact pe_glob (gl_ok O h1) g1 rfl d1
  · rcases h3 with h3 | h3
    · exact absurd h3 hc
    · cases e : bty t with
      | none => rw [e] at h3; cases h3
      | some s =>
        rw [e] at h3
        simp only [Bool.and_eq_true, decide_eq_true_eq] at
                                                           h3
        obtain ⟨⟨h4, h5⟩, h6⟩ := h3
        have e2 : clsV X.K t = .ty s := by unfold clsV; rw [e]
        rw [e2]
        exact pe_bltn (gl_ok O h1) (by rw [h4]; exact O.lk.bi s h5) (eq_of_beq h6) rfl d3 d1
theorem ty_rel (O : OkX P Φ fa k N sc W X Bz) {w : Wd} {st : Store} {H : Hp} {v : Val} {x : V} {n : Str} (hS : RS ⟨X.K, Bz⟩ w st H) (rv : RV ⟨X.K, Bz⟩ w v x) (hn : tyN st v = some n) (hi : ((insOf st v).isSome && !P.isc n) = false) : TyX X.K H x (tyVal X.K n) := by
  have ins : ∀ {z : Str × List Str × List Val}, lstOf st v = none → insOf st v = some z → n = z.1 → TyX X.K H x (tyVal X.K n) := by
    intro z hl hz e
    obtain ⟨c, ns, vs⟩ := z
    subst e
    rw [hz] at hi
    have hc : P.isc n = true := by simpa using hi
    obtain ⟨p, dx, fs, rfl, hp, _, _⟩ := insOf_rel (O.lk.nd hc) hS rv hz
    obtain ⟨g1, g2, g3⟩ := O.lk.gc n hc
    have T := O.lk.ty n hc
    have e : tyVal X.K n = .ref (cA X.K n) := by unfold tyVal; rw [g3]
    rw [e]
    exact .base (.ins hp (O.lk.cl n hc) T.ha T.hn T.htk T.hm)
  have lst : ∀ {us : List Val}, lstOf st v = some us → n = "list" → TyX X.K H x (tyVal X.K n) := by
    intro us h1 h2
    obtain ⟨p, xs, rfl, hp, hz, rr⟩ := lstOf_rel hS rv h1
    subst h2
    exact .base (.lst hp)
  have rest : (match lstOf st v with | some _ => some ("list" : Str) | none => (insOf st v).map (·.1)) = some n → TyX X.K H x (tyVal X.K n) := by
    intro h
    cases e : lstOf st v with
    | some us =>
      rw [e] at h
      simp only [Option.some.injEq] at
                                       h
      exact lst e h.symm
    | none =>
      rw [e] at h
      simp only [Option.map_eq_some_iff] at
                                            h
      obtain ⟨z, h1, h2⟩ := h
      exact ins e h1 h2.symm
  cases v with
  | non => cases (show x = .non from rv); cases hn; exact .base .non
  | bl b => cases (show x = .bl b from rv); cases hn; exact .base (.bl b)
  | int i => cases (show x = .int i from rv); cases hn; exact .base (.int i)
  | str z => obtain ⟨rfl, _⟩ := rv; cases hn; exact .base (.str z)
  | tup us =>
    obtain ⟨p, xs, rfl, hp, hz, rr⟩ := rv
    cases hn
    show TyX X.K H (.ref p) (.type "tuple")
    rcases SqT.mono hS.sub hp with h | ⟨o, its, n, h1, h2, _⟩
    · rcases h with h | ⟨o, h⟩
      · exact .base (.tup h)
      · exact .fTuple h
    · exact .kTuple h1 h2
  | _ => exact rest hn
theorem isTs_any {K : PySem.W.Frag} (hk : ∀ n t b, P.sub n t = some b → PySem.W.kitOne K (tyVal K n) (tyVal K t) = some b) {st : Store} {v : Val} {n : Str} (hn : tyN st v = some n) (hi : ((insOf st v).isSome && !P.isc n) = false) : ∀ {ts : List Str} {b : Bool}, isTs P st v ts = some b → PySem.W.kitAny K (tyVal K n) (ts.map (tyVal K)) = some b
  | [], b, h => h
  | t :: ts, b, h => by
    have e1 : isT P st v t = P.sub n t := by
      unfold isT
      rw [hn]
      show (if ((insOf st v).isSome && !P.isc n) = true then none else P.sub n t) = _
      rw [hi]; rfl
    unfold isTs at h
    rw [e1] at h
    unfold PySem.W.kitAny
    show (match PySem.W.kitOne K (tyVal K n) (tyVal K t) with | some true => some true | some false => PySem.W.kitAny K (tyVal K n) (ts.map (tyVal K)) | none => none) = _
    cases e : P.sub n t with
    | none => rw [e] at h; cases
                                 h
    | some c =>
      rw [e] at h
      rw [hk n t c e]
      cases c with
      | true => exact h
      | false => exact isTs_any hk hn hi h
theorem isTs_ty {st : Store} {v : Val} {t : Str} {ts : List Str} {b : Bool} (h : isTs P st v (t :: ts) = some b) : ∃ n, tyN st v = some n ∧ ((insOf st v).isSome && !P.isc n) = false := by
  unfold isTs isT at h
  cases e : tyN st v with
  | none => rw [e] at h; cases
                               h
  | some n =>
    rw [e] at h
    refine ⟨n, rfl, ?_⟩
    cases e2 : ((insOf st v).isSome && !P.isc n) with
    | false => rfl
    | true =>
      rw [Option.bind_some, e2] at h
      cases h
theorem snd_isin1 (O : OkX P Φ fa k N sc W X Bz) {a : Expr} {ma : ME} {t x : Str} {p p1 pos : Pos} (hx : x = "isinstance") (hg : isGl sc x = true) (hc : clsOk P sc t = true) (ns : NoStar [a, .Name t p1]) (ns2 : NoStar [.Name t p1]) (ha : PE X a (rdE P Φ ⟨X.K, Bz⟩ W ma)) :
    PE X (.Call (.Name x p) [a, .Name t p1] [] pos) (rdE P Φ ⟨X.K, Bz⟩ W (.isin ma [t])) := by
  have hm : X.mg x = none := by rw [hx]; exact O.lk.bi "isinstance" (by decide)
  have hp := pa_cons ha (pa_cons (pe_cls (p := p1) O hc) pa_nil (NoStar.cons ns2 (fun _ => rfl) X.env)) (ns.cons ns2 X.env)
  refine (pe_callB call_isi (gl_ok O hg) hm (by rw [hx]; decide +kernel) hp (by rw [hx]; decide) (by rw [hx]; decide) (ns.cons ns2 X.env) (ns2.any _ _)).imp fun σ H Q ⟨w, env, st, hE, hS, h⟩ => ?_
  refine rdE_seq hE hS h fun w1 v x1 st1 H1 l1 hE1 hS1 rv h1 => ?_
  obtain ⟨z, e, q⟩ := h1.of
  obtain ⟨b, e2, rfl⟩ := Option.map_eq_some_iff.mp e
  obtain ⟨n, hn, hi⟩ := isTs_ty e2
  have hk := isTs_any O.lk.isa hn hi e2
  refine ⟨x1, _, _, tyVal X.K t, b, rfl, clsV_ok X.K t, ty_rel O hS1 rv hn hi, ?_, q w1 H1 (Le.refl _) hS1 _ rfl⟩
  unfold PySem.W.kitAny at hk
  simp only [List.map_cons, List.map_nil] at hk
  cases e3 : PySem.W.kitOne X.K (tyVal X.K n) (tyVal X.K t) with
  | none => rw [e3] at hk; cases hk
  | some c =>
    rw [e3] at hk
    cases c with
    | true => exact hk
    | false => exact hk
inductive ClsL (P : Prog) (sc : Sco) : List Expr → List Str → Prop
  | nil : ClsL P sc [] []
  | cons {t : Str} {p : Pos} {es : List Expr} {ts : List Str} (h : clsOk P sc t = true) (ns : NoStar (.Name t p :: es)) (ns2 : NoStar es) (r : ClsL P sc es ts) : ClsL P sc (.Name t p :: es) (t :: ts)
theorem pa_cls (O : OkX P Φ fa k N sc W X Bz) {es : List Expr} {ts : List Str} (h : ClsL P sc es ts) : PA X es fun _ H Q => Q (ts.map (clsV X.K)) H := by
  induction h with
  | nil => exact pa_nil
  | cons h ns ns2 r ih => exact (pa_cons (pe_cls O h) ih (ns.cons ns2 _)).imp fun σ H Q q => q
theorem snd_isinT (O : OkX P Φ fa k N sc W X Bz) {a : Expr} {ma : ME} {es : List Expr} {t : Str} {ts : List Str} {x : Str} {n1 : Nat} {p p1 pos : Pos} (hx : x = "isinstance") (hg : isGl sc x = true) (hc : ClsL P sc es (t :: ts)) (ns : NoStar [a, .Tuple es n1 p1]) (ns2 : NoStar [.Tuple es n1 p1]) (hl : ts.length < 1000) (ha : PE X a (rdE P Φ ⟨X.K, Bz⟩ W ma)) :
    PE X (.Call (.Name x p) [a, .Tuple es n1 p1] [] pos) (rdE P Φ ⟨X.K, Bz⟩ W (.isin ma (t :: ts))) := by
  have hm : X.mg x = none := by rw [hx]; exact O.lk.bi "isinstance" (by decide)
  have hp := pa_cons ha (pa_cons (pe_tup (pos := p1) (pa_cls O hc)) pa_nil (NoStar.cons ns2 (fun _ => rfl) X.env)) (ns.cons ns2 X.env)
  refine (pe_callB call_isiT (gl_ok O hg) hm (by rw [hx]; decide +kernel) hp (by rw [hx]; decide) (by rw [hx]; decide) (ns.cons ns2 X.env) (ns2.any _ _)).imp fun σ H Q ⟨w, env, st, hE, hS, h⟩ => ?_
  refine rdE_seq hE hS h fun w1 v x1 st1 H1 l1 hE1 hS1 rv h1 => ?_
  obtain ⟨z, e, q⟩ := h1.of
  obtain ⟨b, e2, rfl⟩ := Option.map_eq_some_iff.mp e
  obtain ⟨n, hn, hi⟩ := isTs_ty e2
  have hk := isTs_any O.lk.isa hn hi e2
  refine ⟨by rw [List.length_map, List.length_cons, sizeLine_eq]; omega, fun p hp => ?_⟩
  have le := RS.freeze_le (o := HO.tup ((t :: ts).map (clsV X.K))) hS1 hp
  have hS2 := RS.freeze (o := HO.tup ((t :: ts).map (clsV X.K))) hS1 hp
  refine ⟨x1, p, _, tyVal X.K n, (t :: ts).map (tyVal X.K), b, rfl, upd_same, ?_, ty_rel O hS2 (RV.mono le v rv) hn hi, hk, q _ _ le hS2 _ rfl⟩
  generalize t :: ts = l
  induction l with
  | nil => exact .nil
  | cons a r ih => exact .cons (clsV_ok X.K a) ih
end
end Mp
end
section
set_option Elab.async false
set_option linter.all false
set_option maxRecDepth 100000
set_option maxHeartbeats
                         1000000
namespace Mp
open PySem L2 PySem.Spec PyProof.Rows
section
variable {P : Prog} {Φ : Cal} {fa : Str → Addr} {k : Nat} {N : List Str} {sc : Sco} {W : WX} {X : Cx} {Bz : Zs} {w : Wd} {st : Store} {H : Hp} {pins : List (Addr × Obj)} {σ : L2.St} {s : Shared} {Q : VK}
theorem noErr_post {K : KZ} {w : Wd} {r : R Val} {A : Wd → Val → Store → Hp → Prop} (h : Post K w (noErr r) A fun _ _ _ => False) : Post K w r A fun _ _ _ => False := by
  cases r with
  | ok v st => exact h
  | err _ _ _ _ => exact h.elim
  | stuck => exact h.elim
def Ran (X : Cx) (pins : List (Addr × Obj)) (σ : L2.St) (kk : Val → Store → R Val) (Q : VK) (u : Value) (s' : Shared) : Prop := ∃ v y w' st' H', L2.Inv X pins σ H' s' ∧ RelV y u ∧ RV ⟨X.K, Bz⟩ w' v y ∧ RS ⟨X.K, Bz⟩ w' st' H' ∧ Post ⟨X.K, Bz⟩ w' (kk v st') (AV ⟨X.K, Bz⟩ Q) fun _ _ _ => False
theorem spec_run (O : OkX P Φ fa k N sc W X Bz) {A : Around} {g : Str} {vs : List Val} {xs : List V} {us : List Value} {kk : Val → Store → R Val} {E : Value → Shared → Prop} (hr : Room k A) (h0 : Env0 X.prog X.w X.K X.mg X.base A X.stack s H) (I : L2.Inv X pins σ H s) (hS : RS ⟨X.K, Bz⟩ w st H) (rv : RVs ⟨X.K, Bz⟩ w vs xs) (r : Vals xs us)
    (h : Post ⟨X.K, Bz⟩ w ((specM P Φ g vs st).then_ kk) (AV ⟨X.K, Bz⟩ Q) fun _ _ _ => False) : wpAny (model X.prog X.w) A (PySem.call (.ref (fa g)) us) (Ran (Bz := Bz) X pins σ kk Q) E s := by
  have h1 : Post ⟨X.K, Bz⟩ w (specM P Φ g vs st) (fun w' v st' H' => Post ⟨X.K, Bz⟩ w' (kk v st') (AV ⟨X.K, Bz⟩ Q) fun _ _ _ => False) fun _ _ _ => False := h.seq.imp fun w' v st' H' l s q => q
  unfold specM callM at h1
  cases e : P.bind g vs.length [] with
  | none => rw [e] at h1; exact h1.elim
  | some tp =>
    rw [e] at h1
    simp only at h1
    cases e2 : srcs vs [] tp with
    | none => rw [e2] at h1; exact h1.elim
    | some args =>
      rw [e2] at h1
      have h2 := noErr_post h1
      have h3 : Post ⟨X.K, Bz⟩ w (finish .pure st (Φ g args st)) (AV ⟨X.K, Bz⟩ fun y H' => ∃ w' v st', RV ⟨X.K, Bz⟩ w' v y ∧ RS ⟨X.K, Bz⟩ w' st' H' ∧ Post ⟨X.K, Bz⟩ w' (kk v st') (AV ⟨X.K, Bz⟩ Q) fun _ _ _ => False) fun _ _ _ => False :=
        h2.imp fun w' v st' H' l s q x rx => ⟨w', v, st', rx, s, q⟩
      have C := (O.lk.fn g _ [] tp e).1
      refine wpAny_call (codeAny_mono (C A X.stack s H us [] xs [] _ (fun _ _ _ => False) hr h0 r .nil ⟨w, st, vs, [], args, hS, rv, RVs.nil, rfl, rfl, e2, finish_ok hS h3⟩) fun r s' hq => ?_)
      cases r with
      | error er =>
        obtain ⟨_, _, _, _, _, _, _, _, _, _, _, _, z⟩ := hq
        exact z.elim
      | ok fl =>
        cases fl with
        | ret u =>
          obtain ⟨y, H', I3, ry, w', v, st', rv', s', q3⟩ := I.after hq
          exact ⟨v, y, w', st', H', I3, ry, rv', s', q3⟩
        | next => exact False.elim hq
        | brk => exact False.elim hq
        | cont => exact False.elim hq
def rOwn1 (P : Prog) (Φ : Cal) (K : KZ) (len : Bool) : List V → Hp → VK → Prop := fun xs H Q => ∃ w st v x, xs = [x] ∧ RS K w st H ∧ RV K w v x ∧ Post K w (own1M P Φ len v st) (AV K Q) fun _ _ _ => False
theorem own1_parts (O : OkX P Φ fa k N sc W X Bz) {len : Bool} {v : Val} {x : V} (hS : RS ⟨X.K, Bz⟩ w st H) (rv : RV ⟨X.K, Bz⟩ w v x) (h : Post ⟨X.K, Bz⟩ w (own1M P Φ len v st) (AV ⟨X.K, Bz⟩ Q) fun _ _ _ => False) :
    ∃ c g p dx fs, x = .ref p ∧ H p = some (.ins (cA X.K c) dx fs) ∧ Meth X.K (cA X.K c) (name1 len) (fa g) ∧ Post ⟨X.K, Bz⟩ w ((specM P Φ g [v] st).then_ (back1 len)) (AV ⟨X.K, Bz⟩ Q) fun _ _ _ => False := by
  unfold own1M at h
  cases hi : insOf st v with
  | none => rw [hi] at h; exact h.elim
  | some z =>
    obtain ⟨c, ns, ws⟩ := z
    rw [hi] at h
    simp only at h
    split at h
    · rename_i hc
      cases hg : P.meth c (name1 len) with
      | none => rw [hg] at h; exact h.elim
      | some g =>
        rw [hg] at h
        obtain ⟨p, dx, fs, rfl, hp, _, _⟩ := insOf_rel (O.lk.nd hc) hS rv hi
        exact ⟨c, g, p, dx, fs, rfl, hp, O.lk.me c (name1 len) g hg hc, h⟩
    · exact h.elim
theorem inst_of (I : L2.Inv X pins σ H s) {p dx : Addr} {fs : List (Str × V)} {C : Addr} (hp : H p = some (.ins C dx fs)) : ∃ ox od, PySem.W.InstAt s.heap p ox C od := by
  obtain ⟨mA, OO, _, _, _, _⟩ := ins_get I.hok hp
  obtain ⟨od, J, _⟩ := OO.look
  exact ⟨_, _, J⟩
theorem call_len1 (O : OkX P Φ fa k N sc W X Bz) : CallR X (.builtin "len") (rOwn1 P Φ ⟨X.K, Bz⟩ true) := by
  intro pins s σ H xs us Q I r
                               h
  obtain ⟨w, st, v, x, rfl, hS, rv, h⟩ := h
  obtain ⟨c, g, p, dx, fs, rfl, hp, M, h1⟩ := own1_parts O hS rv h
  obtain ⟨u, rfl, ru⟩ := vals1
                               r
  obtain rfl : u = Value.ref p :=
                                  ru
  obtain ⟨ox, od, J⟩ := inst_of I hp
  refine Calls.call_function_entry kind_len plain_len entry_len (args_len1 _)
                                                                              ?_
  unfold Builtin.«len»
  refine wpAny_bind (m := PySem.oneArg "len" _) (wpAny_pure ?_)
  refine wpAny_bind (m := callSpecial? (.ref p) (Str.ofString "__len__")) (PySem.W.special_fn I.kIn J M.at_ (beq_iff_eq.mp M.fn) (wpAny_mono (spec_run O (O.room.mono (by omega)).in1 I.env0.in1 I hS (RVs.cons rv RVs.nil) (.cons rfl .nil) h1) (fun r s' hr => ?_) fun _ _ y => y))
  obtain ⟨v', y', w', st', H', I', ry, rv', hS', q⟩ := hr
  cases v' with
  | int n =>
    cases (show y' = .int n from rv')
    obtain ⟨t, rfl⟩ := (show ∃ t, r = Value.int n t from ry)
    replace q : Post ⟨X.K, Bz⟩ w' (if 0 ≤ n ∧ n < 9223372036854775808 then R.ok (Val.int n) st' else .stuck) (AV ⟨X.K, Bz⟩ Q) fun _ _ _ => False := q
    split at q
    · rename_i hn
      refine wpAny_bind (wpAny_holding (wpAny_pure
                                                   ?_))
      refine wpAny_bind (wpAny_letGo
                                     ?_)
      show wpAny _ _ (if n < 0 then _ else _) _ _
                                                  _
      rw [if_neg (by omega)]
      show wpAny _ _ (if n ≥ 2 ^ 63 then _ else _) _ _
                                                       _
      rw [if_neg (by omega)]
      exact wpAny_bind (wpAny_mkInt (wpAny_pure ⟨_, rfl, .int n, H', I'.tok _, ⟨_, rfl⟩, q w' H' (Le.refl _) hS' _ rfl⟩))
    · exact q.elim
  | _ => exact q.elim
theorem call_repr1 (O : OkX P Φ fa k N sc W X Bz) : CallR X (.builtin "repr") (rOwn1 P Φ ⟨X.K, Bz⟩ false) := by
  intro pins s σ H xs us Q I r
                               h
  obtain ⟨w, st, v, x, rfl, hS, rv, h⟩ := h
  obtain ⟨c, g, p, dx, fs, rfl, hp, M, h1⟩ := own1_parts O hS rv h
  obtain ⟨u, rfl, ru⟩ := vals1
                               r
  obtain rfl : u = Value.ref p :=
                                  ru
  obtain ⟨ox, od, J⟩ := inst_of I hp
  have hu : X.A.in1.units < cLine := by
    have := (O.room.in1).un
    omega
  refine Calls.call_function_entry PySem.F.kind_repr PySem.F.plain_repr PySem.F.entry_repr (PySem.F.args_repr1 _)
                                                                                                                  ?_
  unfold Builtin.«repr»
  refine wpAny_bind (m := PySem.oneArg "repr" _) (wpAny_pure ?_)
  refine wpAny_bind (wpAny_cRoomFor hu
                                       ?_)
  refine wpAny_bind (wpAny_bind (J.type.here ((PySem.W.looks_findIn I.kIn M.at_).here ?_)))
  show wpAny _ _ (if (some (Value.ref (fa g))).isNone = true then _ else _) _ _ _
  rw [if_neg (by simp)]
  refine wpAny_bind (m := callSpecialIfBound? (.ref p) (Str.ofString "__repr__") _) (PySem.W.ifBound_K I.kIn J M.at_ M.fn (wpAny_mono (spec_run O (O.room.mono (by omega)).in1 I.env0.in1 I hS (RVs.cons rv RVs.nil) (.cons rfl .nil) h1) (fun r s' hr => ?_) fun _ _ y => y))
  obtain ⟨v', y', w', st', H', I', ry, rv', hS', q⟩ := hr
  cases v' with
  | str z =>
    obtain ⟨rfl, sz⟩ := rv'
    obtain ⟨t, rfl⟩ := (show ∃ t, r = Value.str z t from ry)
    have done : EP X pins σ Q (.str z t) s' := ⟨.str z, H', I', ⟨_, rfl⟩, q w' H' (Le.refl _) hS' _ ⟨rfl, sz⟩⟩
    refine wpAny_bind (wpAny_isInstance (typeIs_str _ _ _) isSubtype_str_str
                                                                             ?_)
    first
      | exact wpAny_pure ⟨_, rfl, done⟩
      | (rw [if_pos rfl]; exact wpAny_pure ⟨_, rfl, done⟩)
      | (simp only [if_true]; exact wpAny_pure ⟨_, rfl, done⟩)
  | _ => exact q.elim
def rOwn2 (P : Prog) (Φ : Cal) (K : KZ) (ne : Bool) : V → V → Hp → VK → Prop := fun x y H Q => ∃ w st a b, RS K w st H ∧ RV K w a x ∧ RV K w b y ∧ Post K w (own2M P Φ ne a b st) (AV K Q) fun _ _ _ => False
theorem rich_of {op : CmpOp} {x C : Addr} {ox : Obj} {od : Option Obj} {K : PySem.W.Frag} {b tb : Value} {A : Around} {E : Value → Shared → Prop} {prog : Program} {ww : World} {R : Value → Shared → Prop} (hu : A.units < cLine) (kin : K.In s.heap) (J : PySem.W.InstAt s.heap x ox C od) (hb : PySem.W.Looks (model prog ww) s.heap (typeOf b) tb) (hn : PySem.W.notFirst K C tb = true)
    (one : wpAny (model prog ww) A (tryCompare (.ref x) (cmpInfo op).2.1 b) (fun r s' => ∃ v, r = some v ∧ R v s') E s) : wpAny (model prog ww) A (richCompare op (.ref x) b) R E s := by
  unfold richCompare
  simp only [oneThing_ref]
  refine wpAny_holding (wpAny_bind (wpAny_cRoomFor hu
                                                      ?_))
  refine wpAny_bind (J.type.here (wpAny_bind (hb.here ?_)))
  split
  · rename_i q
    have e : PySem.W.subIn K tb (.ref C) = some false := by
      rcases Bool.or_eq_true_iff.mp hn with e |
                                                e
      · rw [beq_iff_eq.mp e] at q; simp at
                                           q
      · exact beq_iff_eq.mp e
    refine wpAny_bind ((PySem.W.looks_subIn kin e).here ?_)
    simp only [Bool.false_eq_true,
                                   if_false]
    refine wpAny_bind (wpAny_mono one (fun r s' z => ?_) fun _ _ e =>
                                                                      e)
    obtain ⟨v, rfl, hq⟩ := z
    exact wpAny_pure hq
  · refine wpAny_bind (wpAny_pure
                                  ?_)
    simp only [Bool.false_eq_true,
                                   if_false]
    refine wpAny_bind (wpAny_mono one (fun r s' z => ?_) fun _ _ e =>
                                                                      e)
    obtain ⟨v, rfl, hq⟩ := z
    exact wpAny_pure hq
theorem try_eq {x C f : Addr} {ox : Obj} {od : Option Obj} {K : PySem.W.Frag} {b : Value} {A : Around} {E : Value → Shared → Prop} {prog : Program} {ww : World} {R : Value → Shared → Prop} (kin : K.In s.heap) (J : PySem.W.InstAt s.heap x ox C od) (M : Meth K C "__eq__" f)
    (h : wpAny (model prog ww) A (PySem.call (.ref f) [.ref x, b]) (fun v s' => ∃ z, v = .bool z ∧ R (.bool z) s') E s) : wpAny (model prog ww) A (tryCompare (.ref x) "__eq__" b) (fun r s' => ∃ v, r = some v ∧ R v s') E s := by
  unfold tryCompare
  refine wpAny_bind (PySem.W.ifBound_K kin J M.at_ M.fn (wpAny_mono h (fun v s' hv => ?_) fun _ _ e => e))
  obtain ⟨z, rfl, hz⟩ := hv
  exact wpAny_pure ⟨_, rfl, hz⟩
theorem ne_bound {x C : Addr} {ox : Obj} {od : Option Obj} {K : PySem.W.Frag} {args : List Value} {A : Around} {E : Value → Shared → Prop} {M : Model} {R : Option Value → Shared → Prop} (kin : K.In s.heap) (J : PySem.W.InstAt s.heap x ox C od) (hs : PySem.W.findIn K (.ref C) "__ne__" = some (some (.builtin "object.__ne__")))
    (h : wpAny M A (PySem.call (.builtin "object.__ne__") (.ref x :: args)) (fun v => R (some v)) E s) : wpAny M A (callSpecialIfBound? (.ref x) "__ne__" args) R E s := by
  simp only [callSpecialIfBound?,
                                  bindSpecialIfBound?]
  refine wpAny_holding (wpAny_bind (wpAny_bind (wpAny_bind (J.type.here ((PySem.W.looks_findIn kin hs).here ?_)))))
  simp only [PySem.F.cmp_object.ne.bind]
  refine wpAny_bind (wpAny_askSetting (wpAny_ite
                                                 ?_))
  have fin : wpAny M A (PySem.call (.builtin "object.__ne__") ([.ref x] ++ args) >>= fun v => pure (some v)) R E s := wpAny_bind (wpAny_mono h (fun v s' h' => wpAny_pure h') fun _ _ h' => h')
  split
  · exact wpAny_bind (wpAny_pure (wpAny_pure
                                             fin))
  · exact wpAny_tryCatch (wpAny_bind (wpAny_pure (wpAny_pure
                                                             fin)))
theorem ne_check {x C : Addr} {ox : Obj} {od : Option Obj} {K : PySem.W.Frag} {b : Value} {A : Around} {E : Value → Shared → Prop} {M : Model} {R : Unit → Shared → Prop} (kin : K.In s.heap) (J : PySem.W.InstAt s.heap x ox C od) (hm : PySem.W.mroIn K C (.type "object") = some true) (hq : R () s) :
    wpAny M A (checkBuiltinCall "object.__ne__" ⟨[.ref x, b], []⟩) R E s := by
  simp only [checkBuiltinCall, PySem.F.cmpKind_ne, PySem.F.cmpSplit_ne]
  have ha := PySem.F.cmpArgs_ne (.ref x) b
  refine wpAny_bind ?_
  unfold isInstance
  refine wpAny_bind (J.type.here ((PySem.W.looks_mroIn kin hm).here ?_))
  cases hsig : Manifest.signature? "object.__ne__" with
  | none => exact wpAny_pure hq
  | some sig =>
    simp only [argsOk, hsig] at
                                ha
    have h2 : Bind.checkArgs "object.__ne__" sig ⟨[.ref x, b], []⟩ = pure () := ha
    show wpAny M A (Bind.checkArgs "object.__ne__" sig ⟨[.ref x, b], []⟩) R E _
    rw [h2]
    exact wpAny_pure hq
theorem try_ne {x C f : Addr} {ox : Obj} {od : Option Obj} {K : PySem.W.Frag} {b : Value} {A : Around} {E : Value → Shared → Prop} {prog : Program} {ww : World} {R : Value → Shared → Prop} (hu : A.units + 1 < cLine) (kin : K.In s.heap) (J : PySem.W.InstAt s.heap x ox C od) (M : Meth K C "__eq__" f)
    (hs : PySem.W.findIn K (.ref C) "__ne__" = some (some (.builtin "object.__ne__"))) (hm : PySem.W.mroIn K C (.type "object") = some true)
    (h : wpAny (model prog ww) A.in1 (PySem.call (.ref f) [.ref x, b]) (fun v s' => ∃ z, v = .bool z ∧ R (.bool !z) s') E s) : wpAny (model prog ww) A (tryCompare (.ref x) "__ne__" b) (fun r s' => ∃ v, r = some v ∧ R v s') E s := by
  unfold tryCompare
  refine wpAny_bind (ne_bound kin J hs (wpAny_call (codeAny_call_builtin PySem.F.cmp_object.ne.plain PySem.F.cmpEntry_ne (ne_check kin J hm ?_))))
  unfold
         Builtin.«object.__ne__»
  repeat (first
    | with_reducible refine wpAny_cRoomFor hu
                                              ?_
    | (refine wpAny_bind (m := callSpecialIfBound? (.ref x) (Str.ofString "__eq__") [b])
        (PySem.W.ifBound_K kin J M.at_ M.fn (wpAny_mono h (fun r s' hr => by
          obtain ⟨z, rfl, hq⟩ := hr
          repeat (first | exact ⟨_, rfl, hq⟩ | exact wpAny_pure ⟨_, rfl, hq⟩ | (refine wpAny_bind (m := truthy (.bool _)) (wpAny_truthy_bool ?_)) | wp_step)) fun _ _ e => e)))
    | wp_step)
theorem beside_ok (O : OkX P Φ fa k N sc W X Bz) {c : Str} {b : Val} {y : V} {u : Value} (hc : P.isc c = true) (I : L2.Inv X pins σ H s) (hS : RS ⟨X.K, Bz⟩ w st H) (rb : RV ⟨X.K, Bz⟩ w b y) (ry : RelV y u) (h : besideB P c st b = true) :
    ∃ tb, PySem.W.Looks (model X.prog X.w) s.heap (typeOf u) tb ∧ PySem.W.notFirst X.K (cA X.K c) tb = true := by
  unfold besideB at h
  cases hn : tyN st b with
  | none => rw [hn] at h; cases h
  | some n =>
    rw [hn] at h
    simp only [Bool.and_eq_true, Bool.or_eq_true, Bool.not_eq_true', decide_eq_true_eq] at h
    obtain ⟨h1, h2⟩ := h
    have ty := ty_rel O hS rb hn h1
    obtain ⟨R, Z, p, _⟩ := kit_of I ry ty
    refine ⟨_, Z.ty _ _ I.kIn p, ?_⟩
    have ec : tyVal X.K c = .ref (cA X.K c) := by
      unfold tyVal
      rw [(O.lk.gc c hc).2.2]
    unfold PySem.W.notFirst
    rcases h2 with rfl | h2
    · rw [ec]
      simp
    · have k1 := O.lk.isa n c false h2
      rw [ec] at k1
      unfold PySem.W.kitOne at k1
      split at k1
      · cases k1
      · unfold PySem.W.kitCls at k1
        simp only at k1
        split at k1
        · rw [k1]
          simp
        · cases k1
theorem op_own2 (O : OkX P Φ fa k N sc W X Bz) (ne : Bool) : OpR X (compareOp (pycop (if ne = true then .ne else .eq))) (rOwn2 P Φ ⟨X.K, Bz⟩ ne) := by
  intro pins s σ H x y v u Q I rx ry
                                     h
  obtain ⟨w, st, a, b, hS, ra, rb, h⟩ := h
  have hu := units64 O
  unfold own2M at h
  cases hi : insOf st a with
  | none => rw [hi] at h; exact h.elim
  | some z =>
    obtain ⟨c, ns, ws⟩ := z
    rw [hi] at h
    simp only at h
    split at h
    · rename_i hcb
      obtain ⟨hc, hb⟩ := hcb
      cases hg : P.meth c "__eq__" with
      | none => rw [hg] at h; exact h.elim
      | some g =>
        rw [hg] at h
        obtain ⟨p, dx, fs, rfl, hp, _, _⟩ := insOf_rel (O.lk.nd hc) hS ra hi
        obtain rfl : v = Value.ref p :=
                                        rx
        obtain ⟨ox, od, J⟩ := inst_of I hp
        obtain ⟨tb, hl, hn⟩ := beside_ok O hc I hS rb ry hb
        have M := O.lk.me c "__eq__" g hg hc
        have hs := O.lk.ne c g hg hc
        have hm := (O.lk.ty c hc).hm
        have back : ∀ {r : Value} {s' : Shared}, Ran (Bz := Bz) X pins σ (back2 ne) Q r s' → ∃ z, r = .bool z ∧ EP X pins σ Q (.bool (xor ne z)) s' := by
          intro r s' hr
          obtain ⟨v', y', w', st', H', I', ry', rv', hS', q⟩ := hr
          cases v' with
          | bl z =>
            cases (show y' = .bl z from rv')
            cases (show r = Value.bool z from ry')
            exact ⟨z, rfl, .bl (xor ne z), H', I', rfl, q w' H' (Le.refl _) hS' _ rfl⟩
          | _ => exact q.elim
        cases ne with
        | false =>
          show wpAny _ _ (richCompare .Eq (.ref p) u) _ _ _
          refine rich_of (by omega) I.kIn J hl hn ?_
          exact try_eq I.kIn J M (wpAny_mono (spec_run O (O.room.mono (by omega)) I.env0 I hS (RVs.cons ra (RVs.cons rb RVs.nil)) (.cons rfl (.cons ry .nil)) h) (fun r s' hr => by
            obtain ⟨z, e, q⟩ := back hr
            rw [Bool.false_xor] at q
            exact ⟨z, e, q⟩) fun _ _ e => e)
        | true =>
          show wpAny _ _ (richCompare .NotEq (.ref p) u) _ _ _
          refine rich_of (by omega) I.kIn J hl hn ?_
          exact try_ne (by omega) I.kIn J M hs hm (wpAny_mono (spec_run O (O.room.mono (by omega)).in1 I.env0.in1 I hS (RVs.cons ra (RVs.cons rb RVs.nil)) (.cons rfl (.cons ry .nil)) h) (fun r s' hr => by
            obtain ⟨z, e, q⟩ := back hr
            rw [Bool.true_xor] at q
            exact ⟨z, e, q⟩) fun _ _ e => e)
    · exact h.elim
theorem noErr_of {K : KZ} {w : Wd} {r : R Val} {A : Wd → Val → Store → Hp → Prop} {B : XK} (hr : ∀ c ns vs st, r ≠ .err c ns vs st) (h : Post K w r A B) : Post K w r A fun _ _ _ => False := by
  cases r with
  | ok v st => exact h
  | err c ns vs st => exact absurd rfl (hr c ns vs st)
  | stuck => exact h.elim
theorem specM_ne (g : Str) (vs : List Val) (st : Store) {kk : Val → Store → R Val} (hk : ∀ v st c ns vs st', kk v st ≠ .err c ns vs st') : ∀ c ns us st', ((specM P Φ g vs st).then_ kk) ≠ .err c ns us st' := by
  intro c ns us st' h
  unfold specM at h
  cases e : callM P Φ .pure g [] vs [] st with
  | ok v st1 => rw [e] at h; exact hk _ _ _ _ _ _ h
  | err _ _ _ _ => rw [e] at h; cases h
  | stuck => rw [e] at h; cases h
theorem back1_ne (len : Bool) (v : Val) (st : Store) : ∀ c ns vs st', back1 len v st ≠ .err c ns vs st' := by
  intro c ns vs st' h
  unfold back1 at h
  split at h
  · split at h <;> cases h
  · cases h
  · cases h
theorem back2_ne (ne : Bool) (v : Val) (st : Store) : ∀ c ns vs st', back2 ne v st ≠ .err c ns vs st' := by
  intro c ns vs st' h
  unfold back2 at h
  split at h <;> cases h
theorem own1M_ne (len : Bool) (v : Val) (st : Store) : ∀ c ns vs st', own1M P Φ len v st ≠ .err c ns vs st' := by
  intro c ns vs st' h
  unfold own1M at h
  split at h
  · split at h
    · split at h
      · exact specM_ne _ _ _ (back1_ne len) _ _ _ _ h
      · cases h
    · cases h
  · cases h
theorem own2M_ne (ne : Bool) (a b : Val) (st : Store) : ∀ c ns vs st', own2M P Φ ne a b st ≠ .err c ns vs st' := by
  intro c ns vs st' h
  unfold own2M at h
  split at h
  · split at h
    · split at h
      · exact specM_ne _ _ _ (back2_ne ne) _ _ _ _ h
      · cases h
    · cases h
  · cases h
theorem snd_own1 (O : OkX P Φ fa k N sc W X Bz) {len : Bool} {x : Str} {p pos : Pos} {a : Expr} {ma : ME} (hx : x = if len = true then "len" else "repr") (hg : isGl sc x = true) (ns : NoStar [a]) (ha : PE X a (rdE P Φ ⟨X.K, Bz⟩ W ma)) : PE X (.Call (.Name x p) [a] [] pos) (rdE P Φ ⟨X.K, Bz⟩ W (.own1 len ma)) := by
  have n0 : NoStar [] := fun _ => rfl
  have hp := pa_cons ha pa_nil (ns.cons n0 X.env)
  have tail : ∀ σ H Q, rdE P Φ ⟨X.K, Bz⟩ W (.own1 len ma) σ H Q → tCB (rOwn1 P Φ ⟨X.K, Bz⟩ len) (tCons (rdE P Φ ⟨X.K, Bz⟩ W ma) tNil) σ H Q := fun σ H Q ⟨w, env, st, hE, hS, h⟩ =>
    rdE_seq hE hS h fun w1 v x1 st1 H1 l1 hE1 hS1 rv h1 => ⟨w1, st1, v, x1, rfl, hS1, rv, noErr_of (own1M_ne len v st1) h1⟩
  cases len with
  | true =>
    replace hx : x = "len" := hx
    have hm : X.mg x = none := by rw [hx]; exact O.lk.bi "len" (by decide)
    exact (pe_callB (call_len1 O) (gl_ok O hg) hm (by rw [hx]; decide +kernel) hp (by rw [hx]; decide) (by rw [hx]; decide) (ns.cons n0 X.env) (n0.any _ _)).imp tail
  | false =>
    replace hx : x = "repr" := hx
    have hm : X.mg x = none := by rw [hx]; exact O.lk.bi "repr" (by decide)
    exact (pe_callB (call_repr1 O) (gl_ok O hg) hm (by rw [hx]; decide +kernel) hp (by rw [hx]; decide) (by rw [hx]; decide) (ns.cons n0 X.env) (n0.any _ _)).imp tail
theorem snd_lcopy (O : OkX P Φ fa k N sc W X Bz) {x : Str} {p pos : Pos} {a : Expr} {ma : ME} (hx : x = "list") (hg : isGl sc x = true) (ns : NoStar [a]) (ha : PE X a (rdE P Φ ⟨X.K, Bz⟩ W ma)) : PE X (.Call (.Name x p) [a] [] pos) (rdE P Φ ⟨X.K, Bz⟩ W (.lcopy ma)) := by
  have n0 : NoStar [] := fun _ => rfl
  have hp := pa_cons ha pa_nil (ns.cons n0 X.env)
  have hm : X.mg x = none := by rw [hx]; exact O.lk.bi "list" (by decide)
  refine (pe_callTy call_list_of (gl_ok O hg) hm (by rw [hx]; decide +kernel) hp (by rw [hx]; decide) (by rw [hx]; decide) (ns.cons n0 X.env) (n0.any _ _)).imp fun σ H Q ⟨w, env, st, hE, hS, h⟩ => ?_
  refine rdE_seq hE hS h fun w1 v x1 st1 H1 l1 hE1 hS1 rv h1 => ?_
  cases e : seqOf st1 v with
  | none => rw [e] at h1; exact h1.elim
  | some vs =>
    rw [e] at h1
    obtain ⟨q, xs, rfl, hq, hz, rr⟩ := seqOf_rel hS1 rv e
    refine ⟨q, xs, rfl, hq, fun l hl => ?_⟩
    have s2 := hS1.push (H' := upd H1 l (.lst xs)) (s := .lst vs) hl (fun q n _ => upd_ne n) ⟨xs, upd_same, hz, RVs.mono (RS.push_le l) _ rr⟩
    refine h1 _ _ (RS.push_le l) s2 _ ⟨l, rfl, ?_⟩
    show (w1.e ++ [l])[st1.length]? = some l
    rw [← hS1.len]; simp
theorem snd_own2 (O : OkX P Φ fa k N sc W X Bz) {ne : Bool} {o : CmpOp} {a b : Expr} {ma mb : ME} {pos : Pos} (ho : o = pycop (if ne = true then .ne else .eq)) (hm : behindInMarks o b = false) (ha : PE X a (rdE P Φ ⟨X.K, Bz⟩ W ma)) (hb : PE X b (rdE P Φ ⟨X.K, Bz⟩ W mb)) : PE X (.Compare a [o] [b] pos) (rdE P Φ ⟨X.K, Bz⟩ W (.own2 ne ma mb)) := by
  subst ho
  refine (pe_cmpR (op_own2 O ne) ha hb hm).imp fun σ H Q ⟨w, env, st, hE, hS, h⟩ => ?_
  refine rdE_seq hE hS h fun w1 v x st1 H1 l1 hE1 hS1 rv h1 => ?_
  refine rdE_seq hE1 hS1 h1 fun w2 u y st2 H2 l2 hE2 hS2 ru h2 => ?_
  exact ⟨w2, st2, v, u, hS2, RV.mono l2 v rv, ru, noErr_of (own2M_ne ne v u st2) h2⟩
theorem snd_own2T (O : OkX P Φ fa k N sc W X Bz) {ne : Bool} {o : CmpOp} {a b : Expr} {ma mb : ME} {pos : Pos} (ho : o = pycop (if ne = true then .ne else .eq)) (hm : behindInMarks o b = false) (ha : PE X a (rdE P Φ ⟨X.K, Bz⟩ W ma)) (hb : PE X b (rdE P Φ ⟨X.K, Bz⟩ W mb)) : PT X (.Compare a [o] [b] pos) (rdT P Φ ⟨X.K, Bz⟩ W (.own2 ne ma mb)) := by
  subst ho
  refine (pt_cmpR (op_own2 O ne) ha hb hm).imp fun σ H Q ⟨w, env, st, hE, hS, h⟩ => ?_
  replace h := asB_post (show Post ⟨X.K, Bz⟩ w (asB _) _ _ from h)
  refine rdE_seq hE hS h fun w1 v x st1 H1 l1 hE1 hS1 rv h1 => ?_
  refine rdE_seq hE1 hS1 h1 fun w2 u y st2 H2 l2 hE2 hS2 ru h2 => ?_
  refine ⟨w2, st2, v, u, hS2, RV.mono l2 v rv, ru, noErr_of (own2M_ne ne v u st2) (h2.imp fun w' z st' H' l s ⟨b, e, q⟩ x rx => ?_)⟩
  subst e
  exact ⟨b, rx, q⟩
end
end Mp
end
section
set_option Elab.async false
set_option linter.all false
set_option maxRecDepth 100000
set_option maxHeartbeats
                         1000000
namespace Mp
open PySem L2 PySem.Spec PyProof.Rows
structure LeR (w w' : Wd) : Prop where
  F : ∀ p o, w.F p = some o → w'.F p = some o
  e : ∀ (i : Nat) (p : Addr), w.e[i]? = some p → w'.e[i]? = some p
theorem Le.r {w w' : Wd} (l : Le w w') : LeR w w' := ⟨l.F, l.e⟩
theorem LeR.refl (w : Wd) : LeR w w := ⟨fun _ _ h => h, fun _ _ h => h⟩
theorem LeR.trans {a b c : Wd} (h : LeR a b) (k : LeR b c) : LeR a c := ⟨fun p o q => k.F p o (h.F p o q), fun i p q => k.e i p (h.e i p q)⟩
theorem RV.monoR {K : KZ} {w w' : Wd} (l : LeR w w') (v : Val) {x : V} (r : RV K w v x) : RV K w' v x := RV.back (w := w) (w' := w) (w'' := w') l.F (fun i _ q _ h => l.e i q h) v r r
theorem RVs.monoR {K : KZ} {w w' : Wd} (l : LeR w w') (v : List Val) {x : List V} (r : RVs K w v x) : RVs K w' v x := RVs.back (w := w) (w' := w) (w'' := w') l.F (fun i _ q _ h => l.e i q h) v r r
theorem RE.monoR {K : KZ} {w w' : Wd} (l : LeR w w') {env : Env} {σ : L2.St} (h : RE K w env σ) : RE K w' env σ := ⟨h.1, fun i v e => by
  obtain ⟨x, e1, r⟩ := h.2 i v e
  exact ⟨x, e1, RV.monoR l v r⟩⟩
structure ItW (K : KZ) (J : It) (w0 : Wd) (items : List Val) (live : List (Nat × List Val)) : Prop where
  stop : ∀ w st H i, LeR w0 w → RS K w st H → still st live → items.length ≤ i → J.stop i H
  go : ∀ w st H i, LeR w0 w → RS K w st H → still st live → i < items.length → J.go i H
  yld : ∀ w st H i v x H', LeR w0 w → RS K w st H → still st live → items[i]? = some v → J.yld i H x H' → ∃ w', Le w w' ∧ RS K w' st H' ∧ RV K w' v x
theorem at_live {K : KZ} {w0 : Wd} {st0 : Store} {H0 : Hp} {v : Val} {x : V} {us : List Val} (hS : RS K w0 st0 H0) (rv : RV K w0 v x) (e : lstOf st0 v = some us) : ∃ p, x = .ref p ∧ (∃ xs, SqL K H0 p xs) ∧ ∀ w st H, LeR w0 w → RS K w st H → still st (liveOf v us) → ∃ xs, H p = some (.lst xs) ∧ RVs K w us xs := by
  cases v with
  | ref i =>
    have e' : st0[i]? = some (.lst us) := by
      simp only [lstOf] at e
      split at e
      · rename_i h; cases e; exact h
      · cases e
    obtain ⟨p, ys, rfl, e1, h1, h2, h3⟩ := at_lst hS rv e'
    refine ⟨p, rfl, ⟨ys, SqL.of h1⟩, fun w st H l s hs => ?_⟩
    have e2 : st[i]? = some (.lst us) := hs (i, us) (by simp [liveOf])
    obtain ⟨zs, g1, g2, g3⟩ := s.obj i p _ (l.e _ _ e1) e2
    exact ⟨zs, g1, g3⟩
  | lst us' =>
    have : us' = us := by simpa [lstOf] using e
    subst this
    obtain ⟨p, ys, rfl, h1, h2, h3⟩ := rv
    exact ⟨p, rfl, ⟨ys, SqL.of (hS.sub _ _ h1)⟩, fun w st H l s hs => ⟨ys, s.sub _ _ (l.F _ _ h1), RVs.monoR l _ h3⟩⟩
  | _ => cases e
theorem itl_ok {K : KZ} {w0 : Wd} {p : Addr} {us : List Val} {live : List (Nat × List Val)} (h : ∀ w st H, LeR w0 w → RS K w st H → still st live → ∃ xs, SqL K H p xs ∧ RVs K w us xs) : ItW K (Itl K p) w0 us live := by
  refine ⟨fun w st H i l s hs hi => ?_, fun w st H i l s hs hi => ?_, fun w st H i v x H' l s hs e y => ?_⟩
  · obtain ⟨xs, h1, r⟩ := h w st H l s hs
    exact ⟨xs, h1, by rw [← r.length]; exact hi⟩
  · obtain ⟨xs, h1, r⟩ := h w st H l s hs
    have hi' : i < xs.length := by rw [← r.length]; exact hi
    exact ⟨xs, xs[i], h1, by simp [hi']⟩
  · obtain ⟨xs, h1, r⟩ := h w st H l s hs
    obtain ⟨rfl, y⟩ := y
    obtain ⟨z, e1, rz⟩ := r.get e
    have e2 := y xs h1
    rw [e1] at e2
    cases e2
    exact ⟨w, Le.refl w, s, rz⟩
theorem itt_ok {K : KZ} {w0 : Wd} {p : Addr} {us : List Val} {xs : List V} (h : SqT K w0.F p xs) (r : RVs K w0 us xs) : ItW K (Itt K p) w0 us [] := by
  refine ⟨fun w st H i l s hs hi => ⟨xs, SqT.mono s.sub (SqT.mono l.F h), by rw [← r.length]; exact hi⟩, fun w st H i l s hs hi => ?_, fun w st H i v x H' l s hs e y => ?_⟩
  · have hi' : i < xs.length := by rw [← r.length]; exact hi
    exact ⟨xs, xs[i], SqT.mono s.sub (SqT.mono l.F h), by simp [hi']⟩
  · obtain ⟨rfl, y⟩ := y
    obtain ⟨z, e1, rz⟩ := r.get e
    have e2 := y xs (SqT.mono s.sub (SqT.mono l.F h))
    rw [e1] at e2
    cases e2
    exact ⟨w, Le.refl w, s, RV.monoR l _ rz⟩
theorem itr_ok {K : KZ} {w0 : Wd} (lo : Int) (n : Nat) : ItW K (Itr lo n) w0 ((List.range n).map fun (k : Nat) => .int (lo + k)) [] := by
  refine ⟨fun w st H i l s hs hi => show n ≤ i by simpa using hi, fun w st H i l s hs hi => show i < n by simpa using hi, fun w st H i v x H' l s hs e y => ?_⟩
  obtain ⟨rfl, rfl⟩ := y
  rw [List.getElem?_map] at e
  have hi : i < n := by
    by_cases hi : i < n
    · exact hi
    · rw [List.getElem?_eq_none (by simpa using hi)] at e; cases e
  rw [List.getElem?_range hi] at e
  cases e
  exact ⟨w, Le.refl w, s, rfl⟩
theorem its_ok {K : KZ} {w0 : Wd} {z : Str} (hz : sOk z) : ItW K (Its z) w0 (z.cps.toList.map fun c => .str ⟨#[c]⟩) [] := by
  refine ⟨fun w st H i l s hs hi => show z.cps.size ≤ i by simpa using hi, fun w st H i l s hs hi => show i < z.cps.size by simpa using hi, fun w st H i v x H' l s hs e y => ?_⟩
  obtain ⟨rfl, c, e1, rfl⟩ := y
  rw [List.getElem?_map, Array.getElem?_toList, e1] at e
  cases e
  exact ⟨w, Le.refl w, s, rfl, sOk_one hz (by rw [← Array.getElem?_toList] at e1; exact List.mem_of_getElem? e1)⟩
theorem ite_ok {K : KZ} {w0 : Wd} {p : Addr} {us : List Val} {live : List (Nat × List Val)} (h : ∀ w st H, LeR w0 w → RS K w st H → still st live → ∃ xs, SqL K H p xs ∧ RVs K w us xs) : ItW K (Ite K p) w0 (((List.range us.length).zip us).map fun p => .tup [.int p.1, p.2]) live := by
  have hl : (((List.range us.length).zip us).map fun p => Val.tup [.int p.1, p.2]).length = us.length := by simp
  refine ⟨fun w st H i l s hs hi => ?_, fun w st H i l s hs hi => ?_, fun w st H i v x H' l s hs e y => ?_⟩
  · obtain ⟨xs, h1, r⟩ := h w st H l s hs
    exact ⟨xs, h1, by rw [← r.length, ← hl]; exact hi⟩
  · obtain ⟨xs, h1, r⟩ := h w st H l s hs
    have hi' : i < xs.length := by rw [← r.length, ← hl]; exact hi
    exact ⟨xs, xs[i], h1, by simp [hi']⟩
  · obtain ⟨xs, h1, r⟩ := h w st H l s hs
    obtain ⟨T, x', rfl, hT, rfl, y⟩ := y
    have hi : i < us.length := by rw [← hl]; exact (List.getElem?_eq_some_iff.mp e).1
    have e0 : us[i]? = some us[i] := by simp [hi]
    have ev : v = .tup [.int i, us[i]] := by
      rw [List.getElem?_map, (List.getElem?_zip_eq_some (z := (i, us[i]))).mpr ⟨List.getElem?_range hi, e0⟩] at e
      exact (Option.some.inj e).symm
    subst ev
    obtain ⟨z, e1, rz⟩ := r.get e0
    have e2 := y xs h1
    rw [e1] at e2
    cases e2
    have le := RS.freeze_le (o := HO.tup [.int (i : Nat), x']) s hT
    exact ⟨_, le, RS.freeze s hT, T, [.int (i : Nat), x'], rfl, .inl (.inl upd_same), by rw [sizeLine_eq]; simp, .cons rfl (.cons (RV.mono le _ rz) .nil)⟩
theorem itz_ok {K : KZ} {w0 : Wd} {p q : Addr} {us vs : List Val} {live : List (Nat × List Val)} (h : ∀ w st H, LeR w0 w → RS K w st H → still st live → (∃ xs, SqL K H p xs ∧ RVs K w us xs) ∧ ∃ xs, SqL K H q xs ∧ RVs K w vs xs) : ItW K (Itz K p q) w0 ((us.zip vs).map fun p => .tup [p.1, p.2]) live := by
  have hl : ((us.zip vs).map fun p => Val.tup [p.1, p.2]).length = min us.length vs.length := by simp
  refine ⟨fun w st H i l s hs hi => ?_, fun w st H i l s hs hi => ?_, fun w st H i v x H' l s hs e y => ?_⟩
  · obtain ⟨⟨xs, h1, r⟩, ys, h2, r2⟩ := h w st H l s hs
    rw [hl] at hi
    exact ⟨xs, ys, h1, h2, by rw [← r.length, ← r2.length]; omega⟩
  · obtain ⟨⟨xs, h1, r⟩, ys, h2, r2⟩ := h w st H l s hs
    rw [hl] at hi
    have hi1 : i < xs.length := by rw [← r.length]; omega
    have hi2 : i < ys.length := by rw [← r2.length]; omega
    exact ⟨xs, ys, xs[i], ys[i], h1, h2, by simp [hi1], by simp [hi2]⟩
  · obtain ⟨⟨xs, h1, r⟩, ys, h2, r2⟩ := h w st H l s hs
    obtain ⟨T, x', y', rfl, hT, rfl, z1, z2⟩ := y
    have hi : i < min us.length vs.length := by rw [← hl]; exact (List.getElem?_eq_some_iff.mp e).1
    have i1 : i < us.length := by omega
    have i2 : i < vs.length := by omega
    have e0 : us[i]? = some us[i] := by simp [i1]
    have e1 : vs[i]? = some vs[i] := by simp [i2]
    have ev : v = .tup [us[i], vs[i]] := by
      rw [List.getElem?_map, (List.getElem?_zip_eq_some (z := (us[i], vs[i]))).mpr ⟨e0, e1⟩] at e
      exact (Option.some.inj e).symm
    subst ev
    obtain ⟨a, g1, ra⟩ := r.get e0
    obtain ⟨b, g2, rb⟩ := r2.get e1
    have k1 := z1 xs h1
    have k2 := z2 ys h2
    rw [g1] at k1
    rw [g2] at k2
    cases k1
    cases k2
    have le := RS.freeze_le (o := HO.tup [x', y']) s hT
    exact ⟨_, le, RS.freeze s hT, T, [x', y'], rfl, .inl (.inl upd_same), by rw [sizeLine_eq]; simp, .cons (RV.mono le _ ra) (.cons (RV.mono le _ rb) .nil)⟩
section
variable {P : Prog} {Φ : Cal} {fa : Str → Addr} {k : Nat} {N : List Str} {sc : Sco} {W : WX} {X : Cx} {Bz : Zs}
def srcE (P : Prog) (Φ : Cal) (k : SrcK) (es : List ME) (env : Env) (st : Store) : R (List Val × List (Nat × List Val)) := (evalEs P Φ es env st).then_ fun vs st => R.of (srcV st k vs) st
def rdS (P : Prog) (Φ : Cal) (K : KZ) (W : WX) (k : SrcK) (es : List ME) : TI := fun σ H Q => rd K W (srcE P Φ k es) σ H fun w p H' => ∀ J, ItW K J w p.1 p.2 → Q J H'
theorem _root_.L2.PI.imp {X : Cx} {tg e : Expr} {t t' : TI} (h : PI X tg e t) (i : ∀ σ H R, t' σ H R → t σ H R) : PI X tg e t' := ⟨fun pins s σ H R I q => h.run pins s σ H R I (i σ H R q)⟩
def iSeq (K : PySem.W.Frag) (te : TE) : TI := fun σ H R => te σ H fun x H1 => (∃ a, x = .ref a ∧ (∃ xs, SqL K H1 a xs) ∧ R (Itl K a) H1) ∨ (∃ a, x = .ref a ∧ (∃ xs, SqT K H1 a xs) ∧ R (Itt K a) H1) ∨ ∃ z, x = .str z ∧ R (Its z) H1
theorem pi_seq {tg e : Expr} {te : TE} (he : PE X e te) : PI X tg e (iSeq X.K te) := by
  refine ⟨fun pins s σ H R I h =>
                                  ?_⟩
  refine thn (he.run pins s σ H _ I h) fun v s1 ⟨x, H1, I1, r1, q1⟩ => ?_
  rcases q1 with ⟨a, rfl, ⟨xs, hq⟩, q⟩ | ⟨a, rfl, ⟨xs, hq⟩, q⟩ | ⟨z, rfl, q⟩
  · cases r1
    obtain ⟨its, rv, p, hz⟩ := I1.list
                                       hq
    exact wpAny_pyIter_list p.isList (pi_one (tk := s1.toks) I1 _ (turn_list a _) ⟨_, Heap.get?_push_size _ rfl, rfl, rfl⟩ q)
  · cases r1
    obtain ⟨its, rv, p, hz⟩ := I1.tuple
                                        hq
    exact wpAny_pyIter_tuple (show s1.heap.IsTuple a its.toArray from p) (pi_one (tk := s1.toks) I1 _ (turn_tuple a _) ⟨_, Heap.get?_push_size _ rfl, rfl, rfl⟩ q)
  · obtain ⟨t, rfl⟩ := r1
    cases ha : z.cps.all (· < 128) with
    | false => exact wpAny_pyIter_wide ha (pi_one (tk := s1.toks) I1 _ (turn_str _ z t "str_iterator" (.inr rfl)) ⟨_, Heap.get?_push_size _ rfl, rfl, rfl⟩ q)
    | true => exact wpAny_pyIter_ascii ha (pi_one (tk := s1.toks) I1 _ (turn_str _ z t "str_ascii_iterator" (.inl rfl)) ⟨_, Heap.get?_push_size _ rfl, rfl, rfl⟩ q)
theorem one_val {m : ME} {env : Env} {st : Store} {β : Type} {kk : List Val → Store → R β} : (evalEs P Φ [m] env st).then_ kk = (evalE P Φ m env st).then_ fun v st => kk [v] st := by
  show ((evalE P Φ m env st).then_ fun v st => R.ok [v] st).then_ kk = _
  cases evalE P Φ m env st <;> rfl
theorem snd_src_seq {tg e : Expr} {m : ME} (he : PE X e (rdE P Φ ⟨X.K, Bz⟩ W m)) : PI X tg e (rdS P Φ ⟨X.K, Bz⟩ W .seq [m]) := by
  refine (pi_seq he).imp fun σ H R ⟨w, env, st, hE, hS, h⟩ => ?_
  unfold srcE at h
  rw [one_val] at h
  refine rdE_seq hE hS h fun w1 v x st1 H1 l1 hE1 hS1 rv h1 => ?_
  obtain ⟨z, e, q⟩ := h1.of
  have q' := q w1 H1 (Le.refl _) hS1
  have list : ∀ {us : List Val}, lstOf st1 v = some us → z = (us, liveOf v us) → ∃ a, x = .ref a ∧ (∃ xs, SqL X.K H1 a xs) ∧ R (Itl X.K a) H1 := by
    intro us h1 h2
    subst h2
    obtain ⟨p, rfl, hx, hh⟩ := at_live hS1 rv h1
    exact ⟨p, rfl, hx, q' _ (itl_ok fun w st H l s hs => by
      obtain ⟨xs, g1, g2⟩ := hh w st H l s hs
      exact ⟨xs, SqL.of g1, g2⟩)⟩
  cases v with
  | scr ns =>
    cases e
    obtain ⟨p, rfl, hp, hz⟩ := rv
    exact .inl ⟨p, rfl, ⟨_, SqL.mono hS1.sub hp⟩, q' _ (itl_ok fun w st H l s hs => ⟨_, SqL.mono s.sub (SqL.mono l.F hp), RVs.ints _⟩)⟩
  | str z =>
    cases e
    obtain ⟨rfl, sz⟩ := rv
    exact .inr (.inr ⟨z, rfl, q' _ (its_ok sz)⟩)
  | tup us =>
    cases e
    obtain ⟨p, xs, rfl, hp, hz, rr⟩ := rv
    exact .inr (.inl ⟨p, rfl, ⟨_, SqT.mono hS1.sub hp⟩, q' _ (itt_ok hp rr)⟩)
  | lst us => cases e; exact .inl (list rfl rfl)
  | ref i =>
    replace e : (lstOf st1 (.ref i)).map (fun xs => (xs, liveOf (.ref i) xs)) = some z := e
    obtain ⟨us, e1, e2⟩ := Option.map_eq_some_iff.mp e
    exact .inl (list e1 e2.symm)
  | _ => cases e
theorem snd_src_range1 (O : OkX P Φ fa k N sc W X Bz) {tg a : Expr} {x : Str} {m : ME} {p pos : Pos} (hx : x = "range") (hg : isGl sc x = true) (ns : NoStar [a]) (ha : PA X [a] (rdA P Φ ⟨X.K, Bz⟩ W [m])) : PI X tg (.Call (.Name x p) [a] [] pos) (rdS P Φ ⟨X.K, Bz⟩ W .range1 [m]) := by
  subst hx
  refine (pi_range1 (gl_ok O hg) (O.lk.bi "range" (by decide)) ha (ns _)).imp fun σ H R ⟨w, env, st, hE, hS, h⟩ => ?_
  refine rdA_seq hE hS h fun w1 vs xs st1 H1 l1 hE1 hS1 rv h1 => ?_
  obtain ⟨z, e, q⟩ := Post.of (o := rng1S vs) h1
  unfold rng1S at e
  split at e
  · split at e
    · rename_i hj
      cases e
      obtain ⟨y, rfl, ry⟩ := one_rel rv
      cases (show y = .int _ from ry)
      exact ⟨_, rfl, by omega, by omega, q w1 H1 (Le.refl _) hS1 _ (itr_ok _ _)⟩
    · cases e
  · cases e
theorem snd_src_range2 (O : OkX P Φ fa k N sc W X Bz) {tg a b : Expr} {x : Str} {m m2 : ME} {p pos : Pos} (hx : x = "range") (hg : isGl sc x = true) (ns : NoStar [a, b]) (ns2 : NoStar [b]) (ha : PA X [a, b] (rdA P Φ ⟨X.K, Bz⟩ W [m, m2])) : PI X tg (.Call (.Name x p) [a, b] [] pos) (rdS P Φ ⟨X.K, Bz⟩ W .range2 [m, m2]) := by
  subst hx
  refine (pi_range2 (gl_ok O hg) (O.lk.bi "range" (by decide)) ha (ns _) (ns2 _)).imp fun σ H R ⟨w, env, st, hE, hS, h⟩ => ?_
  refine rdA_seq hE hS h fun w1 vs xs st1 H1 l1 hE1 hS1 rv h1 => ?_
  obtain ⟨z, e, q⟩ := Post.of (o := rng2S vs) h1
  unfold rng2S at e
  split at e
  · split at e
    · rename_i hj
      cases e
      obtain ⟨y, y2, rfl, ry, ry2⟩ := two_rel rv
      cases (show y = .int _ from ry)
      cases (show y2 = .int _ from ry2)
      exact ⟨_, _, rfl, by omega, q w1 H1 (Le.refl _) hS1 _ (itr_ok _ _)⟩
    · cases e
  · cases e
theorem itc_ok {K : KZ} {w0 : Wd} (lo c : Int) (n : Nat) : ItW K (Itc lo c n) w0 ((List.range n).map fun (k : Nat) => .int (lo + (k : Nat) * c)) [] := by
  refine ⟨fun w st H i l s hs hi => show n ≤ i by simpa using hi, fun w st H i l s hs hi => show i < n by simpa using hi, fun w st H i v x H' l s hs e y => ?_⟩
  obtain ⟨rfl, rfl⟩ := y
  rw [List.getElem?_map] at e
  have hi : i < n := by
    by_cases hi : i < n
    · exact hi
    · rw [List.getElem?_eq_none (by simpa using hi)] at e; cases e
  rw [List.getElem?_range hi] at e
  cases e
  exact ⟨w, Le.refl w, s, rfl⟩
theorem three_rel {K : KZ} {w : Wd} {a b c : Val} {xs : List V} (r : RVs K w [a, b, c] xs) : ∃ x y z, xs = [x, y, z] ∧ RV K w a x ∧ RV K w b y ∧ RV K w c z := by
  obtain ⟨x, ys, rfl, h1, h2⟩ := r
  obtain ⟨y, z, rfl, h3, h4⟩ := two_rel h2
  exact ⟨x, y, z, rfl, h1, h3, h4⟩
theorem snd_src_range3 (O : OkX P Φ fa k N sc W X Bz) {tg a b c : Expr} {x : Str} {m m2 m3 : ME} {p pos : Pos} (hx : x = "range") (hg : isGl sc x = true) (ns : NoStar [a, b, c]) (ns2 : NoStar [b, c]) (ha : PA X [a, b, c] (rdA P Φ ⟨X.K, Bz⟩ W [m, m2, m3])) : PI X tg (.Call (.Name x p) [a, b, c] [] pos) (rdS P Φ ⟨X.K, Bz⟩ W .range3 [m, m2, m3]) := by
  subst hx
  refine (pi_range3 (gl_ok O hg) (O.lk.bi "range" (by decide)) ha (ns.cons ns2 _) (ns2.any _ _)).imp fun σ H R ⟨w, env, st, hE, hS, h⟩ => ?_
  refine rdA_seq hE hS h fun w1 vs xs st1 H1 l1 hE1 hS1 rv h1 => ?_
  obtain ⟨z, e, q⟩ := Post.of (o := rng3S vs) h1
  unfold rng3S at e
  split at e
  · split at e
    · rename_i hj
      cases e
      obtain ⟨y, y2, y3, rfl, ry, ry2, ry3⟩ := three_rel rv
      cases (show y = .int _ from ry)
      cases (show y2 = .int _ from ry2)
      cases (show y3 = .int _ from ry3)
      obtain ⟨rfl, b1, b2, b3, b4⟩ := hj
      exact ⟨_, _, _, _, rfl, RgC.neg (by omega) (by omega) (by omega) (by omega), q w1 H1 (Le.refl _) hS1 _ (itc_ok _ _ _)⟩
    · cases e
  · cases e
theorem snd_src_zip (O : OkX P Φ fa k N sc W X Bz) {a b : Expr} {x : Str} {m m2 : ME} {p pos tpos : Pos} {elts : List Expr} {kk : Nat} (hx : x = "zip") (hg : isGl sc x = true) (ns : NoStar [a, b]) (ns2 : NoStar [b]) (ha : PA X [a, b] (rdA P Φ ⟨X.K, Bz⟩ W [m, m2])) : PI X (.Tuple elts kk tpos) (.Call (.Name x p) [a, b] [] pos) (rdS P Φ ⟨X.K, Bz⟩ W .zip [m, m2]) := by
  subst hx
  refine (pi_zip (gl_ok O hg) (O.lk.bi "zip" (by decide)) ha (ns.cons ns2 _) (ns2.any _ _)).imp fun σ H R ⟨w, env, st, hE, hS, h⟩ => ?_
  refine rdA_seq hE hS h fun w1 vs xs st1 H1 l1 hE1 hS1 rv h1 => ?_
  obtain ⟨z, e, q⟩ := Post.of (o := zipS st1 vs) h1
  unfold zipS at e
  split at e
  · split at e
    · rename_i us ws e1 e2
      cases e
      obtain ⟨y, y2, rfl, ry, ry2⟩ := two_rel rv
      obtain ⟨p, rfl, ⟨ys, hx⟩, hh⟩ := at_live hS1 ry e1
      obtain ⟨p2, rfl, ⟨ys2, hx2⟩, hh2⟩ := at_live hS1 ry2 e2
      refine ⟨p, p2, ys, ys2, rfl, hx, hx2, q w1 H1 (Le.refl _) hS1 _ (itz_ok fun w st H l s hs => ?_)⟩
      obtain ⟨xs, g1, g2⟩ := hh w st H l s fun p hp => hs p (List.mem_append_left _ hp)
      obtain ⟨xs2, g3, g4⟩ := hh2 w st H l s fun p hp => hs p (List.mem_append_right _ hp)
      exact ⟨⟨xs, SqL.of g1, g2⟩, xs2, SqL.of g3, g4⟩
    · cases e
  · cases e
end
end Mp
end
section
set_option Elab.async false
set_option linter.all false
set_option maxRecDepth 100000
set_option maxHeartbeats
                         2000000
namespace Mp
open PySem L2 PySem.Spec PyProof.Rows
open Sem (wp)
open AutoSeq1
              (wpAny_loadPart')
theorem meets_enumT (l : Addr) (items : Array Value) (n : Nat) (dct : Option Addr) (sl : Array (Option Value)) :
    Meets (Builtin.«enumerate.__new__» ⟨[.type "enumerate", .ref l], []⟩) (fun _ R s => s.heap.get? l = some { cls := .type "tuple", dict := dct, data := .seq items n, slots := sl } ∧
      R (.ok (.ret (.ref (s.heap.push { cls := .type "tuple_iterator", data := .fields #[.ref l, .int 0 0] }).objs.size)))
        { s with heap := (s.heap.push { cls := .type "tuple_iterator", data := .fields #[.ref l, .int 0 0] }).push { cls := .type "enumerate", data := .fields #[.none, .bool false, .ref s.heap.objs.size, rawInt 0, .none, .none] } }) :=
  .of_wp fun prog w A R s h =>
                               by
    obtain ⟨hp, g, d, tk, os⟩ := s; obtain ⟨hl, h⟩ :=
                                                      h
    have hsub := sub_enumerate
    have hL : Heap.IsTuple (Shared.heap ⟨hp, g, d, tk, os⟩) l items := ⟨_, hl, rfl, n, rfl⟩
    wp_walk using wpAny_loadPart'
                                  hl
    refine wpAny_stack_any fun st => wpAny_pure
                                                ?_
    split
    · rename_i c _ _ _ _ _
      cases (c == Value.type
                             "enumerate")
      · wp_walk using wpAny_loadPart' hl, wpAny_pyIter_tuple hL
        exact ⟨_, rfl, h⟩
      · wp_walk using wpAny_loadPart' hl, wpAny_pyIter_tuple hL
        exact ⟨_, rfl, h⟩
    · wp_walk using wpAny_loadPart' hl, wpAny_pyIter_tuple hL
      exact ⟨_, rfl, h⟩
section
variable {prog : Program} {w : World} {A : Around} {E : Value → Shared → Prop} {s :
                                                                                    Shared}
theorem call_enumT {l : Addr} {items : Array Value} {Q : Value → Shared → Prop} (hL : s.heap.IsTuple l items)
    (h : ∀ h', IsEnum h' (s.heap.objs.size + 1) s.heap.objs.size 0 .none → h'.IsTupleIter s.heap.objs.size l 0 → h'.objs.size = s.heap.objs.size + 2 →
      (∀ b o, s.heap.get? b = some o → h'.get? b = some o) → Q (.ref (s.heap.objs.size + 1)) { s with heap := h' })
                                                                                                                    :
    wpAny (model prog w) A (PySem.call (.type "enumerate") [.ref l]) Q E s := by
  obtain ⟨⟨c, dct, dt, sl⟩, hl, hc, n, hd⟩ :=
                                              hL
  replace hc : c = .type "tuple" := hc
  replace hd : dt = .seq items n :=
                                    hd
  subst hc hd
  refine callType_new PySem.F.called_enumerate (by decide) (PySem.F.typeCall_enumerate_1 _) (PySem.F.newCall_enumerate_1 _) (fun obj => PySem.F.args_object_init_2 obj _) PySem.F.entry_enumerate_new
    (meets_enumT l items n dct sl) ⟨hl, ?_⟩
  have hz : (s.heap.push { cls := .type "tuple_iterator", data := .fields #[.ref l, .int 0 0] }).objs.size = s.heap.objs.size + 1 := Heap.size_push ..
  show _ ∧ _
  rw [hz]
  have he : IsEnum ((s.heap.push { cls := .type "tuple_iterator", data := .fields #[.ref l, .int 0 0] }).push
      { cls := .type "enumerate", data := .fields #[.none, .bool false, .ref s.heap.objs.size, rawInt 0, .none, .none] }) (s.heap.objs.size + 1) s.heap.objs.size 0 .none :=
                                                                                                                                                                             by
    have := Heap.get?_push_size (s.heap.push { cls := .type "tuple_iterator", data := .fields #[.ref l, .int 0 0] })
      (o := { cls := .type "enumerate", data := .fields #[.none, .bool false, .ref s.heap.objs.size, rawInt 0, .none, .none] })
                                                                                                                                rfl
    rw [hz] at this; exact this
  refine ⟨⟨_, he, rfl⟩, h _ he ⟨_, Heap.get?_push_of_some _ (Heap.get?_push_size _ rfl), rfl, rfl⟩ (by rw [Heap.size_push, hz]) fun b o x => Heap.get?_push_of_some _ (Heap.get?_push_of_some _
                                                                                                                                                                                                x)⟩
theorem nextOf_tup_item {it l : Addr} {i : Nat} {items} {x : Value} {Q : Value → Shared → Prop} (hit : s.heap.IsTupleIter it l i)
    (hl : s.heap.IsTuple l items) (hx : items[i]? = some
                                                         x)
    (hQ : ∀ h', h'.IsTupleIter it l (i + 1) → Heap.SameBut it s.heap h' → Q x { s with heap := h' })
                                                                                                     :
    wpAny (model prog w) A (Builtin.SmallTypes.nextOf (.ref it)) Q E s :=
                                                                          by
  obtain ⟨o, ho, hc, hd⟩ := id
                               hit
  obtain ⟨ol, hol, _, nl, hdl⟩ :=
                                  hl
  unfold
         Builtin.SmallTypes.nextOf
  refine wpAny_bind (wpAny_callSpecial?_slot (name := Str.ofString "__next__") hit.typeIs PySem.F.slot_tuple_iterator_next
    (wpAny_call_entry PySem.F.slot_tuple_iterator_next hit.typeIs PySem.F.entry_tuple_iterator_next ?_ (PySem.F.args_tuple_iterator_next_1 _)))
  show wpAny _ _ (field (.ref it) 0 >>= _) _ _
                                               s
  refine wpAny_bind (wpAny_field ho hd (x := .ref l) rfl
                                                         ?_)
  show wpAny _ _ (if (Value.ref l == Value.none) = true then _ else _) _ _
                                                                           s
  rw [if_neg (show ¬ ((Value.ref l == Value.none) = true) from
                                                               Bool.false_ne_true)]
  show wpAny _ _ (field (.ref it) 1 >>= _) _ _
                                               s
  refine wpAny_bind (wpAny_field ho hd (x := .int i 0) rfl
                                                           ?_)
  show wpAny _ _ (seqItems? (.ref l) >>= _) _ _
                                                s
  refine wpAny_bind (wpAny_seqItems hol hdl
                                            ?_)
  simp only [Int.toNat_natCast,
                                hx]
  refine wpAny_bind (wpAny_setField ho hd (by simp) (wpAny_pure ⟨x, rfl, wpAny_pure (hQ _ ?_ (Heap.SameBut.update
                                                                                                                  ..))⟩))
  exact ⟨_, Heap.get?_update_self _ ho (Obj.isFreed_of_fields (Obj.data_mapFields hd _)), (Obj.cls_mapFields ..).trans hc,
                                                                                                                           by
    rw [Obj.data_mapFields hd]; simp
                                     [rawInt]⟩
theorem nextOf_tup_end {it l : Addr} {i : Nat} {items} {Q : Value → Shared → Prop} (hh : A.handled = none)
    (hit : s.heap.IsTupleIter it l i) (hl : s.heap.IsTuple l items) (hx : items[i]? =
                                                                                      none)
    (hE : ∀ h' e, Heap.ExtBut it s.heap h' → (∃ o, h'.get? e = some o ∧ o.cls = .type "StopIteration") → E (.ref e) { s with heap := h' })
                                                                                                                                           :
    wpAny (model prog w) A (Builtin.SmallTypes.nextOf (.ref it)) Q E s :=
                                                                          by
  obtain ⟨o, ho, hc, hd⟩ := id
                               hit
  obtain ⟨ol, hol, _, nl, hdl⟩ :=
                                  hl
  unfold
         Builtin.SmallTypes.nextOf
  refine wpAny_bind (wpAny_callSpecial?_slot (name := Str.ofString "__next__") hit.typeIs PySem.F.slot_tuple_iterator_next
    (wpAny_call_entry PySem.F.slot_tuple_iterator_next hit.typeIs PySem.F.entry_tuple_iterator_next ?_ (PySem.F.args_tuple_iterator_next_1 _)))
  show wpAny _ _ (field (.ref it) 0 >>= _) _ _
                                               s
  refine wpAny_bind (wpAny_field ho hd (x := .ref l) rfl
                                                         ?_)
  show wpAny _ _ (if (Value.ref l == Value.none) = true then _ else _) _ _
                                                                           s
  rw [if_neg (show ¬ ((Value.ref l == Value.none) = true) from
                                                               Bool.false_ne_true)]
  show wpAny _ _ (field (.ref it) 1 >>= _) _ _
                                               s
  refine wpAny_bind (wpAny_field ho hd (x := .int i 0) rfl
                                                           ?_)
  show wpAny _ _ (seqItems? (.ref l) >>= _) _ _
                                                s
  refine wpAny_bind (wpAny_seqItems hol hdl
                                            ?_)
  simp only [Int.toNat_natCast,
                                hx]
  refine wpAny_bind (wpAny_rule (wpAny_bind (wpAny_setField ho hd (by simp)
                                                                            ?_)))
  show wpAny _ _ (newExc (.type "StopIteration") [] >>= _) _ _
                                                               _
  refine wpAny_bind ?_
  simp only [newExc, newTuple]
  refine wpAny_bind (wpAny_newObj_type ?_ (by
                                              size_fits))
  refine wpAny_bind (m := firstArgMember _ _) (wpAny_of_eq (a := Value.none) (by first | rfl | (simp only [firstArgMember]; rfl))
                                                                                                                                  ?_)
  refine wpAny_newObj_type ?_ (by
                                  size_fits)
  simp only [raiseNew]
  refine wpAny_bind (wpAny_handled
                                   ?_)
  first | rw [show A.in1.handled = none from hh] | rw
                                                      [hh]
  refine wpAny_bind (wpAny_pure (wpAny_throw
                                             ?_))
  exact hE _ _ (((Heap.SameBut.update ..).extBut.push _).push _) ⟨_, Heap.get?_push_size _ rfl,
                                                                                                rfl⟩
theorem enumT_next_item {e it l : Addr} {i : Nat} {items : Array Value} {x old : Value} {Q : Value → Shared → Prop}
    (he : IsEnum s.heap e it i old) (hit : s.heap.IsTupleIter it l i) (hl : s.heap.IsTuple l items) (hx : items[i]? = some x) (hne : e ≠ it)
    (hQ : ∀ h', IsEnumOut h' e it ((i : Int) + 1) x s.heap.objs.size → h'.IsTupleIter it l (i + 1) →
      h'.get? s.heap.objs.size = some { cls := .type "tuple", data := .seq #[.int i s.toks, x] } → h'.objs.size = s.heap.objs.size + 1
                                                                                                                                       →
      (∀ b o, b ≠ e → b ≠ it → s.heap.get? b = some o → h'.get? b = some o) → Q (.ref s.heap.objs.size) { s with heap := h', toks := s.toks + 1 })
                                                                                                                                                   :
    wpAny (model prog w) A (Builtin.«enumerate.__next__» ⟨[.ref e], []⟩) (fun fin s' => ∃ v, fin = .done (.ret v) ∧ Q v s') E s :=
                                                                                                                                   by
  obtain ⟨hp, g, d, tk, os⟩ :=
                               s
  show wpAny _ _ (field (.ref e) 2 >>= _) _ _
                                              _
  refine wpAny_bind (wpAny_field he rfl (x := .ref it) rfl
                                                           ?_)
  refine wpAny_bind (nextOf_tup_item hit hl hx fun h₁ hit₁ hs₁ => ?_)
  replace hs₁ : Heap.SameBut it hp h₁ :=
                                         hs₁
  have he₁ : IsEnum h₁ e it i old := (hs₁.2 e hne).trans
                                                         he
  show wpAny _ _ (field (.ref e) 3 >>= _) _ _ ⟨h₁, g, d, tk,
                                                             os⟩
  refine wpAny_bind (wpAny_field he₁ rfl (x := rawInt i) rfl
                                                             ?_)
  show wpAny _ _ (field (.ref e) 4 >>= _) _ _ ⟨h₁, g, d, tk,
                                                             os⟩
  refine wpAny_bind (wpAny_field he₁ rfl (x := .none) rfl
                                                          ?_)
  show wpAny _ _ (mkInt i >>= _) _ _ ⟨h₁, g, d, tk,
                                                    os⟩
  refine wpAny_bind (wpAny_mkInt
                                 ?_)
  show wpAny _ _ (setField (.ref e) 3 (rawInt ((i : Int) + 1)) >>= _) _ _ ⟨h₁, g, d, tk + 1,
                                                                                             os⟩
  refine wpAny_bind (wpAny_setField_rec he₁ (by simp) fun h₂ he₂ hs₂ =>
                                                                        ?_)
  replace hs₂ : Heap.SameBut e h₁ h₂ :=
                                        hs₂
  replace he₂ : IsEnum h₂ e it ((i : Int) + 1) old :=
                                                      he₂
  show wpAny _ _ (setField (.ref e) 4 .none >>= _) _ _ ⟨h₂, g, d, tk + 1,
                                                                          os⟩
  refine wpAny_bind (wpAny_setField_rec he₂ (by simp) fun h₃ he₃ hs₃ =>
                                                                        ?_)
  replace hs₃ : Heap.SameBut e h₂ h₃ :=
                                        hs₃
  replace he₃ : IsEnum h₃ e it ((i : Int) + 1) old :=
                                                      he₃
  show wpAny _ _ (newTuple [.int i tk, x] >>= _) _ _ ⟨h₃, g, d, tk + 1,
                                                                        os⟩
  refine wpAny_bind (wpAny_newTuple
                                    ?_)
  have he₄ : IsEnum (h₃.push { cls := .type "tuple", data := .seq #[.int i tk, x] }) e it ((i : Int) + 1) old := Heap.get?_push_of_some _
                                                                                                                                          he₃
  generalize hh₄ : h₃.push { cls := .type "tuple", data := .seq #[.int i tk, x] } = h₄ at
                                                                                          he₄
  have hsz : h₃.objs.size = hp.objs.size := by rw [hs₃.1, hs₂.1,
                                                                 hs₁.1]
  have hel : e < hp.objs.size := Heap.lt_size
                                              he
  have ht₄ : h₄.get? hp.objs.size = some { cls := .type "tuple", data := .seq #[.int i tk, x] } := by rw [← hh₄, ← hsz]; exact Heap.get?_push_size _
                                                                                                                                                     rfl
  have hz₄ : h₄.objs.size = hp.objs.size + 1 := by rw [← hh₄, Heap.size_push,
                                                                              hsz]
  have hk₄ : ∀ b o, b ≠ e → b ≠ it → hp.get? b = some o → h₄.get? b = some o := fun b o hbe hbi hb =>
                                                                                                      by
    rw [← hh₄]; exact Heap.get?_push_of_some _ (hs₃.extBut b o hbe (hs₂.extBut b o hbe (hs₁.extBut b o hbi
                                                                                                           hb)))
  have hit₄ : h₄.IsTupleIter it l (i + 1) := by
    rw [← hh₄]; obtain ⟨o, ho, r⟩ := (hit₁.extBut hs₂.extBut (Ne.symm hne)).extBut hs₃.extBut (Ne.symm hne); exact ⟨o, Heap.get?_push_of_some _ ho,
                                                                                                                                                    r⟩
  show wpAny _ _ (Builtin.SmallTypes.ownedTupleIsFree (.ref e) >>= _) _ _ ⟨h₄, g, d, tk + 1,
                                                                                             os⟩
  rw [hsz]
  clear hh₄ he₃ hs₃ he₂ hs₂ he₁ hs₁ hit₁ hsz h₃ h₂
                                                   h₁
  refine wpAny_bind ?_
  · unfold
           Builtin.SmallTypes.ownedTupleIsFree
    refine wpAny_bind (wpAny_field he₄ rfl (x := .none) rfl (wpAny_pure
                                                                        ?_))
    simp only [if_true]
    refine wpAny_bind (wpAny_rule
                                  ?_)
    refine wpAny_bind (wpAny_field he₄ rfl (x := old) rfl
                                                          ?_)
    refine wpAny_bind (wpAny_setField_rec he₄ (by simp) fun h₅ he₅ hs₅ =>
                                                                          ?_)
    replace hs₅ : Heap.SameBut e h₄ h₅ :=
                                          hs₅
    replace he₅ : IsEnum h₅ e it ((i : Int) + 1) x :=
                                                      he₅
    show wpAny _ _ (Builtin.SmallTypes.ownedTupleHandOut (.ref e) (.ref hp.objs.size) >>= _) _ _ ⟨h₅, g, d, tk + 1,
                                                                                                                    os⟩
    refine wpAny_bind ?_
    · unfold
             Builtin.SmallTypes.ownedTupleHandOut
      refine wpAny_bind (wpAny_setField_rec he₅ (by simp) fun h₆ he₆ hs₆ =>
                                                                            ?_)
      replace hs₆ : Heap.SameBut e h₅ h₆ :=
                                            hs₆
      replace he₆ : IsEnumOut h₆ e it ((i : Int) + 1) x hp.objs.size :=
                                                                        he₆
      refine wpAny_setField_rec he₆ (by simp) fun h₇ he₇ hs₇ =>
                                                                ?_
      replace hs₇ : Heap.SameBut e h₆ h₇ :=
                                            hs₇
      replace he₇ : IsEnumOut h₇ e it ((i : Int) + 1) x hp.objs.size :=
                                                                        he₇
      refine wpAny_bind (wpAny_letGo (wpAny_pure ⟨_, rfl, hQ h₇ he₇ ?_ ?_ ?_
                                                                             ?_⟩))
      · exact ((hit₄.extBut hs₅.extBut (Ne.symm hne)).extBut hs₆.extBut (Ne.symm hne)).extBut hs₇.extBut (Ne.symm
                                                                                                                  hne)
      · exact hs₇.extBut _ _ (Nat.ne_of_gt hel) (hs₆.extBut _ _ (Nat.ne_of_gt hel) (hs₅.extBut _ _ (Nat.ne_of_gt hel)
                                                                                                                      ht₄))
      · rw [hs₇.1, hs₆.1, hs₅.1,
                                 hz₄]
      · exact fun b o hbe hbi hb => hs₇.extBut b o hbe (hs₆.extBut b o hbe (hs₅.extBut b o hbe (hk₄ b o hbe hbi
                                                                                                                hb)))
theorem pyNext_enumT_item {e it l : Addr} {i : Nat} {items : Array Value} {x old : Value} {Q : Option Value → Shared → Prop}
    (he : IsEnum s.heap e it i old) (hit : s.heap.IsTupleIter it l i) (hl : s.heap.IsTuple l items) (hx : items[i]? = some x) (hne : e ≠ it)
    (hQ : ∀ h', IsEnumOut h' e it ((i : Int) + 1) x s.heap.objs.size → h'.IsTupleIter it l (i + 1) →
      h'.get? s.heap.objs.size = some { cls := .type "tuple", data := .seq #[.int i s.toks, x] } → h'.objs.size = s.heap.objs.size + 1
                                                                                                                                       →
      (∀ b o, b ≠ e → b ≠ it → s.heap.get? b = some o → h'.get? b = some o) → Q (some (.ref s.heap.objs.size)) { s with heap := h', toks := s.toks + 1 })
                                                                                                                                                          :
    wpAny (model prog w) A (pyNext (.ref e)) Q E s :=
                                                      by
  have hT : s.TypeIs (.ref e) "enumerate" := ⟨_, he,
                                                     rfl⟩
  unfold pyNext
  exact wpAny_bind (wpAny_attempt (wpAny_callSpecial?_slot (name := Str.ofString "__next__") hT PySem.F.slot_enumerate_next
    (wpAny_call_entry PySem.F.slot_enumerate_next hT PySem.F.entry_enumerate_next
      (enumT_next_item he hit hl hx hne fun h' a b c d k => wpAny_pure (hQ h' a b c d k)) (PySem.F.args_enumerate_next_1 _))))
theorem pyNext_enumT_end {e it l : Addr} {i : Nat} {items : Array Value} {old : Value} {Q : Option Value → Shared → Prop} (hh : A.handled = none)
    (he : IsEnum s.heap e it i old) (hit : s.heap.IsTupleIter it l i) (hl : s.heap.IsTuple l items) (hx : items[i]? = none)
    (hQ : ∀ h', Heap.ExtBut it s.heap h' → Q none { s with heap := h' }) : wpAny (model prog w) A (pyNext (.ref e)) Q E s :=
                                                                                                                             by
  have hT : s.TypeIs (.ref e) "enumerate" := ⟨_, he,
                                                     rfl⟩
  unfold pyNext
  refine wpAny_bind (wpAny_attempt (wpAny_callSpecial?_slot (name := Str.ofString "__next__") hT PySem.F.slot_enumerate_next
    (wpAny_call_entry PySem.F.slot_enumerate_next hT PySem.F.entry_enumerate_next ?_ (PySem.F.args_enumerate_next_1 _))))
  show wpAny _ _ (field (.ref e) 2 >>= _) _ _
                                              _
  refine wpAny_bind (wpAny_field he rfl (x := .ref it) rfl
                                                           ?_)
  refine wpAny_bind (nextOf_tup_end hh hit hl hx fun h' x he' hx' => ?_)
  obtain ⟨o, ho, hc⟩ := hx'
  refine wpAny_bind (wpAny_isInstance (T := "StopIteration") (b := true) ⟨o, ho, hc⟩ isSubtype_stop
                                                                                                    ?_)
  exact wpAny_pure (hQ _ he')
end
def Itet (K : PySem.W.Frag) (a : Addr) : It :=
  ⟨fun i H => ∃ (xs : List V) (x : V), SqT K H a xs ∧ xs[i]? = some x, fun i H v H' => ∃ T x, v = .ref T ∧ H T = none ∧ H' = upd H T (.tup [.int (i : Nat), x]) ∧ ∀ xs, SqT K H a xs → xs[i]? = some x, fun i H => ∃ xs : List V, SqT K H a xs ∧ xs.length ≤ i⟩
theorem turn_enumT {P : Program} {w : World} {K : PySem.W.Frag} {elts : List Expr} {kk : Nat} {tpos : Pos} (a e it : Addr) :
    Turn P w K (.Tuple elts kk tpos) (Itet K a) [e, it] e (fun i h => (∃ old, IsEnum h e it ((i : Nat) : Int) old) ∧ h.IsTupleIter it a i ∧ e ≠ it) where
  mem := by simp
  obj := fun i h st b hb => by
    obtain ⟨⟨old, he⟩, ⟨o, ho, hc, hd⟩, _⟩ :=
                                              st
    have e' : b = e ∨ b = it := by simpa using
                                               hb
    rcases e' with z | z
    · rw [z]; exact ⟨_, he, fun v q => nomatch
                                               q⟩
    · rw [z]; exact ⟨o, ho, fun v q => by rw [hd] at q; cases
                                                              q⟩
  keep := fun i h h' st k => let ⟨⟨old, he⟩, hi, hne⟩ := st; ⟨⟨old, k e (by simp) _ he⟩, hi.at fun o q => k it (by simp) o q,
                                                                                                                              hne⟩
  item := by
    intro X hP hw hK hc i pins s σ H E I hf st
                                               hg
    subst hP hw hK
    obtain ⟨⟨old, he⟩, hit, hne⟩ :=
                                    st
    obtain ⟨xs, x, hq, hx⟩ := hg
    obtain ⟨its, rv, p, hz⟩ := I.tuple
                                       hq
    obtain ⟨u, hu, ru⟩ := rv.get
                                 hx
    have hel : e < s.heap.objs.size := Heap.lt_size
                                                    he
    have hil : it < s.heap.objs.size := by obtain ⟨_, q, _⟩ := hit; exact Heap.lt_size
                                                                                       q
    refine pyNext_enumT_item he hit p (x := u) (by simpa using hu) hne fun h' ho hit' hT hsz hk => ?_
    refine ⟨_, rfl, wpAny_letOwnedTupleGo_enum (s := { s with heap := h', toks := s.toks + 1 }) ho fun h'' he' sb =>
                                                                                                                     ?_⟩
    have hT2 : h''.get? s.heap.objs.size = some { cls := .type "tuple", data := .seq #[.int i s.toks, u] } := (sb.2 _ (Nat.ne_of_gt hel)).trans
                                                                                                                                                hT
    have new : ObjOk X.prog X.w (upd H s.heap.objs.size (.tup [.int (i : Nat), x])) h'' s.heap.objs.size (.tup [.int (i : Nat), x])
                                                                                                                                    :=
      ⟨by show 2 ≤ sizeLine; decide, [.int i s.toks, u], .cons ⟨_, rfl⟩ (.cons ru .nil), ⟨_, hT2, rfl, _,
                                                                                                          rfl⟩⟩
    have I1 : Inv X pins σ (upd H s.heap.objs.size (.tup [.int (i : Nat), x])) { s with heap := h'', toks := s.toks + 1 }
                                                                                                                          :=
      I.turnedNew (ch := [e, it]) (fun b ob hb q => (sb.2 b (fun z => hb (by simp [z]))).trans (hk b ob (fun z => hb (by simp [z])) (fun z => hb (by simp [z])) q)) hf (Nat.le_refl _)
                                                                                                                                                                                       new
    refine ⟨.ref s.heap.objs.size, _, I1, rfl, ⟨_, x, rfl, I.hok.fresh (Nat.le_refl _), rfl, fun ys hy => by rw [I.tuple_inj hy hq]; exact hx⟩, ⟨⟨u, ?_⟩, hit'.at fun o q => (sb.2 it (Ne.symm hne)).trans q, hne⟩, fun b hb => ?_⟩
    · have e1 : ((i + 1 : Nat) : Int) = (i : Int) + 1 := by
                                                            omega
      rw [e1]; exact he'
    · have hb' : b < s.heap.objs.size :=
                                         by
        have e' : b = e ∨ b = it := by simpa using
                                                   hb
        rcases e' with z | z
        · rw [z]; exact hel
        · rw [z]; exact hil
      rw [upd_ne (Nat.ne_of_lt
                               hb')]
      exact (hf b hb).1
  done := by
    intro X hP hw hK hc i pins s σ H E I hf st
                                               hg
    subst hP hw hK
    obtain ⟨⟨old, he⟩, hit, hne⟩ :=
                                    st
    obtain ⟨xs, hq, hx⟩ := hg
    obtain ⟨its, rv, p, hz⟩ := I.tuple
                                       hq
    obtain ⟨f0, f1, f2, f3, f4, f5⟩ := hf it (by
                                                 simp)
    have hl := rv.length
    exact pyNext_enumT_end (I.ok.hd hc) he hit p (by simp; omega) fun h' eb => ⟨rfl, I.turned (t' := s.toks) (fun b o hb q => eb b o hb q) f0 f1 f3 f4 f5⟩
  self := fun A i s Q E st h => let ⟨⟨_, he⟩, _⟩ := st; wpAny_pyIter_enum he
                                                                             h
def iEnumB (K : PySem.W.Frag) (ta : TA) : TI := fun σ H R => ta σ H fun vs H1 => ∃ a xs, vs = [.ref a] ∧ ((SqL K H1 a xs ∧ R (Ite K a) H1) ∨ (SqT K H1 a xs ∧ R (Itet K a) H1))
theorem pi_enumB {X : Cx} {e : Expr} {ta : TA} {p pos tpos : Pos} {elts : List Expr} {kk : Nat} (hg : Gl X "enumerate") (hm : X.mg "enumerate" = none) (ha : PA X [e] ta) (hs : starEach [e] X.env = [(false, eval e X.env)] := by rfl) :
    PI X (.Tuple elts kk tpos) (.Call (.Name "enumerate" p) [e] [] pos) (iEnumB X.K ta) := by
  refine ⟨fun pins s σ H R I h =>
                                  ?_⟩
  refine Call_ (ld_blt I hg hm boot_enumerate (PyProof.Rows.callWith_type1 (thn (ha.run pos pins s σ H _ I h) fun us s1 ⟨vs, H1, I1, r1, q1⟩ => ?_) hs
                                                                                                                                                       rfl))
  obtain ⟨a, xs, rfl, q1⟩ := q1
  cases r1 with
  | cons r rr =>
    cases rr
    cases r
    have far : ∀ b ∈ [s1.heap.objs.size + 1, s1.heap.objs.size], s1.heap.objs.size ≤ b := fun b hb => by
      rcases (show b = s1.heap.objs.size + 1 ∨ b = s1.heap.objs.size by simpa using hb) with z | z
      · rw [z]; exact Nat.le_add_right _
                                         _
      · rw [z]; exact Nat.le_refl _
    rcases q1 with ⟨hq, q⟩ | ⟨hq, q⟩
    · obtain ⟨its, rv, p', hz⟩ := I1.list
                                          hq
      refine call_enumerate_list p'.isList fun h' he hit hsz hk => wpAny_pyIter_enum he
                                                                                        ?_
      exact ⟨s1.heap.objs.size + 1, [s1.heap.objs.size + 1, s1.heap.objs.size], _, _, H1, rfl, I1.kept (t' := s1.toks) hk, turn_enum a (s1.heap.objs.size + 1) s1.heap.objs.size, ⟨⟨.none, he⟩, hit, Nat.succ_ne_self _⟩, fun b hb => I1.fpOk (far b hb) (I1.hok.fresh (far b hb)), q⟩
    · obtain ⟨its, rv, p', hz⟩ := I1.tuple
                                           hq
      refine call_enumT p' fun h' he hit hsz hk => wpAny_pyIter_enum he ?_
      exact ⟨s1.heap.objs.size + 1, [s1.heap.objs.size + 1, s1.heap.objs.size], _, _, H1, rfl, I1.kept (t' := s1.toks) hk, turn_enumT a (s1.heap.objs.size + 1) s1.heap.objs.size, ⟨⟨.none, he⟩, hit, Nat.succ_ne_self _⟩, fun b hb => I1.fpOk (far b hb) (I1.hok.fresh (far b hb)), q⟩
theorem itet_ok {K : KZ} {w0 : Wd} {p : Addr} {us : List Val} {xs : List V} (h : SqT K w0.F p xs) (r : RVs K w0 us xs) : ItW K (Itet K p) w0 (((List.range us.length).zip us).map fun p => .tup [.int p.1, p.2]) [] := by
  have hl : (((List.range us.length).zip us).map fun p => Val.tup [.int p.1, p.2]).length = us.length := by simp
  refine ⟨fun w st H i l s hs hi => ⟨xs, SqT.mono s.sub (SqT.mono l.F h), by rw [← r.length, ← hl]; exact hi⟩, fun w st H i l s hs hi => ?_, fun w st H i v x H' l s hs e y => ?_⟩
  · have hi' : i < xs.length := by rw [← r.length, ← hl]; exact hi
    exact ⟨xs, xs[i], SqT.mono s.sub (SqT.mono l.F h), by simp [hi']⟩
  · obtain ⟨T, x', rfl, hT, rfl, y⟩ := y
    have hi : i < us.length := by rw [← hl]; exact (List.getElem?_eq_some_iff.mp e).1
    have e0 : us[i]? = some us[i] := by simp [hi]
    have ev : v = .tup [.int i, us[i]] := by
      rw [List.getElem?_map, (List.getElem?_zip_eq_some (z := (i, us[i]))).mpr ⟨List.getElem?_range hi, e0⟩] at e
      exact (Option.some.inj e).symm
    subst ev
    obtain ⟨z, e1, rz⟩ := r.get e0
    have e2 := y xs (SqT.mono s.sub (SqT.mono l.F h))
    rw [e1] at e2
    cases e2
    have le := RS.freeze_le (o := HO.tup [.int (i : Nat), x']) s hT
    exact ⟨_, le, RS.freeze s hT, T, [.int (i : Nat), x'], rfl, .inl (.inl upd_same), by rw [sizeLine_eq]; simp, .cons rfl (.cons (RV.mono le _ (RV.monoR l _ rz)) .nil)⟩
section
variable {P : Prog} {Φ : Cal} {fa : Str → Addr} {k : Nat} {N : List Str} {sc : Sco} {W : WX} {X : Cx} {Bz : Zs}
theorem snd_src_enum (O : OkX P Φ fa k N sc W X Bz) {a : Expr} {x : Str} {m : ME} {p pos tpos : Pos} {elts : List Expr} {kk : Nat} (hx : x = "enumerate") (hg : isGl sc x = true) (ns : NoStar [a]) (ha : PA X [a] (rdA P Φ ⟨X.K, Bz⟩ W [m])) : PI X (.Tuple elts kk tpos) (.Call (.Name x p) [a] [] pos) (rdS P Φ ⟨X.K, Bz⟩ W .enum [m]) := by
  subst hx
  refine (pi_enumB (gl_ok O hg) (O.lk.bi "enumerate" (by decide)) ha (ns _)).imp fun σ H R ⟨w, env, st, hE, hS, h⟩ => ?_
  refine rdA_seq hE hS h fun w1 vs xs st1 H1 l1 hE1 hS1 rv h1 => ?_
  obtain ⟨z, e, q⟩ := Post.of (o := enumS st1 vs) h1
  unfold enumS at e
  split at e
  · cases e
    obtain ⟨y, rfl, ry⟩ := one_rel rv
    obtain ⟨p, ys, rfl, hx, _, rr⟩ := ry
    exact ⟨p, ys, rfl, .inr ⟨SqT.mono hS1.sub hx, q w1 H1 (Le.refl _) hS1 _ (itet_ok hx rr)⟩⟩
  · obtain ⟨us, e1, rfl⟩ := Option.map_eq_some_iff.mp e
    obtain ⟨y, rfl, ry⟩ := one_rel rv
    obtain ⟨p, rfl, ⟨ys, hx⟩, hh⟩ := at_live hS1 ry e1
    exact ⟨p, ys, rfl, .inl ⟨hx, q w1 H1 (Le.refl _) hS1 _ (ite_ok fun w st H l s hs => by
      obtain ⟨xs, g1, g2⟩ := hh w st H l s hs
      exact ⟨xs, SqL.of g1, g2⟩)⟩⟩
  · cases e
end
end Mp
end
section
set_option Elab.async false
set_option linter.all false
set_option maxRecDepth 100000
set_option maxHeartbeats
                         1000000
namespace Mp
open PySem L2 PySem.Spec PyProof.Rows
section
variable {K : KZ} {w : Wd} {st : Store} {H : Hp} {D : Addr}
theorem RO.monoR {w w' : Wd} {p : Addr} {s : SO} (l : LeR w w') (h : RO K w H p s) : RO K w' H p s := by
  cases s with
  | lst vs => obtain ⟨xs, e', z, r⟩ := h; exact ⟨xs, e', z, RVs.monoR l vs r⟩
  | ins c ns vs => obtain ⟨dx, fs, e', z, r⟩ := h; exact ⟨dx, fs, e', z, RVs.monoR l vs r⟩
theorem leG (w : Wd) (G : Hp) : LeR w ⟨w.F, w.e, G⟩ := ⟨fun _ _ h => h, fun _ _ h => h⟩
theorem RS.less (s : RS K w st H) {G : Hp} (h : ∀ p o, G p = some o → w.G p = some o) : RS K ⟨w.F, w.e, G⟩ st H := by
  have hn : ∀ p, w.G p = none → G p = none := fun p e => by
    cases z : G p with
    | none => rfl
    | some o => rw [h p o z] at e; cases e
  exact ⟨s.sub, s.len, fun i p o e1 e2 => (s.obj i p o e1 e2).monoR (leG w G), s.nd, s.sep, fun p o e => s.gub p o (h p o e), fun i p e => hn p (s.gse i p e), fun p n => s.gF p fun z => n (hn p z), s.tabs (fun _ _ => rfl) fun _ _ z => z, fun q hq => ⟨(s.tabF q hq).1, hn _ (s.tabF q hq).2⟩⟩
theorem RS.lay (s : RS K w st H) (hD : H D = none) (o : HO) : RS K ⟨w.F, w.e, upd w.G D o⟩ st (upd H D o) := by
  have hF : w.F D = none := by
    cases e : w.F D with
    | none => rfl
    | some o' => rw [s.sub _ _ e] at hD; cases hD
  have hE : ∀ (i : Nat) (p : Addr), w.e[i]? = some p → p ≠ D := fun i p e z => by
    obtain ⟨o', e1, r⟩ := s.at e
    exact ro_some r (by rw [z]; exact hD)
  refine ⟨fun p o' e => ?_, s.len, fun i p o' e1 e2 => ?_, s.nd, s.sep, fun p o' e => ?_, fun i p e => ?_, fun p n => ?_, s.tabs (fun q hq => upd_ne (s.tab0 hD q hq)) fun _ _ z => z, fun q hq => ⟨(s.tabF q hq).1, (upd_ne (s.tab0 hD q hq)).trans (s.tabF q hq).2⟩⟩
  · have : p ≠ D := fun z => by subst z; rw [hF] at e; cases e
    rw [upd_ne this]; exact s.sub p o' e
  · exact ((s.obj i p o' e1 e2).keep (Le.refl w) (upd_ne (hE i p e1))).monoR (leG w _)
  · have e' : upd w.G D o p = some o' := e
    by_cases z : p = D
    · subst z; rw [upd_same] at e' ⊢; exact e'
    · rw [upd_ne z] at e' ⊢; exact s.gub p o' e'
  · show upd w.G D o p = none
    rw [upd_ne (hE i p e)]; exact s.gse i p e
  · have n' : upd w.G D o p ≠ none := n
    by_cases z : p = D
    · subst z; exact hF
    · rw [upd_ne z] at n'; exact s.gF p n'
theorem RS.relay {G : Hp} {o o' : HO} (s : RS K ⟨w.F, w.e, upd G D o⟩ st H) : RS K ⟨w.F, w.e, upd G D o'⟩ st (upd H D o') := by
  have hF : w.F D = none := s.gF D (by show upd G D o D ≠ none; rw [upd_same]; exact fun z => nomatch z)
  have hE : ∀ (i : Nat) (p : Addr), w.e[i]? = some p → p ≠ D := fun i p e z => by
    have := s.gse i p e
    subst z
    have h : upd G p o p = none := this
    rw [upd_same] at h; cases h
  have tn : ∀ q ∈ K.B.T, q.1 ≠ D := fun q hq z => by
    have := (s.tabF q hq).2
    have h : upd G D o q.1 = none := this
    rw [z, upd_same] at h; cases h
  refine ⟨fun p q e => ?_, s.len, fun i p q e1 e2 => ?_, s.nd, s.sep, fun p q e => ?_, fun i p e => ?_, fun p n => ?_, s.tabs (fun q hq => upd_ne (tn q hq)) fun _ _ z => z, fun q hq => ⟨(s.tabF q hq).1, (upd_ne (tn q hq)).trans ((upd_ne (tn q hq)).symm.trans (s.tabF q hq).2)⟩⟩
  · have : p ≠ D := fun z => by subst z; rw [show w.F p = none from hF] at e; cases e
    rw [upd_ne this]; exact s.sub p q e
  · exact RO.monoR (w := ⟨w.F, w.e, upd G D o⟩) (w' := ⟨w.F, w.e, upd G D o'⟩) ⟨fun _ _ h => h, fun _ _ h => h⟩ ((s.obj i p q e1 e2).keep (Le.refl _) (upd_ne (hE i p e1)))
  · have e' : upd G D o' p = some q := e
    by_cases z : p = D
    · subst z; rw [upd_same] at e' ⊢; exact e'
    · rw [upd_ne z] at e' ⊢
      exact s.gub p q (by show upd G D o p = some q; rw [upd_ne z]; exact e')
  · show upd G D o' p = none
    have := s.gse i p e
    have h : upd G D o p = none := this
    rw [upd_ne (hE i p e)] at h ⊢; exact h
  · have n' : upd G D o' p ≠ none := n
    by_cases z : p = D
    · subst z; exact hF
    · rw [upd_ne z] at n'; exact s.gF p (by show upd G D o p ≠ none; rw [upd_ne z]; exact n')
theorem RS.seal {G : Hp} {o : HO} (s : RS K ⟨w.F, w.e, upd G D o⟩ st H) (hG : G D = none) : RS K ⟨upd w.F D o, w.e, G⟩ st H := by
  have hF : w.F D = none := s.gF D (by show upd G D o D ≠ none; rw [upd_same]; exact fun z => nomatch z)
  have hE : ∀ (i : Nat) (p : Addr), w.e[i]? = some p → p ≠ D := fun i p e z => by
    have := s.gse i p e
    subst z
    have h : upd G p o p = none := this
    rw [upd_same] at h; cases h
  have ne : ∀ p, G p ≠ none → p ≠ D := fun p n z => n (by rw [z]; exact hG)
  have tn : ∀ q ∈ K.B.T, q.1 ≠ D := fun q hq z => by
    have := (s.tabF q hq).2
    have h : upd G D o q.1 = none := this
    rw [z, upd_same] at h; cases h
  refine ⟨fun p q e => ?_, s.len, fun i p q e1 e2 => ?_, s.nd, fun i p e => ?_, fun p q e => ?_, fun i p e => ?_, fun p n => ?_, s.tabs (fun _ _ => rfl) (fun r o' h' => (upd_ne (fun z => by subst z; rw [show w.F r = none from hF] at h'; cases h')).trans h'), fun q hq => ⟨(upd_ne (tn q hq)).trans (s.tabF q hq).1, (upd_ne (tn q hq)).symm.trans (s.tabF q hq).2⟩⟩
  · have e' : upd w.F D o p = some q := e
    by_cases z : p = D
    · subst z
      rw [upd_same] at e'
      exact s.gub p q (by show upd G p o p = some q; rw [upd_same]; exact e')
    · rw [upd_ne z] at e'; exact s.sub p q e'
  · refine RO.monoR (w := ⟨w.F, w.e, upd G D o⟩) (w' := ⟨upd w.F D o, w.e, G⟩) ⟨fun r o' h => ?_, fun _ _ h => h⟩ (s.obj i p q e1 e2)
    show upd w.F D o r = some o'
    have h' : w.F r = some o' := h
    rw [upd_ne (fun z => by subst z; rw [hF] at h'; cases h')]; exact h'
  · show upd w.F D o p = none
    rw [upd_ne (hE i p e)]; exact s.sep i p e
  · exact s.gub p q (by show upd G D o p = some q; rw [upd_ne (ne p (fun z => by rw [show G p = some _ from e] at z; cases z))]; exact e)
  · have := s.gse i p e
    have h : upd G D o p = none := this
    rw [upd_ne (hE i p e)] at h; exact h
  · show upd w.F D o p = none
    rw [upd_ne (ne p n)]
    exact s.gF p (by show upd G D o p ≠ none; rw [upd_ne (ne p n)]; exact n)
theorem RS.adoptO {G : Hp} {so : SO} {ho : HO} (s : RS K ⟨w.F, w.e, upd G D ho⟩ st H) (hG : G D = none) (r : H D = some ho → RO K ⟨w.F, w.e ++ [D], G⟩ H D so) : RS K ⟨w.F, w.e ++ [D], G⟩ (st ++ [so]) H := by
  have hF : w.F D = none := s.gF D (by show upd G D _ D ≠ none; rw [upd_same]; exact fun z => nomatch z)
  have hD : H D = some ho := s.gub D _ (by show upd G D _ D = _; rw [upd_same])
  have hE : ∀ (i : Nat) (p : Addr), w.e[i]? = some p → p ≠ D := fun i p e z => by
    have := s.gse i p e
    subst z
    have h : upd G p ho p = none := this
    rw [upd_same] at h; cases h
  have ne : ∀ p, G p ≠ none → p ≠ D := fun p n z => n (by rw [z]; exact hG)
  have le : LeR w ⟨w.F, w.e ++ [D], G⟩ := ⟨fun _ _ h => h, fun i q e => by
    show (w.e ++ [D])[i]? = some q
    rw [List.getElem?_append_left (List.getElem?_eq_some_iff.mp e).1]; exact e⟩
  have at_ : ∀ (i : Nat) (q : Addr), (w.e ++ [D])[i]? = some q → (i < w.e.length ∧ w.e[i]? = some q) ∨ (i = w.e.length ∧ q = D) := fun i q e => by
    by_cases hi : i < w.e.length
    · rw [List.getElem?_append_left hi] at e; exact .inl ⟨hi, e⟩
    · rw [List.getElem?_append_right (by omega)] at e
      have h0 : i - w.e.length = 0 := by
        have := (List.getElem?_eq_some_iff.mp e).1
        simp at this; omega
      rw [h0] at e
      exact .inr ⟨by omega, by simpa using e.symm⟩
  have hl : w.e.length = st.length := s.len
  have tn : ∀ q ∈ K.B.T, q.1 ≠ D := fun q hq z => by
    have := (s.tabF q hq).2
    have h : upd G D ho q.1 = none := this
    rw [z, upd_same] at h; cases h
  refine ⟨s.sub, by simp [hl], fun i q o e1 e2 => ?_, ?_, fun i q e => ?_, fun p o e => ?_, fun i q e => ?_, fun p n => ?_, s.tabs (fun _ _ => rfl) fun _ _ z => z, fun q hq => ⟨(s.tabF q hq).1, (upd_ne (tn q hq)).symm.trans (s.tabF q hq).2⟩⟩
  · rcases at_ i q e1 with ⟨hi, e⟩ | ⟨rfl, rfl⟩
    · rw [List.getElem?_append_left (by rw [← hl]; exact hi)] at e2
      exact RO.monoR (w := ⟨w.F, w.e, upd G D ho⟩) (w' := ⟨w.F, w.e ++ [D], G⟩) ⟨fun _ _ h => h, le.e⟩ (s.obj i q o e e2)
    · rw [List.getElem?_append_right (by omega), hl] at e2
      simp at e2
      subst e2
      exact r hD
  · show (w.e ++ [D]).Nodup
    rw [List.nodup_append]
    refine ⟨s.nd, by simp, fun a ha b hb z => ?_⟩
    have hb' : b = D := by simpa using hb
    subst z hb'
    obtain ⟨i, hi⟩ := List.getElem?_of_mem ha
    exact hE i _ hi rfl
  · rcases at_ i q e with ⟨_, e⟩ | ⟨_, rfl⟩
    · exact s.sep i q e
    · exact hF
  · exact s.gub p o (by show upd G D _ p = some o; rw [upd_ne (ne p (fun z => by rw [show G p = some _ from e] at z; cases z))]; exact e)
  · rcases at_ i q e with ⟨_, e⟩ | ⟨_, rfl⟩
    · have := s.gse i q e
      have h : upd G D ho q = none := this
      rw [upd_ne (hE i q e)] at h; exact h
    · exact hG
  · exact s.gF p (by show upd G D _ p ≠ none; rw [upd_ne (ne p n)]; exact n)
theorem RS.adopt {G : Hp} {vs : List Val} {xs : List V} (s : RS K ⟨w.F, w.e, upd G D (.lst xs)⟩ st H) (hG : G D = none) (hz : vs.length ≤ sizeLine) (r : RVs K w vs xs) : RS K ⟨w.F, w.e ++ [D], G⟩ (st ++ [.lst vs]) H := by
  have le : LeR w ⟨w.F, w.e ++ [D], G⟩ := ⟨fun _ _ h => h, fun i q e => by
    show (w.e ++ [D])[i]? = some q
    rw [List.getElem?_append_left (List.getElem?_eq_some_iff.mp e).1]; exact e⟩
  exact s.adoptO hG fun hD => ⟨xs, hD, hz, RVs.monoR le _ r⟩
theorem Post.up {α : Type} {w wd : Wd} {r : R α} {A : Wd → α → Store → Hp → Prop} {B : XK} (l : LeR w wd) (hg : ∀ p o, w.G p = some o → wd.G p = some o) (h : Post K w r A B) : Post K wd r (fun w3 a st H => A ⟨w3.F, w3.e, w.G⟩ a st H) B := by
  have lift : ∀ {w3 : Wd}, Le wd w3 → Le w ⟨w3.F, w3.e, w.G⟩ := fun l3 => ⟨fun p o e => l3.F p o (l.F p o e), fun i p e => l3.e i p (l.e i p e), rfl⟩
  cases r with
  | ok a st => exact fun w3 H' l3 s => h _ H' (lift l3) (s.less fun p o e => by rw [l3.G]; exact hg p o e)
  | err c ns vs st =>
    intro w3 cls d H' l3 s x
    obtain ⟨x1, dd, fs, x2, x3, x4, x5⟩ := x
    exact h _ cls d H' (lift l3) (s.less fun p o e => by rw [l3.G]; exact hg p o e) ⟨x1, dd, fs, x2, x3, x4, RVs.monoR (leG w3 w.G) _ x5⟩
  | stuck => exact h
theorem Post.seqN {α β : Type} {w : Wd} {r : R α} {k : α → Store → R β} {A : Wd → β → Store → Hp → Prop} {B : XK} (h : Post K w ((noErr r).then_ k) A B) : Post K w r (fun w' a st' _ => Post K w' (k a st') A B) (fun _ _ _ => False) := by
  cases r with
  | ok a st => exact fun w2 H' l2 s => (show Post K w (k a st) A B from h).mono l2
  | err c ns vs st => exact h.elim
  | stuck => exact h
end
def stOk (sc : Sco) (x : Str) : Bool := decide (sc.sc.names.lookup x = some .local) || (sc.df && decide (sc.sc.names.lookup x = some .cell))
mutual
def tgC (N : List Str) (sc : Sco) : Expr → MT → Bool
  | .Name x _, .v i => decide (N[i]? = some x) && stOk sc x
  | .Tuple es _ _, .t ts => tgsC N sc es ts
  | _, _ => false
def tgsC (N : List Str) (sc : Sco) : List Expr → List MT → Bool
  | [], [] => true
  | e :: es, t :: ts => tgC N sc e t && tgsC N sc es ts
  | _, _ => false
end
theorem wipe_get (σ : L2.St) (j : Nat) : ∀ vs : List Nat, (L2.wipe σ vs)[j]? = if j ∈ vs then (σ[j]?).map (fun _ => none) else σ[j]?
  | [] => by simp [L2.wipe]
  | v :: vs => by
    have ih := wipe_get σ j vs
    unfold L2.wipe
    by_cases hv : v = j
    · subst hv
      rw [if_pos (by simp)]
      by_cases hl : v < σ.length
      · rw [List.getElem?_set_self (by rw [L2.wipe_length]; exact hl)]
        simp [hl]
      · rw [List.getElem?_eq_none (by simp [L2.wipe_length]; omega), List.getElem?_eq_none (by omega)]; rfl
    · rw [List.getElem?_set_ne hv, ih]
      by_cases hj : j ∈ vs
      · rw [if_pos hj, if_pos (List.mem_cons_of_mem _ hj)]
      · rw [if_neg hj, if_neg]
        intro z
        rcases List.mem_cons.mp z with z |
                                           z
        · exact hv z.symm
        · exact hj z
theorem wipe_set {σ : L2.St} {i : Nat} {x : Option V} {vs : List Nat} (h : i ∈ vs) : L2.wipe (σ.set i x) vs = L2.wipe σ vs := by
  apply List.ext_getElem?
  intro j
  rw [wipe_get, wipe_get]
  by_cases hj : j ∈ vs
  · rw [if_pos hj, if_pos hj, List.getElem?_set]
    split
    · rename_i e
      subst e
      split
      · rename_i hl; simp [hl]
      · rename_i hl; rw [List.getElem?_eq_none (by omega)]
    · rfl
  · rw [if_neg hj, if_neg hj, List.getElem?_set_ne fun z => hj (by rw [← z]; exact h)]
section
variable {P : Prog} {Φ : Cal} {fa : Str → Addr} {k : Nat} {N : List Str} {sc : Sco} {W : WX} {X : Cx} {Bz : Zs}
theorem RE.set {K : KZ} {w : Wd} {env : Env} {σ : L2.St} (h : RE K w env σ) (i : Nat) {v : Val} {x : V} (r : RV K w v x) : RE K w (env.set i (some v)) (σ.set i (some x)) := by
  refine ⟨by rw [List.length_set, List.length_set]; exact h.1, fun j u e => ?_⟩
  by_cases hj : i = j
  · subst hj
    have hl : i < env.length := by have := (List.getElem?_eq_some_iff.mp e).1; rwa [List.length_set] at this
    rw [List.getElem?_set_self hl] at e
    cases e
    exact ⟨x, List.getElem?_set_self (by rw [← h.1]; exact hl), r⟩
  · rw [List.getElem?_set_ne hj] at e ⊢
    exact h.2 j u e
theorem RE.wipe {K : KZ} {w : Wd} {env : Env} {σ : L2.St} (h : RE K w env σ) : ∀ vs : List Nat, RE K w (wipeE env vs) (L2.wipe σ vs)
  | [] => h
  | v :: vs => by
    have ih := RE.wipe h vs
    refine ⟨by unfold wipeE L2.wipe; rw [List.length_set, List.length_set]; exact ih.1, fun j u e => ?_⟩
    unfold wipeE at e
    unfold L2.wipe
    by_cases hj : v = j
    · subst hj
      have hl : v < (wipeE env vs).length := by have := (List.getElem?_eq_some_iff.mp e).1; rwa [List.length_set] at this
      rw [List.getElem?_set_self hl] at e
      cases e
    · rw [List.getElem?_set_ne hj] at e ⊢
      exact ih.2 j u e
def tgR (K : KZ) (t : MT) : TG := fun x σ H Q => ∃ w env st v env', RE K w env σ ∧ RS K w st H ∧ RV K w v x ∧ bindT t v env = some env' ∧ ∀ σ', RE K w env' σ' → (∀ vs : List Nat, (∀ i ∈ slots t, i ∈ vs) → L2.wipe σ' vs = L2.wipe σ vs) → Q σ' H
def tgsR (K : KZ) (ts : List MT) : TGs := fun xs σ H Q => ∃ w env st vs env', RE K w env σ ∧ RS K w st H ∧ RVs K w vs xs ∧ bindTs ts vs env = some env' ∧ ∀ σ', RE K w env' σ' → (∀ us : List Nat, (∀ i ∈ slotsL ts, i ∈ us) → L2.wipe σ' us = L2.wipe σ us) → Q σ' H
theorem _root_.L2.PG.imp {e : Expr} {t t' : TG} (h : PG X e t) (i : ∀ x σ H Q, t' x σ H Q → t x σ H Q) : PG X e t' := ⟨fun pins s σ H v u Q I r q => h.run pins s σ H v u Q I r (i v σ H Q q)⟩
theorem _root_.L2.PGs.imp {e : List Expr} {t t' : TGs} (h : PGs X e t) (i : ∀ x σ H Q, t' x σ H Q → t x σ H Q) : PGs X e t' := ⟨fun pins s σ H v u Q I r q => h.run pins s σ H v u Q I r (i v σ H Q q)⟩
theorem tgC_cases {e : Expr} {t : MT} (h : tgC N sc e t = true) : (∃ x p i, e = .Name x p ∧ t = .v i ∧ N[i]? = some x ∧ stOk sc x = true) ∨ ∃ es n p ts, e = .Tuple es n p ∧ t = .t ts ∧ tgsC N sc es ts = true := by
  unfold tgC at h
  split at h
  · rename_i x p i
    simp only [Bool.and_eq_true, decide_eq_true_eq] at
                                                       h
    exact .inl ⟨x, p, i, rfl, rfl, h.1, h.2⟩
  · rename_i es n p ts
    exact .inr ⟨es, n, p, ts, rfl, rfl, h⟩
  · cases h
theorem tgsC_cons {es : List Expr} {t : MT} {ts : List MT} (h : tgsC N sc es (t :: ts) = true) : ∃ e er, es = e :: er ∧ tgC N sc e t = true ∧ tgsC N sc er ts = true := by
  cases es with
  | nil => unfold tgsC at h; cases h
  | cons e er =>
    unfold tgsC at h
    simp only [Bool.and_eq_true] at
                                    h
    exact ⟨e, er, rfl, h.1, h.2⟩
theorem tgsC_nil {es : List Expr} (h : tgsC N sc es [] = true) : es = [] := by
  cases es with
  | nil => rfl
  | cons e er => unfold tgsC at h; cases h
theorem asg_cons {e : Expr} {t : MT} (h : tgC N sc e t = true) (es : List Expr) (env : PySem.Env) : assignEach (e :: es) env = (false, assign e env) :: assignEach es env := by
  rcases tgC_cases h with ⟨x, p, i, rfl, _⟩ | ⟨es', n, p, ts, rfl, _⟩ <;> rfl
theorem asg_all : ∀ (ts : List MT) (es : List Expr), tgsC N sc es ts = true → ∀ env : PySem.Env, (assignEach es env).length = es.length ∧ (assignEach es env).findIdx? (·.1) = none ∧ es.length = ts.length
  | [], es, h, env => by
    cases tgsC_nil h
    exact ⟨rfl, rfl, rfl⟩
  | t :: ts, es, h, env => by
    obtain ⟨e, er, rfl, h1, h2⟩ := tgsC_cons h
    obtain ⟨i1, i2, i3⟩ := asg_all ts er h2 env
    rw [asg_cons h1]
    refine ⟨by simp [i1], ?_, by simp [i3]⟩
    rw [List.findIdx?_cons, i2]; rfl
theorem _root_.L2.PG.either {e : Expr} {t t' : TG} (h : PG X e t) (h' : PG X e t') : PG X e (fun v σ H Q => t v σ H Q ∨ t' v σ H Q) := ⟨fun pins s σ H v u Q I r q => q.elim (h.run pins s σ H v u Q I r) (h'.run pins s σ H v u Q I r)⟩
theorem bindTs_len : ∀ (ts : List MT) (vs : List Val) (env : Env) (env' : Env), bindTs ts vs env = some env' → vs.length = ts.length := by
  intro ts
  induction ts with
  | nil => intro vs env env' e; cases vs with | nil => rfl | cons _ _ => cases e
  | cons t ts ih =>
    intro vs env env' e
    cases vs with
    | nil => cases e
    | cons v vs =>
      simp only [bindTs] at e
      split at e
      · rw [List.length_cons, List.length_cons, ih _ _ _ e]
      · cases e
mutual
theorem pg_ok (O : OkX P Φ fa k N sc W X Bz) : ∀ (t : MT) (e : Expr), tgC N sc e t = true → PG X e (tgR ⟨X.K, Bz⟩ t)
  | .v i, e, h => by
    rcases tgC_cases h with ⟨x, p, j, rfl, ht, hN, hx⟩ | ⟨es, n, p, ts, _, ht, _⟩
    · cases ht
      have hloc : Loc X.env.scope x ∧ (X.fn x = true ∨ X.env.scope.names.lookup x = some .local) := by
        rw [O.sco]
        unfold stOk at hx
        simp only [Bool.or_eq_true, Bool.and_eq_true, decide_eq_true_eq] at hx
        rcases hx with hx | ⟨h1, h2⟩
        · exact ⟨.inl hx, .inr hx⟩
        · exact ⟨.inr h2, .inl (O.fn h1 x)⟩
      refine (pg_name (by rw [O.names]; exact O.nd) (by rw [O.names]; exact hN) hloc.1 hloc.2).imp fun x σ H Q ⟨w, env, st, v, env', hE, hS, rv, e, q⟩ => ?_
      simp only [bindT] at e
      split at e
      · cases e
        exact q _ (hE.set _ rv) fun vs hv => wipe_set (hv _ (by simp [slots]))
      · cases e
    · cases ht
  | .t ts, e, h => by
    rcases tgC_cases h with ⟨x, p, j, _, ht, _⟩ | ⟨es, n, p, ts', rfl, ht, hh⟩
    · cases ht
    · cases ht
      obtain ⟨a1, a2, a3⟩ := asg_all ts es hh X.env
      refine ((pg_tup O.calm (pgs_ok O ts es hh) a1 a2).either (pg_lst O.calm (pgs_ok O ts es hh) a1 a2)).imp fun x σ H Q ⟨w, env, st, v, env', hE, hS, rv, e, q⟩ => ?_
      cases v with
      | tup vs =>
        obtain ⟨a, xs, rfl, s, z, rr⟩ := rv
        exact .inl ⟨a, xs, rfl, SqT.mono hS.sub s, by rw [← rr.length, bindTs_len ts vs env env' e, a3], w, env, st, vs, env', hE, hS, rr, e, fun σ' h1 h2 => q σ' h1 fun us hu => h2 us fun i hi => hu i (by simpa [slots] using hi)⟩
      | lst vs =>
        obtain ⟨a, xs, rfl, s, z, rr⟩ := rv
        exact .inr ⟨a, xs, rfl, SqL.of (hS.sub _ _ s), by rw [← rr.length, bindTs_len ts vs env env' e, a3], w, env, st, vs, env', hE, hS, rr, e, fun σ' h1 h2 => q σ' h1 fun us hu => h2 us fun i hi => hu i (by simpa [slots] using hi)⟩
      | _ => cases e
theorem pgs_ok (O : OkX P Φ fa k N sc W X Bz) : ∀ (ts : List MT) (es : List Expr), tgsC N sc es ts = true → PGs X es (tgsR ⟨X.K, Bz⟩ ts)
  | [], es, h => by
    cases tgsC_nil h
    refine pgs_nil.imp fun xs σ H Q ⟨w, env, st, vs, env', hE, hS, rv, e, q⟩ => ?_
    cases vs with
    | nil =>
      cases e
      exact ⟨rv, q σ hE fun _ _ => rfl⟩
    | cons _ _ => cases e
  | t :: ts, es, h => by
    obtain ⟨e, er, rfl, h1, h2⟩ := tgsC_cons h
    refine (pgs_cons (pg_ok O t e h1) (pgs_ok O ts er h2) (by rw [asg_cons h1]; rfl)).imp fun xs σ H Q ⟨w, env, st, vs, env', hE, hS, rv, e, q⟩ => ?_
    cases vs with
    | nil => cases e
    | cons v vs =>
      simp only [bindTs] at e
      split at e
      · rename_i env1 e1
        obtain ⟨x, xr, rfl, r1, r2⟩ := rv
        refine ⟨x, xr, rfl, w, env, st, v, env1, hE, hS, r1, e1, fun σ1 g1 g2 => ?_⟩
        exact ⟨w, env1, st, vs, env', g1, hS, r2, e, fun σ2 k1 k2 => q σ2 k1 fun us hu => (k2 us fun i hi => hu i (by simp [slotsL, hi])).trans (g2 us fun i hi => hu i (by simp [slotsL, hi]))⟩
      · cases e
end
end
end Mp
end
section
set_option Elab.async false
set_option linter.all false
set_option maxRecDepth 100000
set_option maxHeartbeats
                         1000000
namespace Mp
open PySem L2 PySem.Spec PyProof.Rows
section
variable {P : Prog} {Φ : Cal} {fa : Str → Addr} {k : Nat} {N : List Str} {sc : Sco} {W : WX} {X : Cx} {Bz : Zs}
abbrev Wf : WX := fun _ _ _ _ => False
theorem blk_ok (O : OkX P Φ fa k N sc W X Bz) (s : Shared) (H : Hp) (scope : Scope) (C : Addr) (cl : List (Str × Addr)) (fp : List Addr) : OkX P Φ fa k N ⟨relS scope sc.sc, false, false⟩ Wf (X.blk s H scope (compEnvC scope cl C X.env) fp) Bz := by
  refine ⟨⟨O.calm, O.names, O.nd, fun h => (nomatch h), ?_, fun u s' h => ?_, PassesOwn.never, O.room, O.lk⟩, fun z => nomatch z⟩
  · show relS scope X.env.scope = _
    rw [O.sco]
  · obtain ⟨_, _, _, _, _, _, _, _, _, _, _, _, _, _, _, _, z⟩ := h
    exact z
theorem compL_nil (f : Val → Store → R (Option Val)) (live : List (Nat × List Val)) (acc : List Val) (st : Store) : compL f live [] acc st = if stillB st live = true then .ok acc st else .stuck := rfl
theorem compL_cons (f : Val → Store → R (Option Val)) (live : List (Nat × List Val)) (x : Val) (r acc : List Val) (st : Store) : compL f live (x :: r) acc st = if stillB st live = true then (noErr (f x st)).then_ fun o st' => match o with
      | some y => compL f live r (acc ++ [y]) st'
      | none => compL f live r acc st'
    else .stuck := rfl
def turnF (P : Prog) (Φ : Cal) (mt : MT) (melt : ME) (mifs : List ME) (env : Env) : Val → Store → R (Option Val) := fun x st => match bindT mt x (wipeE env (slots mt)) with
        | none => .stuck
        | some env' => (testL P Φ mifs env' st).then_ fun b st => match b with
          | true => (evalE P Φ melt env' st).then_ fun y st => .ok (some y) st
          | false => .ok none st
def finC (mu : Bool) (ys : List Val) (st : Store) : R Val := match mu with
      | true => .ok (.ref st.length) (st ++ [.lst ys])
      | false => .ok (.lst ys) st
def compE (P : Prog) (Φ : Cal) (mu : Bool) (mt : MT) (melt : ME) (mifs : List ME) (env : Env) (p : List Val × List (Nat × List Val)) (st : Store) : R Val :=
  if p.1.length ≤ sizeLine then (compL (turnF P Φ mt melt mifs env) p.2 p.1 [] st).then_ (finC mu) else .stuck
theorem evalE_comp (mu : Bool) (melt : ME) (mt : MT) (kd : SrcK) (mes mifs : List ME) (env : Env) (st : Store) : evalE P Φ (.comp mu melt mt kd mes mifs) env st = (srcE P Φ kd mes env st).then_ (compE P Φ mu mt melt mifs env) := rfl
theorem comp_rd {mu : Bool} {melt : ME} {mt : MT} {kd : SrcK} {mes mifs : List ME} {σ : L2.St} {H : Hp} {Q : VK} (h : rdE P Φ ⟨X.K, Bz⟩ W (.comp mu melt mt kd mes mifs) σ H Q) :
    tLc (rdS P Φ ⟨X.K, Bz⟩ W kd mes) (tgR ⟨X.K, Bz⟩ mt) (rdTw P Φ ⟨X.K, Bz⟩ Wf (testL P Φ mifs)) (rdE P Φ ⟨X.K, Bz⟩ Wf melt) (slots mt) σ H Q := by
  obtain ⟨w, env, st, hE, hS, h⟩ := h
  rw [evalE_comp] at h
  refine rd_seq hE hS h fun w1 p st1 H1 l1 hE1 hS1 h1 => fun J itw D hD => ?_
  obtain ⟨items, live⟩ := p
  simp only at itw
  have hG1 : w1.G D = none := by
    cases e : w1.G D with
    | none => rfl
    | some o => rw [hS1.gub D o e] at hD; cases hD
  replace h1 : Post ⟨X.K, Bz⟩ w1 (if items.length ≤ sizeLine then (compL (turnF P Φ mt melt mifs env) live items [] st1).then_ (finC mu) else .stuck) (AV ⟨X.K, Bz⟩ Q) fun c d H' => W c d σ H' := h1
  split at h1
  · rename_i hlen
    replace h1 : Post ⟨X.K, Bz⟩ w1 ((compL (turnF P Φ mt melt mifs env) live (items.drop 0) [] st1).then_ (finC mu)) (AV ⟨X.K, Bz⟩ Q) fun c d H' => W c d σ H' := h1
    let Inv' : Nat → Hp → Prop := fun i H => ∃ w' st' acc accV, Le w1 w' ∧ RS ⟨X.K, Bz⟩ ⟨w'.F, w'.e, upd w'.G D (.lst accV)⟩ st' H ∧ RVs ⟨X.K, Bz⟩ w' acc accV ∧ i ≤ items.length ∧ acc.length ≤ i ∧ Post ⟨X.K, Bz⟩ w' ((compL (turnF P Φ mt melt mifs env) live (items.drop i) acc st').then_ (finC mu)) (AV ⟨X.K, Bz⟩ Q) fun c d H' => W c d σ H'
    refine ⟨fun i m H => m = items.length - i ∧ Inv' i H, ⟨items.length, by omega, w1, st1, [], [], Le.refl _, hS1.lay hD _, RVs.nil, Nat.zero_le _, Nat.le_refl _, h1⟩, ?_⟩
    rintro i m H2 ⟨rfl, w', st', acc, accV, l', sD, ra, hi, hal, hp⟩
    have hG' : w'.G D = none := by rw [l'.G]; exact hG1
    have lR : LeR w1 ⟨w'.F, w'.e, upd w'.G D (.lst accV)⟩ := ⟨l'.F, l'.e⟩
    have lG : LeR w' ⟨w'.F, w'.e, upd w'.G D (.lst accV)⟩ := ⟨fun _ _ h => h, fun _ _ h => h⟩
    have hsub : ∀ q o, w'.G q = some o → upd w'.G D (.lst accV) q = some o := fun q o e => by
      rw [upd_ne fun z => by rw [z, hG'] at e; cases e]; exact e
    by_cases hlt : i < items.length
    · have hdrop : items.drop i = items[i] :: items.drop (i + 1) := List.drop_eq_getElem_cons hlt
      rw [hdrop, compL_cons] at hp
      split at hp
      · rename_i hstill0
        have hstill := still_of hstill0
        replace hp : Post ⟨X.K, Bz⟩ w' ((noErr (turnF P Φ mt melt mifs env items[i] st')).then_ fun o st => (match o with
          | some y => compL (turnF P Φ mt melt mifs env) live (items.drop (i + 1)) (acc ++ [y]) st
          | none => compL (turnF P Φ mt melt mifs env) live (items.drop (i + 1)) acc st).then_ (finC mu)) (AV ⟨X.K, Bz⟩ Q) fun c d H' => W c d σ H' := by
          cases e : noErr (turnF P Φ mt melt mifs env items[i] st') with
          | ok o st => rw [e] at hp; exact hp
          | err _ _ _ _ => rw [e] at hp; exact hp
          | stuck => rw [e] at hp; exact hp
        have hp1 := Post.seqN hp
        refine .inr ⟨itw.go _ st' H2 i lR sD hstill hlt, fun H' => ∃ m', m' < items.length - i ∧ m' = items.length - (i + 1) ∧ Inv' (i + 1) H', fun H' ⟨m', a, b, c⟩ => ⟨m', a, b, c⟩, fun x H3 hy => ?_⟩
        obtain ⟨w2, l2, s2, rx⟩ := itw.yld _ st' H2 i items[i] x H3 lR sD hstill (by simp [hlt]) hy
        have lR2 : LeR w1 w2 := lR.trans l2.r
        have l2w : LeR w' w2 := lG.trans l2.r
        have hs2 : ∀ q o, w'.G q = some o → w2.G q = some o := fun q o e => by rw [l2.G]; exact hsub q o e
        unfold turnF at hp1
        cases hb : bindT mt items[i] (wipeE env (slots mt)) with
        | none => rw [hb] at hp1; exact hp1.elim
        | some env' =>
          rw [hb] at hp1
          refine ⟨w2, _, st', items[i], env', RE.wipe (hE1.monoR lR2) (slots mt), s2, rx, hb, fun σ' hE' hw => ⟨?_, ?_⟩⟩
          · rw [hw (slots mt) fun _ h => h]
            apply List.ext_getElem?
            intro j
            rw [wipe_get, wipe_get]
            split
            · rename_i hj; cases σ[j]? <;> rfl
            · rfl
          · -- the test
            have ht := Post.up l2w hs2 (Post.seq hp1)
            refine ⟨w2, env', st', hE', s2, ht.imp fun w3 b st3 H4 l3 s3 hb3 => ?_⟩
            have l3w : LeR w' w3 := l2w.trans l3.r
            have hG3 : w3.G D = some (.lst accV) := by rw [l3.G, l2.G]; exact upd_same
            have strip3 : RS ⟨X.K, Bz⟩ ⟨w3.F, w3.e, w'.G⟩ st3 H4 := s3.less fun q o e => by rw [l3.G]; exact hs2 q o e
            have lw3 : Le w1 ⟨w3.F, w3.e, w'.G⟩ := ⟨fun q o e => l3w.F q o (l'.F q o e), fun j q e => l3w.e j q (l'.e j q e), l'.G⟩
            have full : ∀ {w4 : Wd} {st4 : Store} {H5 : Hp}, Le w3 w4 → RS ⟨X.K, Bz⟩ w4 st4 H5 → RS ⟨X.K, Bz⟩ ⟨w4.F, w4.e, upd w'.G D (.lst accV)⟩ st4 H5 := fun {w4 st4 H5} l4 s4 => by
              have : w4.G = upd w'.G D (.lst accV) := by rw [l4.G, l3.G, l2.G]
              rw [← this]; exact s4
            cases b with
            | false =>
              simp only [Bool.false_eq_true,
                                             if_false]
              have hfin2 := hb3 _ _ (Le.refl _) strip3
              exact ⟨_, by omega, rfl, _, st3, acc, accV, lw3, full (w4 := w3) (Le.refl _) s3, RVs.monoR (w := w') (w' := ⟨w3.F, w3.e, w'.G⟩) ⟨l3w.F, l3w.e⟩ _ ra, hlt, by omega, hfin2⟩
            | true =>
              simp only [if_true]
              have he := Post.up (leG w3 w'.G |> fun _ => (⟨fun _ _ h => h, fun _ _ h => h⟩ : LeR ⟨w3.F, w3.e, w'.G⟩ w3)) (fun q o e => by rw [l3.G]; exact hs2 q o e) (Post.seq hb3)
              refine ⟨w3, env', st3, hE'.monoR l3.r, s3, he.imp fun w4 y st4 H5 l4 s4 hy4 => fun yv ry => ?_⟩
              have hG4 : w4.G D = some (.lst accV) := by rw [l4.G]; exact hG3
              have hD4 : H5 D = some (.lst accV) := s4.gub D _ hG4
              have strip4 : RS ⟨X.K, Bz⟩ ⟨w4.F, w4.e, w'.G⟩ st4 H5 := s4.less fun q o e => by rw [l4.G, l3.G]; exact hs2 q o e
              have lw4 : Le w1 ⟨w4.F, w4.e, w'.G⟩ := ⟨fun q o e => l4.F q o (lw3.F q o e), fun j q e => l4.e j q (lw3.e j q e), l'.G⟩
              have hfin2 := hy4 _ _ (Le.refl _) strip4
              have ra4 : RVs ⟨X.K, Bz⟩ ⟨w4.F, w4.e, w'.G⟩ acc accV := RVs.monoR (w := w') (w' := ⟨w4.F, w4.e, w'.G⟩) ⟨fun q o e => l4.F q o (l3w.F q o e), fun j q e => l4.e j q (l3w.e j q e)⟩ _ ra
              refine ⟨accV, hD4, by rw [← ra.length]; omega, _, by omega, rfl, _, st4, acc ++ [y], accV ++ [yv], lw4, ?_, RVs.append ra4 (.cons (RV.monoR (leG w4 w'.G) _ ry) .nil), hlt, by rw [List.length_append, List.length_singleton]; omega, hfin2⟩
              exact RS.relay (w := w4) (full (w4 := w4) l4 s4)
      · exact hp.elim
    · have hi' : i = items.length := by omega
      subst hi'
      rw [List.drop_length, compL_nil] at hp
      split at hp
      · rename_i hstill0
        have hstill := still_of hstill0
        refine .inl ⟨itw.stop _ st' H2 _ lR sD hstill (Nat.le_refl _), ?_⟩
        cases mu with
        | false =>
          have lf : Le w' ⟨upd w'.F D (.lst accV), w'.e, w'.G⟩ := ⟨fun q o e => by
            have hF : w'.F D = none := sD.gF D (by show upd w'.G D _ D ≠ none; rw [upd_same]; exact fun z => nomatch z)
            show upd w'.F D _ q = some o
            rw [upd_ne fun z => by rw [z, hF] at e; cases e]; exact e, fun _ _ h => h, rfl⟩
          exact hp _ H2 lf (sD.seal hG') _ ⟨D, accV, rfl, upd_same, by omega, RVs.mono lf _ ra⟩
        | true =>
          have lf : Le w' ⟨w'.F, w'.e ++ [D], w'.G⟩ := RS.push_le D
          refine hp _ H2 lf (sD.adopt hG' (by omega) ra) _ ⟨D, rfl, ?_⟩
          have : w'.e.length = st'.length := sD.len
          show (w'.e ++ [D])[st'.length]? = some D
          rw [← this]; simp
      · exact hp.elim
  · exact h1.elim
theorem loop_in {melt : ME} {mt : MT} {mifs : List ME} {env : Env} {σ : L2.St} {J : It} {wJ : Wd} {items : List Val} {live : List (Nat × List Val)} {D : Addr} {G : Hp}
    (itw : ItW ⟨X.K, Bz⟩ J wJ items live) (hE : RE ⟨X.K, Bz⟩ wJ env σ) (hG : G D = none) {A : Wd → List Val → Store → Hp → Prop} (Nx : Hp → Prop)
    (hend : ∀ w' acc accV st H, LeR wJ w' → w'.G = G → RS ⟨X.K, Bz⟩ ⟨w'.F, w'.e, upd G D (.lst accV)⟩ st H → RVs ⟨X.K, Bz⟩ w' acc accV → acc.length ≤ sizeLine → A w' acc st H → Nx H)
    {w : Wd} (hw : LeR wJ w) (hwG : w.G = G) {st : Store} {H : Hp} {acc : List Val} {accV : List V} (sD0 : RS ⟨X.K, Bz⟩ ⟨w.F, w.e, upd G D (.lst accV)⟩ st H) (ra0 : RVs ⟨X.K, Bz⟩ w acc accV) (hz : acc.length + items.length ≤ sizeLine)
    (hp0 : Post ⟨X.K, Bz⟩ w (compL (turnF P Φ mt melt mifs env) live items acc st) A fun _ _ _ => False) :
    ∃ W1 : Nat → Nat → Hp → Prop, (∃ m, W1 0 m H) ∧ ∀ j k H, W1 j k H → (J.stop j H ∧ Nx H) ∨ (J.go j H ∧ ∃ Nx1 : Hp → Prop, (∀ H', Nx1 H' → ∃ k', k' < k ∧ W1 (j + 1) k' H') ∧ ∀ x H', J.yld j H x H' → tgR ⟨X.K, Bz⟩ mt x (wipe σ (slots mt)) H' fun σ3 H5 => wipe σ3 (slots mt) = wipe σ (slots mt) ∧ rdTw P Φ ⟨X.K, Bz⟩ Wf (testL P Φ mifs) σ3 H5 fun b H6 =>
      if b = true then rdE P Φ ⟨X.K, Bz⟩ Wf melt σ3 H6 fun y H7 => ∃ acc, H7 D = some (.lst acc) ∧ acc.length < sizeLine ∧ Nx1 (upd H7 D (.lst (acc ++ [y]))) else Nx1 H6) := by
  let Inv' : Nat → Hp → Prop := fun i H => ∃ w' st' acc accV, LeR wJ w' ∧ w'.G = G ∧ RS ⟨X.K, Bz⟩ ⟨w'.F, w'.e, upd G D (.lst accV)⟩ st' H ∧ RVs ⟨X.K, Bz⟩ w' acc accV ∧ i ≤ items.length ∧ acc.length + (items.length - i) ≤ sizeLine ∧ Post ⟨X.K, Bz⟩ w' (compL (turnF P Φ mt melt mifs env) live (items.drop i) acc st') A fun _ _ _ => False
  refine ⟨fun i m H => m = items.length - i ∧ Inv' i H, ⟨items.length, by omega, w, st, acc, accV, hw, hwG, sD0, ra0, Nat.zero_le _, by omega, hp0⟩, ?_⟩
  rintro i m H2 ⟨rfl, w', st', acc, accV, l', rfl, sD, ra, hi, hal, hp⟩
  have hG' : w'.G D = none := hG
  have lR : LeR wJ ⟨w'.F, w'.e, upd w'.G D (.lst accV)⟩ := ⟨l'.F, l'.e⟩
  have lG : LeR w' ⟨w'.F, w'.e, upd w'.G D (.lst accV)⟩ := ⟨fun _ _ h => h, fun _ _ h => h⟩
  have hsub : ∀ q o, w'.G q = some o → upd w'.G D (.lst accV) q = some o := fun q o e => by
    rw [upd_ne fun z => by rw [z, hG'] at e; cases e]; exact e
  by_cases hlt : i < items.length
  · have hdrop : items.drop i = items[i] :: items.drop (i + 1) := List.drop_eq_getElem_cons hlt
    rw [hdrop, compL_cons] at hp
    split at hp
    · rename_i hstill0
      have hstill := still_of hstill0
      have hp1 := Post.seqN hp
      refine .inr ⟨itw.go _ st' H2 i lR sD hstill hlt, fun H' => ∃ m', m' < items.length - i ∧ m' = items.length - (i + 1) ∧ Inv' (i + 1) H', fun H' ⟨m', a, b, c⟩ => ⟨m', a, b, c⟩, fun x H3 hy => ?_⟩
      obtain ⟨w2, l2, s2, rx⟩ := itw.yld _ st' H2 i items[i] x H3 lR sD hstill (by simp [hlt]) hy
      have lR2 : LeR wJ w2 := lR.trans l2.r
      have l2w : LeR w' w2 := lG.trans l2.r
      have hs2 : ∀ q o, w'.G q = some o → w2.G q = some o := fun q o e => by rw [l2.G]; exact hsub q o e
      unfold turnF at hp1
      cases hb : bindT mt items[i] (wipeE env (slots mt)) with
      | none => rw [hb] at hp1; exact hp1.elim
      | some env' =>
        rw [hb] at hp1
        refine ⟨w2, _, st', items[i], env', RE.wipe (hE.monoR lR2) (slots mt), s2, rx, hb, fun σ' hE' hw => ⟨?_, ?_⟩⟩
        · rw [hw (slots mt) fun _ h => h]
          apply List.ext_getElem?
          intro j
          rw [wipe_get, wipe_get]
          split
          · rename_i hj; cases σ[j]? <;> rfl
          · rfl
        · have ht := Post.up l2w hs2 (Post.seq hp1)
          refine ⟨w2, env', st', hE', s2, ht.imp fun w3 b st3 H4 l3 s3 hb3 => ?_⟩
          have l3w : LeR w' w3 := l2w.trans l3.r
          have hG3 : w3.G D = some (.lst accV) := by rw [l3.G, l2.G]; exact upd_same
          have strip3 : RS ⟨X.K, Bz⟩ ⟨w3.F, w3.e, w'.G⟩ st3 H4 := s3.less fun q o e => by rw [l3.G]; exact hs2 q o e
          have full : ∀ {w4 : Wd} {st4 : Store} {H5 : Hp}, Le w3 w4 → RS ⟨X.K, Bz⟩ w4 st4 H5 → RS ⟨X.K, Bz⟩ ⟨w4.F, w4.e, upd w'.G D (.lst accV)⟩ st4 H5 := fun {w4 st4 H5} l4 s4 => by
            have : w4.G = upd w'.G D (.lst accV) := by rw [l4.G, l3.G, l2.G]
            rw [← this]; exact s4
          have lw3 : LeR wJ ⟨w3.F, w3.e, w'.G⟩ := ⟨(l'.trans l3w).F, (l'.trans l3w).e⟩
          cases b with
          | false =>
            simp only [Bool.false_eq_true,
                                           if_false]
            have hfin2 := hb3 _ _ (Le.refl _) strip3
            exact ⟨_, by omega, rfl, _, st3, acc, accV, lw3, rfl, full (w4 := w3) (Le.refl _) s3, RVs.monoR (w := w') (w' := ⟨w3.F, w3.e, w'.G⟩) ⟨l3w.F, l3w.e⟩ _ ra, hlt, by omega, hfin2⟩
          | true =>
            simp only [if_true]
            have he := Post.up (leG w3 w'.G |> fun _ => (⟨fun _ _ h => h, fun _ _ h => h⟩ : LeR ⟨w3.F, w3.e, w'.G⟩ w3)) (fun q o e => by rw [l3.G]; exact hs2 q o e) (Post.seq hb3)
            refine ⟨w3, env', st3, hE'.monoR l3.r, s3, he.imp fun w4 y st4 H5 l4 s4 hy4 => fun yv ry => ?_⟩
            have hG4 : w4.G D = some (.lst accV) := by rw [l4.G]; exact hG3
            have hD4 : H5 D = some (.lst accV) := s4.gub D _ hG4
            have strip4 : RS ⟨X.K, Bz⟩ ⟨w4.F, w4.e, w'.G⟩ st4 H5 := s4.less fun q o e => by rw [l4.G, l3.G]; exact hs2 q o e
            have lw4 : LeR wJ ⟨w4.F, w4.e, w'.G⟩ := ⟨fun q o e => l4.F q o (lw3.F q o e), fun j q e => l4.e j q (lw3.e j q e)⟩
            have hfin2 := hy4 _ _ (Le.refl _) strip4
            have ra4 : RVs ⟨X.K, Bz⟩ ⟨w4.F, w4.e, w'.G⟩ acc accV := RVs.monoR (w := w') (w' := ⟨w4.F, w4.e, w'.G⟩) ⟨fun q o e => l4.F q o (l3w.F q o e), fun j q e => l4.e j q (l3w.e j q e)⟩ _ ra
            refine ⟨accV, hD4, by rw [← ra.length]; omega, _, by omega, rfl, _, st4, acc ++ [y], accV ++ [yv], lw4, rfl, ?_, RVs.append ra4 (.cons (RV.monoR (leG w4 w'.G) _ ry) .nil), hlt, by rw [List.length_append, List.length_singleton]; omega, hfin2⟩
            exact RS.relay (w := w4) (full (w4 := w4) l4 s4)
    · exact hp.elim
  · have hi' : i = items.length := by omega
    subst hi'
    rw [List.drop_length, compL_nil] at hp
    split at hp
    · rename_i hstill0
      have hstill := still_of hstill0
      exact .inl ⟨itw.stop _ st' H2 _ lR sD hstill (Nat.le_refl _), hend w' acc accV st' H2 l' rfl sD ra (by omega) (hp w' H2 (Le.refl _) (sD.less hsub))⟩
    · exact hp.elim
def turn2F (P : Prog) (Φ : Cal) (mt : MT) (mifs : List ME) (mt1 : MT) (kd1 : SrcK) (mes1 : List ME) (melt : ME) (mifs1 : List ME) (env : Env) : Val → List Val → Store → R (List Val) := fun x acc st => match bindT mt x (wipeE env (slots mt ++ slots mt1)) with
        | none => .stuck
        | some env' => (testL P Φ mifs env' st).then_ fun b st => match b with
          | true => (srcE P Φ kd1 mes1 env' st).then_ fun p st => if acc.length + p.1.length ≤ sizeLine then compL (turnF P Φ mt1 melt mifs1 env') p.2 p.1 acc st else .stuck
          | false => .ok acc st
theorem evalE_comp2 (mu : Bool) (melt : ME) (mt mt1 : MT) (kd kd1 : SrcK) (mes mifs mes1 mifs1 : List ME) (env : Env) (st : Store) : evalE P Φ (.comp2 mu melt mt kd mes mifs mt1 kd1 mes1 mifs1) env st = (srcE P Φ kd mes env st).then_ fun p st => (comp2L (turn2F P Φ mt mifs mt1 kd1 mes1 melt mifs1 env) p.2 p.1 [] st).then_ (finC mu) := rfl
theorem comp2L_nil (f : Val → List Val → Store → R (List Val)) (live : List (Nat × List Val)) (acc : List Val) (st : Store) : comp2L f live [] acc st = if stillB st live = true then .ok acc st else .stuck := rfl
theorem comp2L_cons (f : Val → List Val → Store → R (List Val)) (live : List (Nat × List Val)) (x : Val) (r acc : List Val) (st : Store) : comp2L f live (x :: r) acc st = if stillB st live = true then (noErr (f x acc st)).then_ fun acc' st' => comp2L f live r acc' st'
    else .stuck := rfl
theorem comp2_rd {mu : Bool} {melt : ME} {mt mt1 : MT} {kd kd1 : SrcK} {mes mifs mes1 mifs1 : List ME} {σ : L2.St} {H : Hp} {Q : VK} (h : rdE P Φ ⟨X.K, Bz⟩ W (.comp2 mu melt mt kd mes mifs mt1 kd1 mes1 mifs1) σ H Q) :
    tLc2 (rdS P Φ ⟨X.K, Bz⟩ W kd mes) (tgR ⟨X.K, Bz⟩ mt) (rdTw P Φ ⟨X.K, Bz⟩ Wf (testL P Φ mifs)) (rdS P Φ ⟨X.K, Bz⟩ Wf kd1 mes1) (tgR ⟨X.K, Bz⟩ mt1) (rdTw P Φ ⟨X.K, Bz⟩ Wf (testL P Φ mifs1)) (rdE P Φ ⟨X.K, Bz⟩ Wf melt) (slots mt ++ slots mt1) (slots mt1) σ H Q := by
  obtain ⟨w, env, st, hE, hS, h⟩ := h
  rw [evalE_comp2] at h
  refine rd_seq hE hS h fun w1 p st1 H1 l1 hE1 hS1 h1 => fun J itw D hD => ?_
  obtain ⟨items, live⟩ := p
  simp only at itw
  have hG1 : w1.G D = none := by
    cases e : w1.G D with
    | none => rfl
    | some o => rw [hS1.gub D o e] at hD; cases hD
  replace h1 : Post ⟨X.K, Bz⟩ w1 ((comp2L (turn2F P Φ mt mifs mt1 kd1 mes1 melt mifs1 env) live (items.drop 0) [] st1).then_ (finC mu)) (AV ⟨X.K, Bz⟩ Q) fun c d H' => W c d σ H' := h1
  let Inv' : Nat → Hp → Prop := fun i H => ∃ w' st' acc accV, Le w1 w' ∧ RS ⟨X.K, Bz⟩ ⟨w'.F, w'.e, upd w'.G D (.lst accV)⟩ st' H ∧ RVs ⟨X.K, Bz⟩ w' acc accV ∧ i ≤ items.length ∧ acc.length ≤ sizeLine ∧ Post ⟨X.K, Bz⟩ w' ((comp2L (turn2F P Φ mt mifs mt1 kd1 mes1 melt mifs1 env) live (items.drop i) acc st').then_ (finC mu)) (AV ⟨X.K, Bz⟩ Q) fun c d H' => W c d σ H'
  refine ⟨fun i m H => m = items.length - i ∧ Inv' i H, ⟨items.length, by omega, w1, st1, [], [], Le.refl _, hS1.lay hD _, RVs.nil, Nat.zero_le _, Nat.zero_le _, h1⟩, ?_⟩
  rintro i m H2 ⟨rfl, w', st', acc, accV, l', sD, ra, hi, hal, hp⟩
  have hG' : w'.G D = none := by rw [l'.G]; exact hG1
  have lR : LeR w1 ⟨w'.F, w'.e, upd w'.G D (.lst accV)⟩ := ⟨l'.F, l'.e⟩
  have lG : LeR w' ⟨w'.F, w'.e, upd w'.G D (.lst accV)⟩ := ⟨fun _ _ h => h, fun _ _ h => h⟩
  have hsub : ∀ q o, w'.G q = some o → upd w'.G D (.lst accV) q = some o := fun q o e => by
    rw [upd_ne fun z => by rw [z, hG'] at e; cases e]; exact e
  by_cases hlt : i < items.length
  · have hdrop : items.drop i = items[i] :: items.drop (i + 1) := List.drop_eq_getElem_cons hlt
    rw [hdrop, comp2L_cons] at hp
    split at hp
    · rename_i hstill0
      have hstill := still_of hstill0
      replace hp : Post ⟨X.K, Bz⟩ w' ((noErr (turn2F P Φ mt mifs mt1 kd1 mes1 melt mifs1 env items[i] acc st')).then_ fun acc st => (comp2L (turn2F P Φ mt mifs mt1 kd1 mes1 melt mifs1 env) live (items.drop (i + 1)) acc st).then_ (finC mu)) (AV ⟨X.K, Bz⟩ Q) fun c d H' => W c d σ H' := by
        cases e : noErr (turn2F P Φ mt mifs mt1 kd1 mes1 melt mifs1 env items[i] acc st') with
        | ok o st => rw [e] at hp; exact hp
        | err _ _ _ _ => rw [e] at hp; exact hp
        | stuck => rw [e] at hp; exact hp
      have hp1 := Post.seqN hp
      refine .inr ⟨itw.go _ st' H2 i lR sD hstill hlt, fun H' => ∃ m', m' < items.length - i ∧ m' = items.length - (i + 1) ∧ Inv' (i + 1) H', fun H' ⟨m', a, b, c⟩ => ⟨m', a, b, c⟩, fun x H3 hy => ?_⟩
      obtain ⟨w2, l2, s2, rx⟩ := itw.yld _ st' H2 i items[i] x H3 lR sD hstill (by simp [hlt]) hy
      have lR2 : LeR w1 w2 := lR.trans l2.r
      have l2w : LeR w' w2 := lG.trans l2.r
      have hs2 : ∀ q o, w'.G q = some o → w2.G q = some o := fun q o e => by rw [l2.G]; exact hsub q o e
      unfold turn2F at hp1
      cases hb : bindT mt items[i] (wipeE env (slots mt ++ slots mt1)) with
      | none => rw [hb] at hp1; exact hp1.elim
      | some env' =>
        rw [hb] at hp1
        refine ⟨w2, _, st', items[i], env', RE.wipe (hE1.monoR lR2) (slots mt ++ slots mt1), s2, rx, hb, fun σ' hE' hw => ⟨?_, ?_⟩⟩
        · rw [hw (slots mt ++ slots mt1) fun _ h => List.mem_append_left _ h]
          apply List.ext_getElem?
          intro j
          rw [wipe_get, wipe_get]
          split
          · rename_i hj; cases σ[j]? <;> rfl
          · rfl
        · have ht := Post.up l2w hs2 (Post.seq hp1)
          refine ⟨w2, env', st', hE', s2, ht.imp fun w3 b st3 H4 l3 s3 hb3 => ?_⟩
          have l3w : LeR w' w3 := l2w.trans l3.r
          have hG3 : w3.G D = some (.lst accV) := by rw [l3.G, l2.G]; exact upd_same
          have strip3 : RS ⟨X.K, Bz⟩ ⟨w3.F, w3.e, w'.G⟩ st3 H4 := s3.less fun q o e => by rw [l3.G]; exact hs2 q o e
          have lw3 : Le w1 ⟨w3.F, w3.e, w'.G⟩ := ⟨fun q o e => l3w.F q o (l'.F q o e), fun j q e => l3w.e j q (l'.e j q e), l'.G⟩
          have full : ∀ {w4 : Wd} {st4 : Store} {H5 : Hp}, Le w3 w4 → RS ⟨X.K, Bz⟩ w4 st4 H5 → RS ⟨X.K, Bz⟩ ⟨w4.F, w4.e, upd w'.G D (.lst accV)⟩ st4 H5 := fun {w4 st4 H5} l4 s4 => by
            have : w4.G = upd w'.G D (.lst accV) := by rw [l4.G, l3.G, l2.G]
            rw [← this]; exact s4
          cases b with
          | false =>
            simp only [Bool.false_eq_true,
                                           if_false]
            have hfin2 := hb3 _ _ (Le.refl _) strip3
            exact ⟨_, by omega, rfl, _, st3, acc, accV, lw3, full (w4 := w3) (Le.refl _) s3, RVs.monoR (w := w') (w' := ⟨w3.F, w3.e, w'.G⟩) ⟨l3w.F, l3w.e⟩ _ ra, hlt, hal, hfin2⟩
          | true =>
            simp only [if_true]
            have he := Post.up (leG w3 w'.G |> fun _ => (⟨fun _ _ h => h, fun _ _ h => h⟩ : LeR ⟨w3.F, w3.e, w'.G⟩ w3)) (fun q o e => by rw [l3.G]; exact hs2 q o e) (Post.seq hb3)
            refine ⟨w3, env', st3, hE'.monoR l3.r, s3, he.imp fun w4 p1 st4 H5 l4 s4 hy4 => fun J1 itw1 => ?_⟩
            obtain ⟨items1, live1⟩ := p1
            simp only at itw1 hy4
            have strip4 : RS ⟨X.K, Bz⟩ ⟨w4.F, w4.e, w'.G⟩ st4 H5 := s4.less fun q o e => by rw [l4.G, l3.G]; exact hs2 q o e
            have lw4 : Le w1 ⟨w4.F, w4.e, w'.G⟩ := ⟨fun q o e => l4.F q o (lw3.F q o e), fun j q e => l4.e j q (lw3.e j q e), l'.G⟩
            have ra4 : RVs ⟨X.K, Bz⟩ ⟨w4.F, w4.e, w'.G⟩ acc accV := RVs.monoR (w := w') (w' := ⟨w4.F, w4.e, w'.G⟩) ⟨fun q o e => l4.F q o (l3w.F q o e), fun j q e => l4.e j q (l3w.e j q e)⟩ _ ra
            split at hy4
            · rename_i hz1
              refine loop_in (w := ⟨w4.F, w4.e, w'.G⟩) (G := w'.G) itw1 ((hE'.monoR l3.r).monoR l4.r) hG' _ (fun w5 acc5 accV5 st5 H6 l5 hg5 s5 r5 z5 a5 => ?_) (leG w4 w'.G) rfl (full (w4 := w4) l4 s4) ra4 hz1 hy4
              subst_vars
              refine ⟨_, by omega, rfl, w5, st5, acc5, accV5, ⟨fun q o e => l5.F q o (lw4.F q o e), fun j q e => l5.e j q (lw4.e j q e), by rw [hg5]; exact l'.G⟩, by rw [hg5]; exact s5, r5, hlt, z5, a5⟩
            · exact hy4.elim
    · exact hp.elim
  · have hi' : i = items.length := by omega
    subst hi'
    rw [List.drop_length, comp2L_nil] at hp
    split at hp
    · rename_i hstill0
      have hstill := still_of hstill0
      refine .inl ⟨itw.stop _ st' H2 _ lR sD hstill (Nat.le_refl _), ?_⟩
      cases mu with
      | false =>
        have lf : Le w' ⟨upd w'.F D (.lst accV), w'.e, w'.G⟩ := ⟨fun q o e => by
          have hF : w'.F D = none := sD.gF D (by show upd w'.G D _ D ≠ none; rw [upd_same]; exact fun z => nomatch z)
          show upd w'.F D _ q = some o
          rw [upd_ne fun z => by rw [z, hF] at e; cases e]; exact e, fun _ _ h => h, rfl⟩
        exact hp _ H2 lf (sD.seal hG') _ ⟨D, accV, rfl, upd_same, hal, RVs.mono lf _ ra⟩
      | true =>
        have lf : Le w' ⟨w'.F, w'.e ++ [D], w'.G⟩ := RS.push_le D
        refine hp _ H2 lf (sD.adopt hG' hal ra) _ ⟨D, rfl, ?_⟩
        have : w'.e.length = st'.length := sD.len
        show (w'.e ++ [D])[st'.length]? = some D
        rw [← this]; simp
    · exact hp.elim
end
end Mp
end
section
set_option Elab.async false
set_option linter.all false
set_option maxRecDepth 100000
set_option maxHeartbeats
                         1000000
namespace Mp
open PySem L2 PySem.Spec PyProof.Rows
section
variable {P : Prog} {Φ : Cal} {fa : Str → Addr} {k : Nat} {N : List Str} {sc : Sco} {W : WX} {X : Cx} {Bz : Zs}
theorem unitsD (O : OkX P Φ fa k N sc W X Bz) : X.A.units + 1 < cLine := by have := units64 O; omega
theorem dgetV_rel {K : KZ} {w : Wd} {st : Store} {H : Hp} {v u : Val} {x : V} {f : Str} (hS : RS K w st H) (r : RV K w v x) (h : dgetV st v f = some u) : ∃ p y, x = .ref p ∧ DGet H p (.str f) (some y) ∧ RV K w u y := by
  unfold dgetV at h
  cases e : dctOf st v with
  | none => rw [e] at h; cases
                               h
  | some z =>
    obtain ⟨ns, vs⟩ := z
    rw [e] at h
    obtain ⟨p, fs, rfl, hp, hn, rr⟩ := dctOf_rel hS r e
    obtain ⟨y, hy, ry⟩ := (fld_rel hn rr).1 u h
    refine ⟨p, y, rfl, ?_, ry⟩
    have := DGet.k (k := (.inr f : Key)) hp
    rw [show valV (fs.map fun x => ((.inr x.1, x.2) : Key × V)) (.inr f) = some y from (valV_kf f fs).trans hy] at this
    exact this
theorem snd_dget (O : OkX P Φ fa k N sc W X Bz) {x y : Expr} {pos : Pos} {a : ME} {f : Str} (ha : PE X x (rdE P Φ ⟨X.K, Bz⟩ W a)) (hy : PE X y (rdE P Φ ⟨X.K, Bz⟩ W (.str f))) (hs : NoSl y) : PE X (.Subscript x y pos) (rdE P Φ ⟨X.K, Bz⟩ W (.dget a f)) := by
  refine (pe_dget (unitsD O) ha hy hs).imp fun σ H Q ⟨w, env, st, hE, hS, h⟩ => ?_
  refine rdE_seq hE hS h fun w1 v x1 st1 H1 l1 hE1 hS1 rv h1 => ?_
  refine ⟨w1, env, st1, hE1, hS1, fun w2 H2 l2 hS2 yv ry => ?_⟩
  obtain ⟨rfl, _⟩ : yv = .str f ∧ _ := ry
  cases e : dgetV st1 v f with
  | none => rw [e] at h1; exact h1.elim
  | some u =>
    rw [e] at h1
    obtain ⟨p, z, rfl, g, rz⟩ := dgetV_rel hS2 (RV.mono l2 v rv) e
    exact ⟨p, z, rfl, g, h1 w2 H2 l2 hS2 z rz⟩
theorem snd_ladd {a b : Expr} {ma mb : ME} {pos : Pos} (ha : PE X a (rdE P Φ ⟨X.K, Bz⟩ W ma)) (hb : PE X b (rdE P Φ ⟨X.K, Bz⟩ W mb)) : PE X (.BinOp a .Add b pos) (rdE P Φ ⟨X.K, Bz⟩ W (.ladd ma mb)) := by
  refine (pe_op op_cat ha hb).imp fun σ H Q ⟨w, env, st, hE, hS, h⟩ => ?_
  refine rdE_seq hE hS h fun w1 v x st1 H1 l1 hE1 hS1 rv h1 => ?_
  refine rdE_seq hE1 hS1 h1 fun w2 u y st2 H2 l2 hE2 hS2 ru h2 => ?_
  cases e1 : lstOf st2 v with
  | none => rw [e1] at h2; exact h2.elim
  | some us =>
    cases e2 : lstOf st2 u with
    | none => rw [e1, e2] at h2; exact h2.elim
    | some ws =>
      rw [e1, e2] at h2
      simp only at h2
      split at h2
      · rename_i hz
        obtain ⟨p, xs, rfl, g1, z1, r1⟩ := lstOf_rel hS2 (RV.mono l2 v rv) e1
        obtain ⟨p2, ys, rfl, g2, z2, r2⟩ := lstOf_rel hS2 ru e2
        refine ⟨p, p2, xs, ys, rfl, rfl, g1, g2, by rw [← r1.length, ← r2.length]; exact hz, fun l hl => ?_⟩
        have s2 := hS2.push (H' := upd H2 l (.lst (xs ++ ys))) (s := .lst (us ++ ws)) hl (fun q n _ => upd_ne n) ⟨xs ++ ys, upd_same, by rw [List.length_append]; exact hz, RVs.mono (RS.push_le l) _ (r1.append r2)⟩
        refine h2 _ _ (RS.push_le l) s2 _ ⟨l, rfl, ?_⟩
        show (w2.e ++ [l])[st2.length]? = some l
        rw [← hS2.len]; simp
      · exact h2.elim
def rSetD : V → V → V → Hp → (Hp → Prop) → Prop := fun o i v H Q => ∃ p H', o = .ref p ∧ DPut H p i v H' ∧ Q H'
theorem set_dict (O : OkX P Φ fa k N sc W X Bz) : PSet X rSetD := by
  intro pins s σ H o i v ov iv u Q I ro ri rv
                                              h
  obtain ⟨p, H', rfl, g, q⟩ := h
  obtain rfl : ov = Value.ref p := ro
  exact d_setItem (unitsD O) I g ri rv fun s' I' => ⟨H', I', q⟩
theorem dputV_rel {K : KZ} {w : Wd} {st st' : Store} {H : Hp} {o y : Val} {x z : V} {f : Str} (hS : RS K w st H) (r : RV K w o x) (rz : RV K w y z) (h : dputV st o f y = some st') : ∃ p H', x = .ref p ∧ DPut H p (.str f) z H' ∧ RS K w st' H' := by
  unfold dputV at h
  split at h
  · rename_i i
    split at h
    · rename_i c ns vs e
      split at h
      · rename_i hc
        obtain ⟨rfl, hl, hd⟩ := hc
        cases h
        obtain ⟨p, rfl, ep⟩ := r
        obtain ⟨dx, fs, hp, hn, rr⟩ := hS.obj i p _ ep e
        rw [ob_d] at hp
        have pr := putV_rel (f := f) rz hn rr
        have hk : putK (fs.map kf) (.inr f) z = (putF f z fs).map kf := putK_kf f z fs (by rw [hn]; exact hd)
        refine ⟨p, _, rfl, DPut.k (k := (.inr f : Key)) (v := z) hp (by rw [List.length_map]; rw [← hn, List.length_map] at hl; rw [sizeLine_eq]; omega), ?_⟩
        refine hS.set ep ⟨dx, putF f z fs, ?_, pr.1, pr.2⟩
        rw [upd_same, ob_d]
        exact congrArg (fun t => some (HO.dK t)) hk
      · cases h
    · cases h
  · cases h
def trsD (P : Prog) (Φ : Cal) (K : KZ) (W : WX) : List Str → List ME → List (TE × TE)
  | f :: fs, e :: es => (rdE P Φ K W (.str f), rdE P Φ K W e) :: trsD P Φ K W fs es
  | _, _ => []
theorem R.assoc {α β γ : Type} (r : R α) (f : α → Store → R β) (g : β → Store → R γ) : (r.then_ f).then_ g = r.then_ fun a st => (f a st).then_ g := by
  cases r <;> rfl
theorem pairs_rd : ∀ (fs : List Str) (es : List ME), fs.length = es.length → ∀ {w : Wd} {env : Env} {st : Store} {σ : L2.St} {H : Hp} {β : Type} {kk : List Val → Store → R β} {A : Wd → β → Store → Hp → Prop} {Q : List (V × V) → Hp → Prop},
    RE ⟨X.K, Bz⟩ w env σ → RS ⟨X.K, Bz⟩ w st H → Post ⟨X.K, Bz⟩ w ((evalEs P Φ es env st).then_ kk) A (fun c d H' => W c d σ H') →
    (∀ w1 vs xs st1 H1, Le w w1 → RE ⟨X.K, Bz⟩ w1 env σ → RS ⟨X.K, Bz⟩ w1 st1 H1 → RVs ⟨X.K, Bz⟩ w1 vs xs → vs.length = fs.length → Post ⟨X.K, Bz⟩ w1 (kk vs st1) A (fun c d H' => W c d σ H') → Q ((fs.map V.str).zip xs) H1) → tPairs (trsD P Φ ⟨X.K, Bz⟩ W fs es) σ H Q
  | [], [], _, w, env, st, σ, H, _, kk, A, Q, hE, hS, h, hk => hk w [] [] st H (Le.refl _) hE hS RVs.nil rfl h
  | f :: fs, e :: es, hl, w, env, st, σ, H, _, kk, A, Q, hE, hS, h, hk => by
    refine ⟨w, env, st, hE, hS, fun w1 H1 l1 hS1 xf rf => ?_⟩
    obtain ⟨rfl, _⟩ : xf = .str f ∧ _ := rf
    have h' : Post ⟨X.K, Bz⟩ w1 ((evalE P Φ e env st).then_ fun v st => (evalEs P Φ es env st).then_ fun vs st => kk (v :: vs) st) A (fun c d H' => W c d σ H') := by
      have e0 : (evalEs P Φ (e :: es) env st).then_ kk = (evalE P Φ e env st).then_ fun v st => (evalEs P Φ es env st).then_ fun vs st => kk (v :: vs) st := by
        show ((evalE P Φ e env st).then_ fun v st => (evalEs P Φ es env st).then_ fun vs st => .ok (v :: vs) st).then_ kk = _
        rw [R.assoc]
        congr 1
        funext v st
        rw [R.assoc]
        rfl
      rw [e0] at h
      exact h.mono l1
    refine rdE_seq (hE.mono l1) hS1 h' fun w2 v xv st2 H2 l2 hE2 hS2 rv h2 => ?_
    refine pairs_rd fs es (by simpa using hl) hE2 hS2 h2 fun w3 vs xs st3 H3 l3 hE3 hS3 rvs hlen h3 => ?_
    exact hk w3 (v :: vs) (xv :: xs) st3 H3 ((l1.trans l2).trans l3) hE3 hS3 (RVs.cons (RV.mono l3 v rv) rvs) (by simp [hlen]) h3
  | [], _ :: _, hl, _, _, _, _, _, _, _, _, _, _, _, _, _ => by simp at hl
  | _ :: _, [], hl, _, _, _, _, _, _, _, _, _, _, _, _, _ => by simp at hl
theorem zip_kf : ∀ (fs : List Str) (xs : List V), ((fs.map V.str).zip xs) = ((fs.zip xs).map kf).map fun kv => (kV kv.1, kv.2)
  | [], _ => rfl
  | _ :: _, [] => rfl
  | f :: fs, x :: xs => by
    rw [List.map_cons, List.zip_cons_cons, List.zip_cons_cons, List.map_cons, List.map_cons, zip_kf fs xs]
    rfl
theorem zip_fst : ∀ (fs : List Str) (xs : List V), fs.length = xs.length → (fs.zip xs).map (·.1) = fs ∧ (fs.zip xs).map (·.2) = xs
  | [], [], _ => ⟨rfl, rfl⟩
  | f :: fs, x :: xs, h => by
    obtain ⟨h1, h2⟩ := zip_fst fs xs (by simpa using h)
    exact ⟨by simp [h1], by simp [h2]⟩
  | [], _ :: _, h => by simp at
                                h
  | _ :: _, [], h => by simp at
                                h
theorem dict_rd {fs : List Str} {es : List ME} (hl : fs.length = es.length) (h15 : fs.length ≤ 15) (hd : fs.Nodup) {σ : L2.St} {H : Hp} {Q : VK} (h : rdE P Φ ⟨X.K, Bz⟩ W (.dict fs es) σ H Q) : tDisp (trsD P Φ ⟨X.K, Bz⟩ W fs es) σ H Q := by
  obtain ⟨w, env, st, hE, hS, h⟩ := h
  intro D hD
  have hG : w.G D = none := by
    cases e : w.G D with
    | none => rfl
    | some o => rw [hS.gub D o e] at hD; cases hD
  have sD := hS.lay hD (.dK [])
  have l0 : LeR w ⟨w.F, w.e, upd w.G D (.dK [])⟩ := ⟨fun _ _ h => h, fun _ _ h => h⟩
  have hsub : ∀ q o, w.G q = some o → upd w.G D (.dK []) q = some o := fun q o e => by
    rw [upd_ne fun z => by rw [z, hG] at e; cases e]; exact e
  replace h : Post ⟨X.K, Bz⟩ w ((evalEs P Φ es env st).then_ fun vs st => R.ok (.ref st.length) (st ++ [.ins dN fs vs])) (fun w' v _ H' => ∀ x, RV ⟨X.K, Bz⟩ w' v x → Q x H') fun c d H' => W c d σ H' := h
  have hE0 : RE ⟨X.K, Bz⟩ ⟨w.F, w.e, upd w.G D (.dK [])⟩ env σ := ⟨hE.1, fun i v e => by
    obtain ⟨x, e1, r⟩ := hE.2 i v e
    exact ⟨x, e1, RV.monoR l0 v r⟩⟩
  have hup := Post.up l0 hsub h.seq
  have hid : ∀ r : R (List Val), r.then_ R.ok = r := fun r => by cases r <;> rfl
  rw [← hid (evalEs P Φ es env st)] at hup
  refine pairs_rd fs es hl hE0 sD hup fun w1 vs xs st1 H1 l1 hE1 hS1 rv hlen h1 => ?_
  have h2 := h1 w1 H1 (Le.refl _) hS1
  have eG : w1.G = upd w.G D (.dK []) := l1.G
  have hlx : fs.length = xs.length := by rw [← hlen]; exact rv.length
  obtain ⟨z1, z2⟩ := zip_fst fs xs hlx
  refine ⟨hS1.gub D _ (by rw [eG, upd_same]), (fs.zip xs).map kf, zip_kf fs xs, ?_, ?_⟩
  · rw [List.length_map, List.length_zip]; omega
  have em : mergeK [] ((fs.zip xs).map kf) = (fs.zip xs).map kf := by
    have := mergeK_kf (fs.zip xs) [] (by rw [List.nil_append, z1]; exact hd)
    rw [List.nil_append] at this
    exact this
  rw [em]
  have s1 : RS ⟨X.K, Bz⟩ ⟨w1.F, w1.e, upd w.G D (.dK [])⟩ st1 H1 := by rw [← eG]; exact hS1
  have s2 := s1.relay (o' := .dK ((fs.zip xs).map kf))
  have ll : LeR w1 ⟨w1.F, w1.e ++ [D], w.G⟩ := ⟨fun _ _ h => h, fun i q e => by
    show (w1.e ++ [D])[i]? = some q
    rw [List.getElem?_append_left (List.getElem?_eq_some_iff.mp e).1]; exact e⟩
  have s3 := s2.adoptO (w := w1) (so := .ins dN fs vs) hG fun hp => ⟨0, fs.zip xs, by rw [hp, ob_d], z1, by
    rw [z2]
    exact RVs.monoR ll _ rv⟩
  refine h2 ⟨w1.F, w1.e ++ [D], w.G⟩ _ ⟨fun _ _ h => h, fun i q e => ll.e i q e, rfl⟩ s3 _ ⟨D, rfl, ?_⟩
  show (w1.e ++ [D])[st1.length]? = some D
  have hl1 : w1.e.length = st1.length := hS1.len
  rw [← hl1]; simp
end
end Mp
end
section
set_option Elab.async false
set_option linter.all false
set_option maxRecDepth 100000
set_option maxHeartbeats
                         1000000
namespace Mp
open PySem L2 PySem.Spec PyProof.Rows
section
variable {X : Cx} {Bz : Zs} {pins : List (Addr × Obj)} {σ : L2.St} {H : Hp} {s : Shared} {a b : Addr} {r : Value} {d : V} {A : Around} {E : Value → Shared → Prop}
theorem d_setdT {kvs : List (List Key × V)} {k : List Key} {Q : Value → Shared → Prop} (hu : A.units + 1 < cLine) (I : Inv X pins σ H s) (e : H a = some (.dT kvs)) (eb : H b = some (.tup (k.map kV))) (rd : RelV d r) (hl : kvs.length < sizeLine)
    (h1 : ∀ v, valV kvs k = some v → ∀ (w' : Value) (s' : Shared), Inv X pins σ H s' → RelV v w' → Q w' s') (h2 : valV kvs k = none → ∀ (w' : Value) (s' : Shared), Inv X pins σ (upd H a (.dT (putK kvs k d))) s' → RelV d w' → Q w' s') :
    wpAny (model X.prog X.w) A (PySem.call (.builtin "dict.setdefault") [.ref a, .ref b, r]) Q E s := by
  obtain ⟨z, hd, xs, rel, dd⟩ := dt_of I.hok
                                             e
  have hz : xs.length ≤ sizeLine := by rw [← Paired.length rel]; exact
                                                                       z
  refine call_setdefault_heap (hsz := hz) (tupleKind_room_in1 hu) (key_of I.hok eb) hd dd (fun p hp => ?_) fun hn h' dd' hs => ?_
  · have q := rel.val k
    rw [hp] at q
    cases q0 : valV kvs k with
    | none =>
      rw [q0] at q
      exact (show False from
                             q).elim
    | some v0 =>
      rw [q0] at q
      exact h1 v0 q0 _ _ (I.tok _)
                                   q
  · have q := rel.val k
    rw [hn] at q
    cases q0 : valV kvs k with
    | some v0 =>
      rw [q0] at q
      exact (show False from
                             q).elim
    | none =>
      have hl2 : (putK kvs k d).length ≤ sizeLine :=
                                                     by
        have := length_putK kvs k d
        omega
      obtain ⟨q, es, ep, hq, g2, g3, g4, _, g5⟩ := dd'
      refine h2 q0 _ _ (d_write I (by rw [e]; exact True.intro) hs ⟨q, hq⟩ ⟨hl2, hd, _, (rel.put k eb rd).keeps fun c ys ec => ?_, q, es, ep, hq, g2, g3, g4, g5⟩) rd
      rw [upd_ne (ne_of ec e (fun z => nomatch
                                               z))]
      exact ec
end
def tDSetdT (td ty tx : TE) : TE := fun σ H Q => td σ H fun x H1 => ∃ a, x = .ref a ∧ IsD H1 a ∧ ty σ H1 fun y H2 => tx σ H2 fun z H3 => ∃ (kvs : List (List Key × V)) (k : List Key) (b : Addr), H3 a = some (.dT kvs) ∧ y = .ref b ∧ H3 b = some (.tup (k.map kV)) ∧ kvs.length < sizeLine ∧
  (∀ v, valV kvs k = some v → Q v H3) ∧ (valV kvs k = none → Q z (upd H3 a (.dT (putK kvs k z))))
section
variable {X : Cx} {Bz : Zs} {o e f : Expr} {td ty tx : TE} {apos cpos : Pos}
theorem pe_dsetdT (hu : X.A.units + 1 < cLine) (ho : PE X o td) (he : PE X e ty) (hf : PE X f tx) (m : M2 X o "setdefault" apos e f cpos) : PE X (.Call (.Attribute o "setdefault" apos) [e, f] [] cpos) (tDSetdT td ty tx) := by
  refine ⟨fun pins s σ H Q I h =>
                                  ?_⟩
  refine wpAny_Call_method m.base m.few m.line PySem.F.plainAttrs_dict PySem.F.slot_dict_setdefault PySem.F.type_dict_setdefault (thn (ho.run pins s σ H _ I h) fun u s1 ⟨x, H1, I1, rx, a, ex, d, q1⟩ =>
                                                                                                                                                                                                          ?_)
  subst ex
  obtain rfl : u = Value.ref a :=
                                  rx
  obtain ⟨t1, t2, _⟩ := isD_at I1
                                  d
  refine ⟨t1, t2, ?_⟩
  rw [m.trees]
  refine Calls.callWith_builtin rfl (Calls.evalArgs_plain (Calls.spliced_cons (thn (he.run pins s1 σ H1 _ I1 q1) fun iv s2 ⟨y, H2, I2, ry, q2⟩
                                                                                                                                               =>
    Calls.spliced_cons (thn (hf.run pins s2 σ H2 _ I2 q2) fun fv s3 ⟨z, H3, I3, rz, kvs, k, b, ea, ey, eb, hl, q3, q4⟩ => Calls.spliced_nil ?_))))
  subst ey
  obtain rfl : iv = Value.ref b := ry
  exact d_setdT hu I3 ea eb rz hl (fun v hv w' s4 I4 rw' => ⟨v, _, I4, rw', q3 v hv⟩) fun hn w' s4 I4 rw' => ⟨z, _, I4, rw', q4 hn⟩
end
theorem valV_kt (f : Str) : ∀ fs : List (Str × V), valV (fs.map fun x => (decK x.1, x.2)) (decK f) = fs.lookup f
  | [] => rfl
  | (n, v) :: fs => by
    rw [List.map_cons, List.lookup_cons]
    by_cases q : n = f
    · subst q
      rw [valV_pos (p := (decK n, v)) rfl, beq_self_eq_true]
    · rw [valV_neg (p := (decK n, v)) (fun z => q (decK_inj z)), valV_kt f fs]
      have : (f == n) = false := by rw [beq_eq_false_iff_ne]; exact fun z => q z.symm
      rw [this]
section
variable {P : Prog} {Φ : Cal} {fa : Str → Addr} {k : Nat} {N : List Str} {sc : Sco} {W : WX} {X : Cx} {Bz : Zs}
theorem snd_dictT {pos : Pos} : PE X (.Dict [] [] pos) (rdE P Φ ⟨X.K, Bz⟩ W .dictT) := by
  refine pe_dnewT.imp fun σ H Q ⟨w, env, st, hE, hS, h⟩ => ?_
  intro p hp
  have s2 := hS.push (H' := upd H p (.dT [])) (s := .ins dT [] []) hp (fun q n _ => upd_ne n) (show RO ⟨X.K, Bz⟩ ⟨w.F, w.e ++ [p], w.G⟩ (upd H p (.dT [])) p (.ins dT [] []) from ⟨0, [], by rw [upd_same, ob_t]; rfl, rfl, RVs.nil⟩)
  refine h _ _ (RS.push_le p) s2 _ ⟨p, rfl, ?_⟩
  show (w.e ++ [p])[st.length]? = some p
  rw [← hS.len]; simp
theorem dctT_rel {K : KZ} {w : Wd} {st : Store} {H : Hp} {v : Val} {x : V} {ns : List Str} {vs : List Val} (hS : RS K w st H) (r : RV K w v x) (h : dctT st v = some (ns, vs)) : ∃ (p : Addr) (fs : List (Str × V)), x = .ref p ∧ H p = some (.dT (fs.map fun x => (decK x.1, x.2))) ∧ fs.map (·.1) = ns ∧ RVs K w vs (fs.map (·.2)) := by
  unfold dctT at h
  split at h
  · rename_i c ns' vs' e
    split at h
    · rename_i hc
      subst hc
      cases h
      obtain ⟨p, dx, fs, e1, h1, h2⟩ := insOb_rel hS r e
      exact ⟨p, fs, e1, by rw [h1, ob_t], h2⟩
    · cases h
  · cases h
theorem two_keys {K : KZ} {w : Wd} {x : Str} {i : Int} {xs : List V} (r : RVs K w [.str x, .int i] xs) : xs = (decK (encK x i)).map kV := by
  obtain ⟨a, b, rfl, ra, rb⟩ := two_rel r
  obtain ⟨rfl, _⟩ : a = .str x ∧ _ := ra
  obtain rfl : b = .int i := rb
  rw [decK_enc]
  rfl
theorem keys_split {v : Val} {st : Store} {vs : List Val} {f : Store → Val → List Val → Option Val} (hf : f = dgetTV ∨ f = dgetLV) {u : Val} (h : f st v vs = some u) : ∃ ns ws x i, dctT st v = some (ns, ws) ∧ vs = [.str x, .int i] ∧ (fld ns ws (encK x i) = some u ∨ f = dgetLV ∧ fld ns ws (encK x i) = none ∧ u = .ref st.length) := by
  rcases hf with rfl | rfl
  · unfold dgetTV at h
    split at h
    · rename_i p x i e1
      exact ⟨p.1, p.2, x, i, e1, rfl, .inl h⟩
    · cases h
  · unfold dgetLV at h
    split at h
    · rename_i p x i e1
      refine ⟨p.1, p.2, x, i, e1, rfl, ?_⟩
      split at h
      · rename_i y e2
        cases h
        exact .inl e2
      · rename_i e2
        cases h
        exact .inr ⟨rfl, e2, rfl⟩
    · cases h
theorem snd_dgetT (O : OkX P Φ fa k N sc W X Bz) {x : Expr} {es : List Expr} {tn : Nat} {tp pos : Pos} {a : ME} {ms : List ME} (ha : PE X x (rdE P Φ ⟨X.K, Bz⟩ W a)) (hk : PA X es (rdA P Φ ⟨X.K, Bz⟩ W ms)) : PE X (.Subscript x (.Tuple es tn tp) pos) (rdE P Φ ⟨X.K, Bz⟩ W (.dgetT a ms)) := by
  refine (pe_dget (unitsD O) ha (pe_tup hk) (fun _ _ => rfl)).imp fun σ H Q ⟨w, env, st, hE, hS, h⟩ => ?_
  refine rdE_seq hE hS h fun w1 v x1 st1 H1 l1 hE1 hS1 rv h1 => ?_
  refine rdA_seq hE1 hS1 h1 fun w2 vs xs st2 H2 l2 hE2 hS2 rvs h2 => ?_
  obtain ⟨u, e, q⟩ := h2.of
  obtain ⟨ns, ws, y, i, e1, rfl, e2⟩ := keys_split (.inl rfl) e
  have e2 : fld ns ws (encK y i) = some u := by
    rcases e2 with e2 | ⟨e3, _⟩
    · exact e2
    · exact absurd (congrFun (congrFun (congrFun e3 []) (.ins dT [] [])) [.str y, .int i]) (by unfold dgetTV dgetLV dctT insOf; simp [fld])
  obtain ⟨p, fs, rfl, hp, hn, rr⟩ := dctT_rel hS2 (RV.mono l2 v rv) e1
  have hk2 := two_keys rvs
  refine ⟨by rw [← rvs.length]; show 2 ≤ sizeLine; rw [sizeLine_eq]; decide, fun t ht => ?_⟩
  have sf := hS2.freeze (o := .tup xs) ht
  have lf := hS2.freeze_le (o := .tup xs) ht
  obtain ⟨z, hz, rz⟩ := (fld_rel hn rr).1 u e2
  have npt : p ≠ t := fun q => by rw [q, ht] at hp; cases hp
  refine ⟨p, z, rfl, ?_, q _ _ lf sf z (RV.mono lf u rz)⟩
  have := DGet.t (H := upd H2 t (.tup xs)) (a := p) (b := t) (k := decK (encK y i)) (kvs := fs.map fun x => (decK x.1, x.2)) (by rw [upd_ne npt]; exact hp) (by rw [upd_same, hk2])
  rw [valV_kt, hz] at this
  exact this
theorem snd_dgetL (O : OkX P Φ fa k N sc W X Bz) {x : Expr} {es : List Expr} {tn : Nat} {tp lp apos cpos : Pos} {a : ME} {ms : List ME} (ha : PE X x (rdE P Φ ⟨X.K, Bz⟩ W a)) (hk : PA X es (rdA P Φ ⟨X.K, Bz⟩ W ms)) (m : M2 X x "get" apos (.Tuple es tn tp) (.List [] lp) cpos) :
    PE X (.Call (.Attribute x "get" apos) [.Tuple es tn tp, .List [] lp] [] cpos) (rdE P Φ ⟨X.K, Bz⟩ W (.dgetL a ms)) := by
  refine (pe_dget2 (unitsD O) ha (pe_tup hk) (pe_lst pa_nil) m).imp fun σ H Q ⟨w, env, st, hE, hS, h⟩ => ?_
  refine rdE_seq hE hS h fun w1 v x1 st1 H1 l1 hE1 hS1 rv h1 => ?_
  cases e0 : dctT st1 v with
  | none => rw [e0] at h1; exact h1.elim
  | some pp =>
  rw [e0] at h1
  obtain ⟨p0, fs0, rfl, hp0, _, _⟩ := dctT_rel hS1 rv e0
  refine ⟨p0, rfl, .inr ⟨_, .inl hp0⟩, ?_⟩
  refine rdA_seq hE1 hS1 h1 fun w2 vs xs st2 H2 l2 hE2 hS2 rvs h2 => ?_
  obtain ⟨u, e, q⟩ := Post.of (o := dgetLV st2 v vs) h2
  obtain ⟨ns, ws, y, i, e1, rfl, e2⟩ := keys_split (.inr rfl) e
  obtain ⟨p, fs, ep, hp, hn, rr⟩ := dctT_rel hS2 (RV.mono l2 v rv) e1
  cases ep
  have hk2 := two_keys rvs
  refine ⟨by rw [← rvs.length]; show 2 ≤ sizeLine; rw [sizeLine_eq]; decide, fun t ht => ?_⟩
  have sf := hS2.freeze (o := .tup xs) ht
  have lf := hS2.freeze_le (o := .tup xs) ht
  have npt : p0 ≠ t := fun q => by rw [q, ht] at hp; cases hp
  refine ⟨Nat.zero_le _, fun l hl =>
                                     ?_⟩
  have npl : p0 ≠ l := fun q => by rw [q] at hp npt; rw [upd_ne npt, hp] at hl; cases hl
  have ntl : t ≠ l := fun q => by rw [← q, upd_same] at hl; cases hl
  have sp := sf.push (H' := upd (upd H2 t (.tup xs)) l (.lst [])) (s := .lst []) hl (fun q n _ => upd_ne n) ⟨[], upd_same, Nat.zero_le _, RVs.nil⟩
  have lp := RS.push_le (w := ⟨upd w2.F t (.tup xs), w2.e, w2.G⟩) l
  have g := DGet.t (H := upd (upd H2 t (.tup xs)) l (.lst [])) (a := p0) (b := t) (k := decK (encK y i)) (kvs := fs.map fun x => (decK x.1, x.2)) (by rw [upd_ne npl, upd_ne npt]; exact hp) (by rw [upd_ne ntl, upd_same, hk2])
  rw [valV_kt] at g
  refine ⟨_, g, ?_⟩
  rcases e2 with e2 | ⟨_, e2, rfl⟩
  · obtain ⟨z, hz, rz⟩ := (fld_rel hn rr).1 u e2
    rw [hz]
    exact q _ _ (lf.trans lp) sp z (RV.mono (lf.trans lp) u rz)
  · rw [(fld_rel hn rr).2 e2]
    refine q _ _ (lf.trans lp) sp _ ⟨l, rfl, ?_⟩
    show (w2.e ++ [l])[st2.length]? = some l
    rw [← hS2.len]; simp
theorem snd_dsetd (O : OkX P Φ fa k N sc W X Bz) {x : Expr} {es : List Expr} {tn : Nat} {tp lp apos cpos : Pos} {a : ME} {ms : List ME} (ha : PE X x (rdE P Φ ⟨X.K, Bz⟩ W a)) (hk : PA X es (rdA P Φ ⟨X.K, Bz⟩ W ms)) (m : M2 X x "setdefault" apos (.Tuple es tn tp) (.List [] lp) cpos) :
    PE X (.Call (.Attribute x "setdefault" apos) [.Tuple es tn tp, .List [] lp] [] cpos) (rdE P Φ ⟨X.K, Bz⟩ W (.dsetd a ms)) := by
  refine (pe_dsetdT (unitsD O) ha (pe_tup hk) (pe_lst pa_nil) m).imp fun σ H Q ⟨w, env, st, hE, hS, h⟩ => ?_
  refine rdE_seq hE hS h fun w1 v x1 st1 H1 l1 hE1 hS1 rv h1 => ?_
  cases e0 : dctT st1 v with
  | none => rw [e0] at h1; exact h1.elim
  | some pp =>
  rw [e0] at h1
  obtain ⟨p0, fs0, rfl, hp0, _, _⟩ := dctT_rel hS1 rv e0
  refine ⟨p0, rfl, .inr ⟨_, .inl hp0⟩, ?_⟩
  refine rdA_seq hE1 hS1 h1 fun w2 vs xs st2 H2 l2 hE2 hS2 rvs h2 => ?_
  cases e : dsetdV st2 v vs with
  | none => rw [e] at h2; exact h2.elim
  | some uu =>
  obtain ⟨u, st3⟩ := uu
  rw [e] at h2
  unfold dsetdV at e
  split at e
  · rename_i j y i
    split at e
    · rename_i c ns ws ej
      split at e
      · rename_i hc
        obtain ⟨rfl, hlen, hnd⟩ := hc
        obtain ⟨p, ep, ej2⟩ := RV.mono l2 _ rv
        cases ep
        obtain ⟨dx, fs, hp, hn, rr⟩ := hS2.obj j p0 _ ej2 ej
        rw [ob_t] at hp
        have hk2 := two_keys rvs
        refine ⟨by rw [← rvs.length]; show 2 ≤ sizeLine; rw [sizeLine_eq]; decide, fun t ht => ?_⟩
        have sf := hS2.freeze (o := .tup xs) ht
        have lf := hS2.freeze_le (o := .tup xs) ht
        have npt : p0 ≠ t := fun q => by rw [q, ht] at hp; cases hp
        refine ⟨Nat.zero_le _, fun l hl =>
                                           ?_⟩
        have npl : p0 ≠ l := fun q => by rw [q] at hp npt; rw [upd_ne npt, hp] at hl; cases hl
        have ntl : t ≠ l := fun q => by rw [← q, upd_same] at hl; cases hl
        have sp := sf.push (H' := upd (upd H2 t (.tup xs)) l (.lst [])) (s := .lst []) hl (fun q n _ => upd_ne n) ⟨[], upd_same, Nat.zero_le _, RVs.nil⟩
        have lp := RS.push_le (w := ⟨upd w2.F t (.tup xs), w2.e, w2.G⟩) l
        have hl2 : fs.length < 1000000 := by rw [← hn, List.length_map] at hlen; exact hlen
        have rl : RV ⟨X.K, Bz⟩ ⟨upd w2.F t (.tup xs), w2.e ++ [l], w2.G⟩ (.ref st2.length) (.ref l) := ⟨l, rfl, by
          show (w2.e ++ [l])[st2.length]? = some l
          rw [← hS2.len]; simp⟩
        refine ⟨fs.map fun x => (decK x.1, x.2), decK (encK y i), t, by rw [upd_ne npl, upd_ne npt]; exact hp, rfl, by rw [upd_ne ntl, upd_same, hk2], by rw [List.length_map, sizeLine_eq]; omega, fun z hz => ?_, fun hz => ?_⟩
        · rw [valV_kt] at hz
          split at e
          · rename_i u' e2
            cases e
            obtain ⟨z', hz', rz⟩ := (fld_rel hn rr).1 u e2
            rw [hz] at hz'
            cases hz'
            exact h2 _ _ (lf.trans lp) sp z (RV.mono (lf.trans lp) u rz)
          · rename_i e2
            rw [(fld_rel hn rr).2 e2] at hz
            cases hz
        · rw [putK_new _ hz]
          rw [valV_kt] at hz
          split at e
          · rename_i u' e2
            obtain ⟨z', hz', rz⟩ := (fld_rel hn rr).1 u' e2
            rw [hz] at hz'
            cases hz'
          · rename_i e2
            cases e
            have ej3 : (w2.e ++ [l])[j]? = some p0 := by rw [List.getElem?_append_left (List.getElem?_eq_some_iff.mp ej2).1]; exact ej2
            have s4 := sp.set (i := j) (p := p0) (s := .ins dT (ns ++ [encK y i]) (ws ++ [.ref st2.length])) (o := .dT ((fs.map fun x => (decK x.1, x.2)) ++ [(decK (encK y i), .ref l)])) ej3 ⟨dx, fs ++ [(encK y i, .ref l)], by rw [upd_same, ob_t, List.map_append]; rfl, by rw [List.map_append, hn]; rfl, by
              rw [List.map_append]
              exact (RVs.mono (lf.trans lp) _ rr).append (.cons rl .nil)⟩
            exact h2 _ _ (lf.trans lp) s4 _ rl
      · cases e
    · cases e
  · cases e
end
end Mp
end
section
set_option Elab.async false
set_option linter.all false
set_option maxRecDepth 100000
set_option maxHeartbeats
                         1000000
namespace PySem.SeqAt
open AutoSeq1
              (wpAny_loadPart')
open MeetsSeq MeetsSeq2
                        MeetsSeq3
section
variable {prog : Program} {w : World} {A : Around} {R : Result → Shared →
                                                                          Prop}
theorem nWalk (p q : Addr) (m : Nat) (J : Nat → Shared → Prop) (step : GQ.ListI prog w A (fun e t => R (.error e) t) p q m J) (done : ∀ t, J m t → R (.ok (.ret (.bool false))) t) (left : Nat) :
    ∀ j : Nat, m - j = left → j ≤ m → ∀ t, J j t → wpAny (model prog w) A.in1 (Builtin.«list.__eq__.loop» ⟨[.ref p, .ref q, rawInt j, rawInt 3], []⟩) (GQ.FinOf prog w A R) (fun e t => R (.error e) t) t := by
  induction left with
  | zero =>
    intro j hk hj t hJ
    obtain ⟨us, vs, c1, c2, hp, hq, z1, z2, _⟩ := step _ _ hJ
    have ej : j = m := by omega
    have hR := done t (ej ▸ hJ)
    obtain ⟨hp', g, d, tk, os⟩ := t
    wp_walk using wpAny_loadPart' hp, wpAny_loadPart' hq
    have n1 : us[((j : Nat) : Int).toNat]? = none := by simp; omega
    have n2 : vs[((j : Nat) : Int).toNat]? = none := by simp; omega
    rw [n1, n2]
    wp_walk using wpAny_loadPart' hp, wpAny_loadPart' hq
    show R (.ok (.ret (.bool (us.size != vs.size)))) _
    rw [z1, z2]
    simpa using hR
  | succ left ih =>
    intro j hk hj t hJ
    obtain ⟨us, vs, c1, c2, hp, hq, z1, z2, turn⟩ := step _ _ hJ
    have l1 : j < us.size := by omega
    have l2 : j < vs.size := by omega
    have ht := turn l1 l2
    obtain ⟨hp', g, d, tk, os⟩ := t
    wp_walk using wpAny_loadPart' hp, wpAny_loadPart' hq
    have s1 : us[((j : Nat) : Int).toNat]? = some us[j] := by simp [l1]
    have s2 : vs[((j : Nat) : Int).toNat]? = some vs[j] := by simp [l2]
    have cast : ((j : Int) + 1) = ((j + 1 : Nat) : Int) := by omega
    rw [s1, s2]
    refine wpAny_bind (wpAny_mono ht (fun b t2 h2 => ?_) fun _ _ x => x)
    obtain ⟨eb, h2⟩ := h2
    subst eb
    have more := ih (j + 1) (by omega) (by omega) t2 h2
    obtain ⟨hp2, g2, d2, tk2, os2⟩ := t2
    wp_walk
    rw [cast]
    exact ⟨plainId_quiet plain_eq_loop _, codeAny_builtin entry_eq_loop (by rw [Around.under_plainId plain_eq_loop _]; exact more)⟩
theorem nList (p q : Addr) (m : Nat) (J : Nat → Shared → Prop) (step : GQ.ListI prog w A (fun e t => R (.error e) t) p q m J) (done : ∀ t, J m t → R (.ok (.ret (.bool false))) t) {t : Shared} (hJ : J 0 t) :
    wpAny (model prog w) A.in1 (Builtin.«list.__ne__» ⟨[.ref p, .ref q], []⟩) (GQ.FinOf prog w A R) (fun e t => R (.error e) t) t := by
  obtain ⟨us, vs, c1, c2, hp, hq, z1, z2, _⟩ := step _ _ hJ
  have walk := nWalk (A := A) (R := R) p q m J step done _ 0 rfl (Nat.zero_le _) t hJ
  obtain ⟨hp', g, d, tk, os⟩ := t
  have sub := AutoSeq1.sub_list_list
  have same : ¬ (us.size != vs.size) = true := by simp [z1, z2]
  wp_walk using wpAny_loadPart' hp, wpAny_loadPart' hq
  exact ⟨plainId_quiet plain_eq_loop _, codeAny_builtin entry_eq_loop (by rw [Around.under_plainId plain_eq_loop _]; exact walk)⟩
end
theorem nRich {prog : Program} {w : World} {A : Around} {E : Value → Shared → Prop} {s : Shared} {p q : Addr} {m : Nat} {Q : Value → Shared → Prop} (hu : A.units < cLine) (J : Nat → Shared → Prop) (step : GQ.ListI prog w A E p q m J)
    (done : ∀ t, J m t → Q (.bool false) t) (hJ : J 0 s) : wpAny (model prog w) A (richCompare .NotEq (.ref p) (.ref q)) Q E s := by
  obtain ⟨us, vs, c1, c2, hp, hq, _, _, _⟩ := step _ _ hJ
  refine wpAny_richCompare_same_room (op := .NotEq) ⟨_, hp, rfl⟩ ⟨_, hq, rfl⟩ F.slot_list_ne (GQ.call_here F.slot_list_ne ⟨_, hp, rfl⟩ F.entry_list_ne (F.args_list_ne_2 _ _) ?_) hu
  exact nList (R := wants (fun v t => v ≠ .notImplemented ∧ Q v t) E) p q m J step (fun t h => ⟨(fun x => nomatch x), done t h⟩) hJ
end PySem.SeqAt
namespace Mp
open PySem L2 PySem.Spec PyProof.Rows
section
variable {P : Prog} {Φ : Cal} {fa : Str → Addr} {k : Nat} {N : List Str} {sc : Sco} {W : WX} {X : Cx} {Bz : Zs} {w : Wd} {st : Store} {H : Hp} {pins : List (Addr × Obj)} {σ : L2.St} {s : Shared} {Q : VK}
theorem pure_st {r : R Val} {v : Val} {st' : Store} (h : finish .pure st r = .ok v st') : st' = st := by
  cases r with
  | err _ _ _ _ => cases h
  | stuck => cases h
  | ok u st1 =>
    unfold finish at h
    simp only [R.then_ok] at h
    split at h
    · split at h
      · cases h; rfl
      · cases h
    · cases h
theorem spec_st {g : Str} {args : List Val} {v : Val} {st' : Store} (h : specM P Φ g args st = .ok v st') : st' = st := by
  unfold specM at h
  cases e : callM P Φ .pure g [] args [] st with
  | err _ _ _ _ => rw [e] at h; cases h
  | stuck => rw [e] at h; cases h
  | ok u st1 =>
    rw [e] at h
    cases h
    unfold callM at e
    split at e
    · cases e
    · split at e
      · cases e
      · exact pure_st e
theorem own2_st {ne : Bool} {a b v : Val} {st' : Store} (h : own2M P Φ ne a b st = .ok v st') : st' = st := by
  unfold own2M at h
  split at h
  · split at h
    · split at h
      · rename_i g _
        cases e : specM P Φ g [a, b] st with
        | err _ _ _ _ => rw [e] at h; cases h
        | stuck => rw [e] at h; cases h
        | ok u st1 =>
          rw [e] at h
          have := spec_st e
          subst this
          replace h : back2 ne u st1 = .ok v st' := h
          unfold back2 at h
          split at h
          · cases h; rfl
          · cases h
      · cases h
    · cases h
  · cases h
theorem pair_eq (O : OkX P Φ fa k N sc W X Bz) {a b : Val} {x y : V} {u v : Value} {E : Value → Shared → Prop} (I : L2.Inv X pins σ H s) (hS : RS ⟨X.K, Bz⟩ w st H) (ra : RV ⟨X.K, Bz⟩ w a x) (rb : RV ⟨X.K, Bz⟩ w b y) (rx : RelV x u) (ry : RelV y v) (hb : (insOf st b).isSome = true) (h : own2M P Φ false a b st = .ok (.bl true) st) :
    wpAny (model X.prog X.w) X.A.in1 (eqBool u v) (fun r s' => r = true ∧ ∃ w' H', Le w w' ∧ RS ⟨X.K, Bz⟩ w' st H' ∧ L2.Inv X pins σ H' s') E s := by
  have hu := units64 O
  have stay : ∃ w' H', Le w w' ∧ RS ⟨X.K, Bz⟩ w' st H' ∧ L2.Inv X pins σ H' s := ⟨w, H, Le.refl _, hS, I⟩
  obtain ⟨⟨c2, ns2, ws2⟩, hi2⟩ := Option.isSome_iff_exists.mp hb
  obtain ⟨q, dq, fq, rfl, hq, _⟩ := insOb_rel hS rb hi2
  obtain rfl : v = Value.ref q := ry
  unfold own2M at h
  cases hi : insOf st a with
  | none => rw [hi] at h; cases h
  | some z =>
    obtain ⟨c, ns, ws⟩ := z
    rw [hi] at h
    simp only at h
    split at h
    · rename_i hcb
      obtain ⟨hc, hbs⟩ := hcb
      cases hg : P.meth c "__eq__" with
      | none => rw [hg] at h; cases h
      | some g =>
        rw [hg] at h
        obtain ⟨p, dx, fs, rfl, hp, _, _⟩ := insOf_rel (O.lk.nd hc) hS ra hi
        obtain rfl : u = Value.ref p :=
                                        rx
        by_cases hpq : p = q
        · subst hpq
          exact SeqAt.EqAt.same (A := X.A.in1) (s := s) (.ref p) X.prog X.w E _ ⟨rfl, stay⟩
        · obtain ⟨ox, od, J⟩ := inst_of I hp
          obtain ⟨tb, hl, hn⟩ := beside_ok O hc I hS rb (show RelV (.ref q) (.ref q) from rfl) hbs
          have M := O.lk.me c "__eq__" g hg hc
          have h2 : Post ⟨X.K, Bz⟩ w ((specM P Φ g [a, b] st).then_ (back2 false)) (AV ⟨X.K, Bz⟩ fun y H' => y = .bl true ∧ ∃ w', Le w w' ∧ RS ⟨X.K, Bz⟩ w' st H') fun _ _ _ => False := by
            replace h : (specM P Φ g [a, b] st).then_ (back2 false) = .ok (.bl true) st := h
            rw [h]
            exact fun w' H' l s x rx => ⟨rx, w', l, s⟩
          refine GQ.eqBool_refG hpq (rich_of (by show X.A.units + 1 < cLine; omega) I.kIn J hl hn ?_)
          exact try_eq I.kIn J M (wpAny_mono (spec_run O (O.room.mono (by omega)).in1 I.env0.in1 I hS (RVs.cons ra (RVs.cons rb RVs.nil)) (.cons rfl (.cons rfl .nil)) h2) (fun r s' hr => by
            obtain ⟨v', y', w', st', H', I', ry', rv', hS', q'⟩ := hr
            cases v' with
            | bl z =>
              cases (show y' = .bl z from rv')
              cases (show r = Value.bool z from ry')
              obtain ⟨e, w2, l2, s2⟩ := q' w' H' (Le.refl _) hS' _ rfl
              rw [Bool.false_xor] at e
              exact ⟨z, rfl, z, rfl, by cases e; rfl, w2, H', l2, s2, I'⟩
            | _ => exact q'.elim) fun _ _ e => e)
    · cases h
theorem still_live {v : Val} {us : List Val} (h : lstOf st v = some us) : still st (liveOf v us) := fun p hp => by
  cases v with
  | ref i =>
    have : p = (i, us) := by simpa [liveOf] using hp
    subst this
    unfold lstOf at h
    simp only at h
    split at h
    · rename_i e; cases h; exact e
    · cases h
  | _ => cases hp
theorem pairs_at : ∀ {xs ys : List Val}, pairsB P Φ st xs ys = true → xs.length = ys.length ∧ ∀ (i : Nat) a b, xs[i]? = some a → ys[i]? = some b → own2M P Φ false a b st = .ok (.bl true) st ∧ (insOf st b).isSome = true
  | [], [], _ => ⟨rfl, fun i a b h _ => by simp at h⟩
  | [], _ :: _, h => by cases h
  | _ :: _, [], h => by cases h
  | x :: xs, y :: ys, h => by
    unfold pairsB at h
    rw [Bool.and_eq_true, Bool.and_eq_true] at h
    obtain ⟨⟨h1, h2⟩, h3⟩ := h
    obtain ⟨l, q⟩ := pairs_at h3
    refine ⟨by rw [List.length_cons, List.length_cons, l], fun i a b e1 e2 => ?_⟩
    cases i with
    | zero =>
      simp at e1 e2
      subst e1; subst e2
      refine ⟨?_, h2⟩
      cases e : own2M P Φ false x y st with
      | ok v st' =>
        have := own2_st e
        subst this
        rw [e] at h1
        cases v with
        | bl b => cases b with
          | true => rfl
          | false => cases h1
        | _ => cases h1
      | err _ _ _ _ => rw [e] at h1; cases h1
      | stuck => rw [e] at h1; cases h1
    | succ i =>
      simp at e1 e2
      exact q i a b e1 e2
def rOwnL (P : Prog) (Φ : Cal) (K : KZ) (ne : Bool) : V → V → Hp → VK → Prop := fun x y H Q => ∃ w st a b, RS K w st H ∧ RV K w a x ∧ RV K w b y ∧ Post K w (ownLM P Φ ne a b st) (AV K Q) fun _ _ _ => False
theorem op_ownL (O : OkX P Φ fa k N sc W X Bz) (ne : Bool) : OpR X (compareOp (pycop (if ne = true then .ne else .eq))) (rOwnL P Φ ⟨X.K, Bz⟩ ne) := by
  intro pins s σ H x y v u Q I rx ry
                                     h
  obtain ⟨w, st, a, b, hS, ra, rb, h⟩ := h
  have hu := units64 O
  unfold ownLM at h
  cases ea : lstOf st a with
  | none => rw [ea] at h; exact h.elim
  | some us =>
    cases eb : lstOf st b with
    | none => rw [ea, eb] at h; exact h.elim
    | some vs =>
      rw [ea, eb] at h
      simp only at h
      split at h
      · rename_i hp
        obtain ⟨hlen, hpair⟩ := pairs_at hp
        obtain ⟨p, rfl, _, fp⟩ := at_live hS ra ea
        obtain ⟨q, rfl, _, fq⟩ := at_live hS rb eb
        obtain rfl : v = Value.ref p :=
                                        rx
        obtain rfl : u = Value.ref q := ry
        let J : Nat → Shared → Prop := fun _ t => ∃ w' H', Le w w' ∧ RS ⟨X.K, Bz⟩ w' st H' ∧ L2.Inv X pins σ H' t
        have start : J 0 s := ⟨w, H, Le.refl _, hS, I⟩
        have step : GQ.ListI X.prog X.w X.A X.xe p q us.length J := fun i t ht => by
          obtain ⟨w', H', l', s', I'⟩ := id ht
          obtain ⟨xs, h1, r1⟩ := fp w' st H' l'.r s' (still_live ea)
          obtain ⟨ys, h2, r2⟩ := fq w' st H' l'.r s' (still_live eb)
          obtain ⟨z1, its, k1, c1, e1⟩ := I'.hok p _ h1
          obtain ⟨z2, its2, k2, c2, e2⟩ := I'.hok q _ h2
          have n1 : its.toArray.size = us.length := by rw [List.size_toArray, ← c1.length, ← r1.length]
          have n2 : its2.toArray.size = us.length := by rw [List.size_toArray, ← c2.length, ← r2.length, hlen]
          refine ⟨its.toArray, its2.toArray, k1, k2, e1, e2, n1, n2, fun b1 b2 => ?_⟩
          have g1 : its[i]? = some its.toArray[i] :=
                                                     by
            have : i < its.length := by simpa using b1
            rw [List.getElem?_eq_getElem this] <;> simp
          have g2 : its2[i]? = some its2.toArray[i] :=
                                                       by
            have : i < its2.length := by simpa using b2
            rw [List.getElem?_eq_getElem this] <;> simp
          have iu : i < us.length := by omega
          have iv : i < vs.length := by omega
          obtain ⟨x, ex, rx⟩ := r1.get (List.getElem?_eq_getElem iu)
          obtain ⟨y, ey, ry⟩ := r2.get (List.getElem?_eq_getElem iv)
          obtain ⟨a', ea', ra'⟩ := c1.get ex
          obtain ⟨b', eb', rb'⟩ := c2.get ey
          rw [g1] at ea'
          rw [g2] at eb'
          obtain ⟨hh, hs⟩ := hpair i _ _ (List.getElem?_eq_getElem iu) (List.getElem?_eq_getElem iv)
          rw [Option.some.inj ea', Option.some.inj eb']
          refine wpAny_mono (pair_eq O I' s' rx ry ra' rb' hs hh) (fun r t2 hq => ?_) fun _ _ x => x
          obtain ⟨er, w2, H2, l2, s2, I2⟩ := hq
          exact ⟨er, w2, H2, l'.trans l2, s2, I2⟩
        cases ne with
        | false =>
          show wpAny _ _ (richCompare .Eq (.ref p) (.ref q)) _ _ _
          refine GQ.rc_listG (N := us.length) (by omega) J step (fun t ht => ?_) start
          obtain ⟨w', H', l', s', I'⟩ := ht
          exact ⟨.bl true, H', I', rfl, h w' H' l' s' _ rfl⟩
        | true =>
          show wpAny _ _ (richCompare .NotEq (.ref p) (.ref q)) _ _ _
          refine SeqAt.nRich (m := us.length) (by omega) J step (fun t ht => ?_) start
          obtain ⟨w', H', l', s', I'⟩ := ht
          exact ⟨.bl false, H', I', rfl, h w' H' l' s' _ rfl⟩
      · exact h.elim
theorem ownLM_ne (ne : Bool) (a b : Val) (st : Store) : ∀ c ns vs st', ownLM P Φ ne a b st ≠ .err c ns vs st' := by
  intro c ns vs st' h
  unfold ownLM at h
  split at h
  · split at h <;> cases h
  · cases h
theorem snd_ownL (O : OkX P Φ fa k N sc W X Bz) {ne : Bool} {o : CmpOp} {a b : Expr} {ma mb : ME} {pos : Pos} (ho : o = pycop (if ne = true then .ne else .eq)) (hm : behindInMarks o b = false) (ha : PE X a (rdE P Φ ⟨X.K, Bz⟩ W ma)) (hb : PE X b (rdE P Φ ⟨X.K, Bz⟩ W mb)) : PE X (.Compare a [o] [b] pos) (rdE P Φ ⟨X.K, Bz⟩ W (.ownL ne ma mb)) := by
  subst ho
  refine (pe_cmpR (op_ownL O ne) ha hb hm).imp fun σ H Q ⟨w, env, st, hE, hS, h⟩ => ?_
  refine rdE_seq hE hS h fun w1 v x st1 H1 l1 hE1 hS1 rv h1 => ?_
  refine rdE_seq hE1 hS1 h1 fun w2 u y st2 H2 l2 hE2 hS2 ru h2 => ?_
  exact ⟨w2, st2, v, u, hS2, RV.mono l2 v rv, ru, noErr_of (ownLM_ne ne v u st2) h2⟩
theorem snd_ownLT (O : OkX P Φ fa k N sc W X Bz) {ne : Bool} {o : CmpOp} {a b : Expr} {ma mb : ME} {pos : Pos} (ho : o = pycop (if ne = true then .ne else .eq)) (hm : behindInMarks o b = false) (ha : PE X a (rdE P Φ ⟨X.K, Bz⟩ W ma)) (hb : PE X b (rdE P Φ ⟨X.K, Bz⟩ W mb)) : PT X (.Compare a [o] [b] pos) (rdT P Φ ⟨X.K, Bz⟩ W (.ownL ne ma mb)) := by
  subst ho
  refine (pt_cmpR (op_ownL O ne) ha hb hm).imp fun σ H Q ⟨w, env, st, hE, hS, h⟩ => ?_
  replace h := asB_post (show Post ⟨X.K, Bz⟩ w (asB _) _ _ from h)
  refine rdE_seq hE hS h fun w1 v x st1 H1 l1 hE1 hS1 rv h1 => ?_
  refine rdE_seq hE1 hS1 h1 fun w2 u y st2 H2 l2 hE2 hS2 ru h2 => ?_
  refine ⟨w2, st2, v, u, hS2, RV.mono l2 v rv, ru, noErr_of (ownLM_ne ne v u st2) (h2.imp fun w' z st' H' l s ⟨b, e, q⟩ x rx => ?_)⟩
  subst e
  exact ⟨b, rx, q⟩
end
end Mp
end
section
set_option Elab.async false
set_option linter.all false
set_option maxRecDepth 100000
set_option maxHeartbeats
                         4000000
namespace Mp
open PySem L2 PySem.Spec PyProof.Rows
theorem upd_comm {H : Hp} {a b : Addr} {x y : HO} (h : a ≠ b) : upd (upd H a x) b y = upd (upd H b y) a x := by
  funext c
  by_cases h1 : c = a
  · subst h1
    rw [upd_same, upd_ne h, upd_same]
  · by_cases h2 : c = b
    · subst h2
      rw [upd_same, upd_ne h1, upd_same]
    · rw [upd_ne h2, upd_ne h1, upd_ne h1, upd_ne h2]
theorem RS.table {K : KZ} {w : Wd} {st : Store} {H : Hp} {P : Addr} {q : Str} {ps ps' : Array Value} (h : RS K w st H) (hT : K.B.T = [(P, q)]) (hP : H P = some (.tbl ps)) (ht : TriplesOk ps'.toList) (hc : ∀ (pos : Pos) (cv : Value), codeAmong pos ps'.toList = some cv → ∃ c, cv = .ref c ∧ w.F c = some (LamX.CodeO c q)) : RS K w st (upd H P (.tbl ps')) := by
  have hm : (P, q) ∈ K.B.T := by rw [hT]; simp
  obtain ⟨nF, nG⟩ := h.tabF _ hm
  have ne : ∀ {p : Addr}, (w.F p ≠ none ∨ w.G p ≠ none) → p ≠ P := fun {p} z e => by
    subst e
    rcases z with z | z
    · exact z nF
    · exact z nG
  refine ⟨fun p o e => by rw [upd_ne (ne (.inl (by rw [e]; simp)))]; exact h.sub p o e, h.len, fun i p s e1 e2 => ?_, h.nd, h.sep, fun p o e => by rw [upd_ne (ne (.inr (by rw [e]; simp)))]; exact h.gub p o e, h.gse, h.gF, fun z hz => ?_, h.tabF⟩
  · have r := h.obj i p s e1 e2
    refine r.keep (Le.refl w) (upd_ne fun z => ?_)
    subst z
    cases s with
    | lst vs => obtain ⟨xs, e, _⟩ := r; rw [hP] at e; cases e
    | ins c ns vs =>
      obtain ⟨dx, fs, e, _⟩ := r
      rw [hP] at e
      unfold ob at e
      split at e
      · cases e
      · split at e <;> cases e
  · have ez : z = (P, q) := by rw [hT] at hz; simpa using hz
    subst ez
    exact ⟨ps', upd_same, ht, hc⟩
section
variable {P : Prog} {Φ : Cal} {fa : Str → Addr} {k : Nat} {N : List Str} {sc : Sco} {W : WX} {X : Cx} {Bz : Zs} {w : Wd} {st : Store} {H : Hp} {pins : List (Addr × Obj)} {σ : L2.St} {s : Shared}
theorem lamOwn_has {scope : Scope} {pa : Option Str} (L : LamOwn N sc.sc scope pa) (O : OkX P Φ fa k N sc W X Bz) (I : L2.Inv X pins σ H s) : ∀ y ∈ scope.names, y.2 = .free → ∃ c, X.env.cells.lookup y.1 = some c := fun y hy e => by
  have es : X.env.scope = sc.sc := O.sco
  rcases L.free y hy e with z | z
  · exact I.ok.has _ (.inl (by show X.env.scope.names.lookup _ = _; rw [es]; exact z))
  · exact I.ok.has _ (.inr (by show X.env.scope.names.lookup _ = _; rw [es]; exact z))
theorem lam_tail (O : OkX P Φ fa k N sc W X Bz) (hl : sc.lm = true) {i : Nat} {params : Arguments} {body : Expr} {scope : Scope} {dV : Value} {t0 : Addr} {pos : Pos} {E : Value → Shared → Prop} {Q : Value → Shared → Prop} {pa : Option Str} (hk : P.lck i params body scope = true) (hpa : lamP params = some pa) (L : LamOwn N sc.sc scope pa)
    (hdv : (pa = none ∧ dV = .none) ∨ (∃ a, pa = some a ∧ dV = .ref t0 ∧ w.F t0 = some (dflO t0))) (I : L2.Inv X pins σ H s) (hS : RS ⟨X.K, Bz⟩ w st H)
    (h : ∀ (w' : Wd) (H' : Hp) (x : V) (u : Value) (s' : Shared), L2.Inv X pins σ H' s' → Le w w' → RS ⟨X.K, Bz⟩ w' st H' → RV ⟨X.K, Bz⟩ w' (.clo i) x → RelV x u → Q u s') :
    wpAny (model X.prog X.w) X.A (makeTail "<lambda>" (X.env.qual ++ "<lambda>") params (.expr body) scope X.env dV .none none pos pos.line) Q E s := by
  have D := O.lm hl
  obtain ⟨c, Pt, TB, hcode, hTB⟩ := D.tb
  obtain ⟨ps, hP, ht, ha⟩ := hS.tab (Pt, X.env.qual ++ "<lambda>") (by show _ ∈ Bz.T; rw [hTB]; simp)
  have hP' : s.heap.get? Pt = some { cls := .none, data := .fields ps } := I.hok Pt _ hP
  have bP : s.heap.BuiltinsAt X.mg Pt := TB.bm.keeps I.bk
  have hfree := lamOwn_has L O I
  -- the object's own place, once the code object stands
  have fin : ∀ (w1 : Wd) (H1 : Hp) (s1 : Shared) (h1 : Heap) (tk : Tok) (c' : Addr) (doc pm ctv : Value), L2.Inv X pins σ H1 s1 → RS ⟨X.K, Bz⟩ w1 st H1 → Le w w1 → w1.F c' = some (LamX.CodeO c' (X.env.qual ++ "<lambda>")) → (∀ b o, s1.heap.get? b = some o → h1.get? b = some o) → s1.heap.objs.size ≤ h1.objs.size →
      Q (.ref h1.objs.size) { s1 with heap := h1.push (PySem.W.kdv_obj "<lambda>" (X.env.qual ++ "<lambda>") params (.expr body) scope (cloFrom X.env.cells scope.names []) dV doc pm c' ctv), toks := tk } := by
    intro w1 H1 s1 h1 tk c' doc pm ctv I1 hS1 l1 hc1 kk hsz
    have nH : H1 h1.objs.size = none := I1.hok.fresh hsz
    have lf := RS.freeze_le (o := cloO h1.objs.size (X.env.qual ++ "<lambda>") params body scope (cloFrom X.env.cells scope.names []) dV c') hS1 nH
    refine h _ (upd H1 h1.objs.size (cloO h1.objs.size (X.env.qual ++ "<lambda>") params body scope (cloFrom X.env.cells scope.names []) dV c')) (.ref h1.objs.size) _ _ (I1.laid (t' := tk) (h' := h1.push (PySem.W.kdv_obj "<lambda>" (X.env.qual ++ "<lambda>") params (.expr body) scope (cloFrom X.env.cells scope.names []) dV doc pm c' ctv)) (fun b o e => Heap.get?_push_of_some _ (kk b o e)) hsz ?_) (l1.trans lf) (hS1.freeze nH) ?_ rfl
    · exact ⟨⟨doc, pm, ctv, Heap.get?_push_size _ rfl⟩, ⟨_, Heap.get?_push_size _ rfl⟩, fun h1 h2 ⟨d, p, c, a⟩ st => ⟨d, p, c, st _ a⟩⟩
    · have hcl : ∀ (t : Addr) (ot : HO), ((lamP params = some none ∧ dV = .none) ∨ ∃ a, lamP params = some (some a) ∧ dV = .ref t ∧ ot = dflO t) → cloC P X.env.cells (X.env.qual ++ "<lambda>") i h1.objs.size c' t (cloO h1.objs.size (X.env.qual ++ "<lambda>") params body scope (cloFrom X.env.cells scope.names []) dV c') (LamX.CodeO c' (X.env.qual ++ "<lambda>")) ot :=
        fun t ot z => ⟨params, body, scope, dV, hk, rfl, rfl, z⟩
      rcases hdv with ⟨e1, e2⟩ | ⟨a, e1, e2, e3⟩
      · exact ⟨_, c', c', _, _, _, rfl, upd_same, lf.F _ _ hc1, lf.F _ _ hc1, by show Bz.C _ _ _ _ _ _ _; rw [D.C]; exact hcl _ _ (.inl ⟨by rw [hpa, e1], e2⟩)⟩
      · exact ⟨_, c', t0, _, _, _, rfl, upd_same, lf.F _ _ hc1, lf.F _ _ (l1.F _ _ e3), by show Bz.C _ _ _ _ _ _ _; rw [D.C]; exact hcl _ _ (.inr ⟨a, by rw [hpa, e1], e2, rfl⟩)⟩
  cases hc : codeAmong pos ps.toList
                                     with
  | none =>
    refine PySem.W.kdv_makeTail (mg := X.mg) (c := c) (P := Pt) (ps := ps) (closure_ok hfree) I.ok.glob (I.mod.glob.keeps I.bk) hcode (TB.code.keeps I.bk) hP' ht hc TB.gP bP fun c' ctv doc h' tk hx hge hlt hrec htb => ?_
    obtain ⟨c2, oc, vs, t, e2, hoc, hd, hv⟩ :=
                                               hrec
    cases e2
    have nC : H c' = none := I.hok.fresh
                                         hge
    have nPc : Pt ≠ c' := ne_of_none hP nC
    have I1 := LamX.inv_table (t' := tk) (more := #[rawInt pos.line, rawInt pos.col, .ref c']) (h' := h') I hP (fun b o hb e => hx b o hb e) htb hge ⟨oc, vs, t, hoc, hd, hv⟩
    have lf := RS.freeze_le (o := LamX.CodeO c' (X.env.qual ++ "<lambda>")) hS nC
    have hS1 := hS.freeze (o := LamX.CodeO c' (X.env.qual ++ "<lambda>")) nC
    have eL : (ps ++ #[rawInt pos.line, rawInt pos.col, .ref c']).toList = ps.toList ++ [rawInt pos.line, rawInt pos.col, .ref c'] := by
                                                                                                                                         simp
    have hS2 : RS ⟨X.K, Bz⟩ _ st _ := hS1.table (ps' := ps ++ #[rawInt pos.line, rawInt pos.col, .ref c']) hTB (by rw [upd_ne nPc]; exact hP) (by rw [eL]; exact PySem.TriplesOk_snoc _ _ _ _ ht) fun p' cv hcv => by
      rw [eL] at hcv
      rcases LamX.among_app _ ht hcv with z | z
      · obtain ⟨c0, e1, e2⟩ := ha p' cv
                                        z
        exact ⟨c0, e1, lf.F _ _ e2⟩
      · exact ⟨c', z, upd_same⟩
    rw [← upd_comm nPc] at hS2
    have r := fin _ _ _ h' tk c' doc ((X.mg "__name__").getD .none) ctv I1 hS2 lf upd_same (fun b o e => e) (Nat.le_refl _)
    exact r
  | some cv =>
    obtain ⟨c', e, hco⟩ := ha pos cv
                                     hc
    subst e
    exact PySem.W.kdv_makeTailHit (mg := X.mg) (c := c) (P := Pt) (ps := ps) (closure_ok hfree) I.ok.glob (I.mod.glob.keeps I.bk) hcode (TB.code.keeps I.bk) hP' ht hc bP fun ctv doc h' tk hx hsz => fin w H s h' tk c' doc _ ctv I hS (Le.refl _) hco hx hsz
theorem snd_lam (O : OkX P Φ fa k N sc W X Bz) (hl : sc.lm = true) {i : Nat} {params : Arguments} {body : Expr} {scope : Scope} {pos : Pos} (hk : P.lck i params body scope = true) : PE X (.Lambda params body scope pos) (rdE P Φ ⟨X.K, Bz⟩ W (.lam i)) := by
  refine ⟨fun pins s σ H Q I ⟨w, env, st, hE, hS, h⟩ => ?_⟩
  replace h : Post ⟨X.K, Bz⟩ w (R.ok (.clo i) st) (AV ⟨X.K, Bz⟩ Q) fun c d H' => W c d σ H' := h
  obtain ⟨pa, hpa, L⟩ := (O.lm hl).shp i params body scope hk
  have out : ∀ (w0 : Wd), Le w w0 → ∀ (w' : Wd) (H' : Hp) (x : V) (u : Value) (s' : Shared), L2.Inv X pins σ H' s' → Le w0 w' → RS ⟨X.K, Bz⟩ w' st H' → RV ⟨X.K, Bz⟩ w' (.clo i) x → RelV x u → EP X pins σ Q u s' := fun w0 l0 w' H' x u s' I' l hS' rv ru => ⟨x, H', I', ru, h w' H' (l0.trans l) hS' x rv⟩
  unfold lamP at hpa
  split at hpa
  · cases hpa
    refine PySem.W.kla_eval rfl ?_
    rw [makeFunction_eq]
    simp only [List.zip_nil_right, List.filterMap_nil, List.isEmpty_nil, if_true,
                                                                                  pure_bind]
    exact lam_tail (t0 := 0) O hl hk rfl L (.inl ⟨rfl, rfl⟩) I hS (out w (Le.refl _))
  · rename_i a _ _
    cases hpa
    refine PySem.W.kdv_lam rfl rfl (PySem.W.kdv_all1 (wpAny_Constant_int (PySem.W.kdv_all0 ?_)))
    rw [makeFunction_eq]
    simp only [List.zip_nil_right, List.filterMap_nil, List.isEmpty_nil, List.isEmpty_cons, if_true, pure_bind, Bool.false_eq_true, if_false]
    refine wpAny_bind (wpAny_newTextTuple
                                          ?_)
    have nH : H s.heap.objs.size = none := I.hok.fresh (Nat.le_refl _)
    have I1 := I.laid (a := s.heap.objs.size) (o := dflO s.heap.objs.size) (t' := s.toks + 1) (h' := s.heap.push (PySem.W.kdv_tup [.int 0 s.toks])) (fun b o e => Heap.get?_push_of_some _ e) (Nat.le_refl _) ⟨⟨s.toks, Heap.get?_push_size _ rfl⟩, ⟨_, Heap.get?_push_size _ rfl⟩, fun h1 h2 ⟨t, a⟩ st => ⟨t, st _ a⟩⟩
    have lf := RS.freeze_le (o := dflO s.heap.objs.size) hS nH
    exact lam_tail (t0 := s.heap.objs.size) O hl hk rfl L (.inr ⟨a.arg, rfl, rfl, upd_same⟩) I1 (hS.freeze nH) (out _ lf)
  · cases hpa
theorem cell_nf (O : OkX P Φ fa k N sc W X Bz) (hdf : sc.df = true) (I : L2.Inv X pins σ H s) {y : Str} {c : Addr} (e : X.env.cells.lookup y = some c) : c ∉ frs X.stack := fun hm => by
  rcases List.mem_cons.mp (I.stkSub c hm) with z | z
  · exact I.cne y c e z
  · obtain ⟨_, o, ho, _⟩ := I.ok.funs.mem
                                          z
    exact absurd (Nat.lt_of_lt_of_le (Heap.lt_size ho) (I.ok.cab y c (O.fn hdf y) e)) (Nat.lt_irrefl _)
def Kps (X : Cx) (H HZ : Hp) (h h1 : Heap) : Prop := ∀ b o, h.get? b = some o → H b = none → b ∉ frs X.stack → h1.get? b = some o ∧ HZ b = none
theorem clo_look {cells : List (Str × Addr)} {names : List (Str × NameKind)} (hf : ∀ y ∈ names, y.2 = .free → ∃ c, cells.lookup y.1 = some c) {y : Str} {c : Addr} (e : (cloFrom cells names []).lookup y = some c) : cells.lookup y = some c := by
  cases cloFrom_mem (PySem.mem_of_lookup e) with
  | inl hm => cases hm
  | inr hr =>
    obtain ⟨c1, q⟩ := hf _ hr.1 rfl
    replace q : cells.lookup y = some c1 := q
    have e2 := hr.2
    rw [q] at e2
    rw [q, show c = c1 from e2]
theorem lam_names {HZ : Hp} {s1 : Shared} {A : Around} {outer : List PySem.Env} {E : XK} {scope : Scope} {pa : Option Str} {f c' : Addr} {h₁ : Heap} {tk : Nat} {mb : Str → Option Value} (O : OkX P Φ fa k N sc W X Bz) (hdf : sc.df = true) (I : L2.Inv X pins σ H s) (L : LamOwn N sc.sc scope pa) (e0 : Env0 X.prog X.w X.K X.mg X.base A outer s1 HZ) (hd : A.handled = none)
    (kp : Kps X H HZ s.heap s1.heap) (hns : h₁.Ns s1.heap.objs.size mb) (grow : ∀ b o, s1.heap.get? b = some o → h₁.get? b = some o) :
    L2.Inv (LamX.lamCx X A outer s1 HZ E scope f c') [] σ HZ { s1 with heap := h₁, toks := tk } := by
  have hf := lamOwn_has L O I
  have hsc := O.sco
  have back : ∀ {y c}, (cloFrom X.env.cells scope.names []).lookup y = some c → X.env.cells.lookup y = some c := fun e => clo_look hf e
  have into : ∀ {y}, scope.names.lookup y = some .free → ∃ c, (cloFrom X.env.cells scope.names []).lookup y = some c := fun {y} e =>
    mem_lookup (cloFrom_has (cells := X.env.cells) (acc := []) (show (y, NameKind.free) ∈ scope.names from PySem.mem_of_lookup e))
  have one : ∀ {y c}, X.env.cells.lookup y = some c → HZ c = none ∧ ∀ v, s.heap.IsCell c v → h₁.IsCell c v := fun {y c} e => by
    obtain ⟨v0, o, ho, _⟩ := I.cell y c e
    obtain ⟨g1, g2⟩ := kp c o ho (I.freeC y c e) (cell_nf O hdf I e)
    refine ⟨g2, fun v ⟨o', ho', dv⟩ => ?_⟩
    rw [ho] at ho'
    cases ho'
    exact ⟨o, grow c o g1, dv⟩
  have out : ∀ b : Addr, b ∉ (LamX.lamCx X A outer s1 HZ E scope f c').ex := fun b => List.not_mem_nil
  constructor
  · constructor
    · exact e0.mod
    · exact L.kind
    · rfl
    · rfl
    · exact Nat.le_refl _
    · exact fun y z c e1 e2 => I.ok.inj y z c (back e1) (back e2)
    · intro y hy
      rcases (show scope.names.lookup y = some .cell ∨ scope.names.lookup y = some .free from hy) with q | q
      · exact absurd rfl (L.own _ (PySem.mem_of_lookup q)).1
      · exact into q
    · exact fun y c z _ => absurd (show false = true from z) (by decide)
    · exact fun _ => hd
    · exact Around.frames_deeper e0.frames
    · exact .inr ⟨rfl, rfl⟩
    · exact fun b z => absurd z (out b)
    · exact e0.bs
    · exact e0.bsz
    · exact fun b _ _ => out b
    · exact fun b z => absurd z (out b)
    · exact e0.funs
    · exact e0.frf
  · rfl
  · exact e0.bare
  · exact Un.kept grow
  · refine ⟨mb, hns, fun i y v e1 e2 e3 => ?_⟩
    have hyN : y ∈ N := by rw [← O.names]; exact List.mem_of_getElem? e1
    rcases (show Vis scope y from e3) with q | q | q
    · exact absurd hyN (L.par _ ((L.own _ (PySem.mem_of_lookup q)).2 rfl)).2
    · exact absurd rfl (L.own _ (PySem.mem_of_lookup q)).1
    · have hout := L.free _ (PySem.mem_of_lookup q) rfl
      obtain ⟨m, hn, hlk⟩ := I.loc
      obtain ⟨u, ru, look⟩ := hlk i y v e1 e2 (by rw [hsc]; exact .inr hout)
      obtain ⟨c2, h2⟩ := into q
      refine ⟨u, ru, .inr ⟨.inr q, c2, h2, ?_⟩⟩
      rcases look with ⟨k', _⟩ | ⟨_, c3, e', z⟩
      · replace k' : X.env.scope.names.lookup y = some .local := k'
        rw [hsc] at k'
        rcases hout with k2 | k2 <;> (rw [show sc.sc.names.lookup y = _ from k2] at k'; cases k')
      · rw [back h2] at e'
        cases e'
        exact (one (back h2)).2 _ z
  · intro y c e
    obtain ⟨v, z⟩ := I.cell y c (back e)
    exact ⟨v, (one (back e)).2 _ z⟩
  · exact e0.hok.fresh (Nat.le_refl _)
  · exact fun y c e => (one (back e)).1
  · exact fun q hq => absurd (show q ∈ ([] : List (Addr × Obj)) ++ [] from hq) List.not_mem_nil
  · exact e0.hok.kept grow
  · exact I.len
theorem lam_act (O : OkX P Φ fa k N sc W X Bz) (hl : sc.lm = true) (hdf : sc.df = true) (I : L2.Inv X pins σ H s) {A : Around} {outer : List PySem.Env} {s1 : Shared} {HZ : Hp} {Q : VK} {E : XK} {f : Addr} {i : Nat} {w : Wd} {env : Env} {st : Store} (e0 : Env0 X.prog X.w X.K X.mg X.base A outer s1 HZ) (hr : Room (k + 3) A) (kp : Kps X H HZ s.heap s1.heap)
    (hE : RE ⟨X.K, Bz⟩ w env σ) (hS : RS ⟨X.K, Bz⟩ w st HZ) (rv : RV ⟨X.K, Bz⟩ w (.clo i) (.ref f)) (h : Post ⟨X.K, Bz⟩ w (P.lam Φ i env st) (AV ⟨X.K, Bz⟩ Q) E) :
    codeAny (model X.prog X.w) A (.call (.ref f) ⟨[], []⟩) (CR (L2.CX X.prog X.w) outer X.prog X.w HZ s1 Q E) s1 := by
  have D := O.lm hl
  obtain ⟨p, c, t, o, oc, ot, ex, h1, h2, h3, hC⟩ := rv
  cases ex
  replace hC : Bz.C i f c t o oc ot := hC
  rw [D.C] at hC
  obtain ⟨params, body, scope, dV, hk, rfl, rfl, hd⟩ := hC
  obtain ⟨pa, hpa, L⟩ := D.shp i params body scope hk
  obtain ⟨⟨doc, pm, ctv, of1⟩, _, _⟩ := e0.hok f _ (hS.sub _ _ h1)
  obtain ⟨⟨oc, vs, tq, hoc, hdc, hvc⟩, _, _⟩ := e0.hok c _ (hS.sub _ _ h2)
  have lim : s1.heap.NoLimit := e0.mod.nolimit.keeps fun b o e => (e0.bs b o e).1
  -- the body, once the names are bound
  have main : ∀ (binds : List (Str × Value)) (h₁ : Heap), h₁.Ns s1.heap.objs.size (fun y => binds.reverse.lookup y) → (∀ b o, s1.heap.get? b = some o → h₁.get? b = some o) →
      codeAny (model X.prog X.w) A (.expr body (LamX.lamEnv X scope s1.heap.objs.size f c)) (CR (L2.CX X.prog X.w) outer X.prog X.w HZ s1 Q E) { s1 with heap := h₁, toks := s1.toks + binds.length } := by
    intro binds h₁ hns grow
    have J : L2.Inv (LamX.lamCx X A outer s1 HZ E scope f c) [] σ HZ { s1 with heap := h₁, toks := s1.toks + binds.length } := lam_names O hdf I L e0 hr.hd kp hns grow
    have OY : OkX0 P Φ fa k N ⟨scope, false, false⟩ (fun c d _ H => E c d H) (LamX.lamCx X A outer s1 HZ E scope f c) Bz := by
      refine ⟨rfl, O.names, O.nd, fun z => (nomatch z), rfl, ?_, ?_, hr.deeper _, O.lk⟩
      · exact takes_of (X := LamX.lamCx X A outer s1 HZ E scope f c) rfl rfl rfl rfl
      · exact passes_of (X := LamX.lamCx X A outer s1 HZ E scope f c) rfl
    refine PySem.W.kla_codeExpr (wpAny_mono ((D.snd i params body scope hk _ _ OY).run [] _ _ HZ Q J ⟨w, env, st, hE, hS, h⟩) (fun v s' hq => ?_) fun e s' hq => hq)
    obtain ⟨w', H', J', rv, q⟩ :=
                                  hq
    exact ⟨w', H', J'.os, J'.bare, J'.base, J'.hok, rv,
                                                        q⟩
  refine PySem.W.kla_callFunE hr.depth of1 rfl L.co L.gen rfl ⟨c, oc, vs, tq, rfl, hoc, hdc, hvc⟩ ?_
  have fin : ∀ binds : List (Str × Value), (∀ y ∈ binds, scope.names.lookup y.1 = some .local) → wpAny (model X.prog X.w) A.in1 (newFunctionEnv scope mainGlobals (cloFrom X.env.cells scope.names []) binds (X.env.qual ++ "<lambda>" ++ ".<locals>.") (some f) (.ref c) none builtinsNs)
      (fun env s₂ => s₂.heap.NoLimit ∧ codeAny (model X.prog X.w) A (.expr body env) (CR (L2.CX X.prog X.w) outer X.prog X.w HZ s1 Q E) s₂) (fun e s' => CR (L2.CX X.prog X.w) outer X.prog X.w HZ s1 Q E (.error e) s') s1 := fun binds hb => by
    refine wpAny_newFunctionEnv (fun y hy => (L.own y hy).1) hb (fun h₁ hns hsb => ⟨lim.fresh _ hsb, ?_⟩) L.kind
    exact main binds h₁ hns fun b o e => hsb.extBut b o (Nat.ne_of_lt (Heap.lt_size e)) (Heap.get?_push_of_some _ e)
  rcases hd with ⟨e1, rfl⟩ | ⟨a, e1, rfl, rfl⟩
  · unfold lamP at e1
    split at e1
    · exact wpAny_of_eq (a := []) rfl (fin [] (fun y hy => absurd hy (by simp)))
    · cases e1
    · cases e1
  · have epa : pa = some a := Option.some.inj (hpa.symm.trans e1)
    obtain ⟨⟨tk, ho⟩, _, _⟩ := e0.hok t _ (hS.sub _ _ h3)
    unfold lamP at e1
    split at e1
    · cases e1
    · rename_i a' kq pq _
      cases e1
      have hb : BindsTo s1 (PySem.W.kdv_fn "<lambda>" (X.env.qual ++ "<lambda>") { posonlyargs := [], args := [a'], vararg := none, kwonlyargs := [], kw_defaults := [], kwarg := none, defaults := [Expr.Constant (Const.int 0) kq pq] } (.expr body) scope (cloFrom X.env.cells scope.names []) (.ref t) doc pm (.ref c) ctv) ⟨[], []⟩ [(a'.arg, .int 0 tk)] := by
        refine BindsTo.of_defaults (T := t) (o := PySem.W.kdv_tup [.int 0 tk]) (items := #[.int 0 tk]) rfl ho rfl rfl ?_
        simp
      refine hb _ _ _ _ (fin [(a'.arg, .int 0 tk)] fun y hy => ?_)
      rw [List.mem_singleton] at hy
      subst hy
      exact (L.par _ epa).1
    · cases e1
end
end Mp
end
section
set_option Elab.async false
set_option linter.all false
set_option maxRecDepth 100000
set_option maxHeartbeats
                         4000000
namespace Mp
open PySem L2 PySem.Spec PyProof.Rows
theorem anyX_ok {P : Prog} {K : PySem.W.Frag} {c : Str} (h : ∀ t b, P.xsub c t = some b → PySem.W.kitOne K (.ref (cA K c)) (.ref (cA K t)) = some b) : ∀ {cs : List Str} {b : Bool}, anyX P c cs = some b → isK K (cA K c) cs = some b
  | [], b, e => e
  | t :: ts, b, e => by
    unfold anyX at e
    show PySem.W.kitAny K (.ref (cA K c)) (.ref (cA K t) :: ts.map fun c => .ref (cA K c)) = some b
    unfold PySem.W.kitAny
    cases h1 : P.xsub c t with
    | none => rw [h1] at e; cases e
    | some b1 =>
      rw [h1] at e
      rw [h t b1 h1]
      cases b1 with
      | true => exact e
      | false => exact anyX_ok h e
theorem fieldX_rel {P : Prog} {K : KZ} {w : Wd} {c : Str} {ns : List Str} {vs : List Val} {fs : List (Str × V)} (h : ∀ t b, P.xsub c t = some b → PySem.W.kitOne K (.ref (cA K c)) (.ref (cA K t)) = some b) (hn : fs.map (·.1) = ns) (rr : RVs K w vs (fs.map (·.2))) :
    ∀ {l : List (List Str × Str)} {v : Val}, fieldX (anyX P c) (fld ns vs) .non l = some v → ∃ x, fieldX (isK K (cA K c)) (fun f => fs.lookup f) V.non l = some x ∧ RV K w v x
  | [], v, e => by
    cases e
    exact ⟨.non, rfl, rfl⟩
  | (cs, f) :: r, v, e => by
    unfold fieldX at e ⊢
    cases h1 : anyX P c cs with
    | none => rw [h1] at e; cases e
    | some b =>
      rw [h1] at e
      rw [anyX_ok h h1]
      cases b with
      | true => exact (fld_rel hn rr).1 v e
      | false => exact fieldX_rel h hn rr e
theorem Kps.un {X : Cx} {H HZ H2 : Hp} {h h1 h2 : Heap} {fs : List Addr} (a : Kps X H HZ h h1) (u : Un fs [] HZ H2 h1 h2) (hf : ∀ x ∈ fs, x ∈ frs X.stack ∨ h.objs.size ≤ x) : Kps X H H2 h h2 := fun b o e n nf => by
  obtain ⟨e1, n1⟩ := a b o e n nf
  have out : b ∉ fs := fun z => (hf b z).elim nf fun z => Nat.lt_irrefl _ (Nat.lt_of_lt_of_le (Heap.lt_size e) z)
  exact ⟨u.keep b o e1 n1 out List.not_mem_nil, u.free b o e1 n1 List.not_mem_nil⟩
theorem Kps.refl {X : Cx} {H : Hp} {h : Heap} : Kps X H H h h := fun b o e n _ => ⟨e, n⟩
theorem RS.ext {K : KZ} {w : Wd} {st : Store} {H H' : Hp} (h : RS K w st H) (e : ∀ p o, H p = some o → H' p = some o) : RS K w st H' := by
  refine ⟨fun p o q => e _ _ (h.sub p o q), h.len, fun i p s e1 e2 => ?_, h.nd, h.sep, fun p o q => e _ _ (h.gub p o q), h.gse, h.gF, fun z hz => ?_, h.tabF⟩
  · have r := h.obj i p s e1 e2
    have n := ro_some r
    cases q : H p with
    | none => exact absurd q n
    | some o => exact r.keep (Le.refl w) (by rw [q, e _ _ q])
  · obtain ⟨ps, a, b, c⟩ := h.tab z hz
    exact ⟨ps, e _ _ a, b, c⟩
section
variable {P : Prog} {Φ : Cal} {fa : Str → Addr} {k : Nat} {N : List Str} {sc : Sco} {W : WX} {X : Cx} {Bz : Zs} {w : Wd} {st : Store} {H : Hp} {pins : List (Addr × Obj)} {σ : L2.St} {s : Shared}
def AskR (P : Prog) (Φ : Cal) (K : KZ) (i : Nat) (f : Addr) (σ : L2.St) (H : Hp) (Q : VK) (E : XK) : Prop := ∃ w env st, RE K w env σ ∧ RS K w st H ∧ RV K w (.clo i) (.ref f) ∧ Post K w (P.lam Φ i env st) (AV K Q) E
theorem pe_ask (O : OkX P Φ fa k N sc W X Bz) (hl : sc.lm = true) (hdf : sc.df = true) (I : L2.Inv X pins σ H s) {A : Around} {outer : List PySem.Env} {s1 : Shared} {HZ : Hp} {E0 : XK} (kp : Kps X H HZ s.heap s1.heap) (hfr : ∀ x ∈ frs outer, x ∈ frs X.stack ∨ s.heap.objs.size ≤ x)
    {Ng : List Str} {qg ask : Str} {sg : Scope} {g : Addr} {cdg : Value} {pn : List (Addr × Obj)} {xe : Value → Shared → Prop} {WZ : WX} {i : Nat} {f : Addr} {p1 p2 : Pos}
    (tk : Takes ((cxOf (L2.CX X.prog X.w) X.prog X.w X.K X.mg X.base Ng qg sg g cdg A outer s1 HZ E0).tr pn xe) WZ) (hr : Room (k + 3) (A.deeper (envOfC qg sg s1.heap.objs.size g cdg))) (h0 : Ng[0]? = some ask) (hv : Vis sg ask) (hd : okN ask) :
    PE ((cxOf (L2.CX X.prog X.w) X.prog X.w X.K X.mg X.base Ng qg sg g cdg A outer s1 HZ E0).tr pn xe) (.Call (.Name ask p1) [] [] p2) (fun σZ H2 Q => σZ[0]? = some (some (.ref f)) ∧ AskR P Φ ⟨X.K, Bz⟩ i f σ H2 Q fun c d H' => ∀ σ', WZ c d σ' H') := by
  refine ⟨fun pinsZ sZ σZ H2 Q IZ h => ?_⟩
  obtain ⟨hs, hA⟩ := h
  refine wpAny_Call_Name_kw (thn ((pe_var (pos := p1) (i := 0) h0 hv hd.1 hd.2).run pinsZ sZ σZ H2 (fun v H1 => v = .ref f ∧ H1 = H2) IZ ⟨.ref f, hs, rfl, rfl⟩) fun u s2 ⟨v, H1, I1, r1, q1⟩ => ?_)
  obtain ⟨ev, eH⟩ := q1
  subst ev
  rw [eH] at I1
  obtain rfl : u = Value.ref f :=
                                  r1
  obtain ⟨w, env, st, hE, hS, rv, hp⟩ := hA
  have of1 : ∃ fd, s2.heap.get? f = some ⟨.type "function", none, .func fd, #[]⟩ := by
    obtain ⟨p, c, t, o, oc, ot, ex, h1, h2, h3, hC⟩ := id rv
    cases ex
    replace hC : Bz.C i f c t o oc ot := hC
    rw [(O.lm hl).C] at hC
    obtain ⟨params, body, scope, dV, hk, rfl, rfl, hd⟩ := hC
    obtain ⟨⟨doc, pm, ctv, e⟩, _, _⟩ := I1.hok f _ (hS.sub _ _ h1)
    exact ⟨_, e⟩
  obtain ⟨fd, of1⟩ := of1
  refine PySem.W.callWith_F0 ⟨_, _, _, _, of1⟩
                                               ?_
  have un2 : Un (frs outer) [] HZ H2 s1.heap s2.heap := I1.base
  have rc := lam_act O hl hdf I I1.env0 hr (kp.un un2 hfr) hE hS rv hp
  have hx := passes_call (W := WZ) (E := fun c d H' => ∀ σ', WZ c d σ' H') tk fun cls d σ H z => z σ
  refine wpAny_call (codeAny_mono rc fun r s' hq =>
                                                    ?_)
  cases r with
  | error e => exact hx pinsZ σZ H2 s2 e s' I1 hq
  | ok fl =>
    cases fl with
    | ret u => exact I1.after hq
    | next => exact False.elim hq
    | brk => exact False.elim hq
    | cont => exact False.elim hq
theorem got_run (O : OkX P Φ fa k N sc W X Bz) (hl : sc.lm = true) (hdf : sc.df = true) (I : L2.Inv X pins σ H s) (hgot : P.gots = true) {A : Around} {outer : List PySem.Env} {s1 : Shared} {HZ : Hp} {Q : VK} {E0 : XK} {i : Nat} {f g : Addr} (kp : Kps X H HZ s.heap s1.heap) (hfr : ∀ x ∈ frs outer, x ∈ frs X.stack ∨ s.heap.objs.size ≤ x)
    (e0 : Env0 X.prog X.w X.K X.mg X.base A outer s1 HZ) (hr : Room (k + 4) A) (hm : X.mg "_law_got" = some (.ref g)) (h : ∃ w env st, RE ⟨X.K, Bz⟩ w env σ ∧ RS ⟨X.K, Bz⟩ w st HZ ∧ RV ⟨X.K, Bz⟩ w (.clo i) (.ref f) ∧ Post ⟨X.K, Bz⟩ w (gotR P (P.lam Φ i env st)) (AV ⟨X.K, Bz⟩ Q) fun _ _ _ => False) :
    codeAny (model X.prog X.w) A (.call (.ref g) ⟨[.ref f], []⟩) (CR (L2.CX X.prog X.w) outer X.prog X.w HZ s1 Q E0) s1 := by
  have G := O.lk.gk hgot
  obtain ⟨g1, Ng, ask, scope, body, DF, hT⟩ := G.g
  have eg : g1 = g := by
    have := DF.mg_.symm.trans hm
    injection this with this
    injection this
  subst eg
  obtain ⟨gf, Nf, ef, scf, bf, DFf, hTf, hf0, hf1, hf2, hf3, hf4⟩ := G.f
  obtain ⟨oc, od, nm, qual, params, dV, kV, doc, pm, an, cdv, ct, osl, lk, hcd, hb⟩ := DF.ex
  have KX : X.K.In s1.heap := e0.mod.kin.keeps fun b o e => (e0.bs b o e).1
  have bb := hb s1 [.ref f] KX rfl
  rw [List.append_nil] at bb
  refine LamX.run_ofS (N := Ng) (ps := [ask]) (us := [.ref f]) (vs := [.ref f]) lk hcd DF.sc hr e0 bb (.cons rfl .nil) rfl fun hr' => ?_
  cases hT with
  | @mk e j n m n2 p1 p2 p3 p4 p5 q1 q2 q3 q4 r1 r2 r3 r4 r5 r6 r7 r8 r9 h0 h1 nd hle hla na ne g1' g2' g3' g4' =>
    obtain ⟨t1, t2, t3⟩ := G.top
    have tkZ : Takes (cxOf (L2.CX X.prog X.w) X.prog X.w X.K X.mg X.base Ng qual scope g1 cdv A outer s1 HZ E0) (fun c d _ H => E0 c d H) :=
      takes_of (X := cxOf (L2.CX X.prog X.w) X.prog X.w X.K X.mg X.base Ng qual scope g1 cdv A outer s1 HZ E0) rfl rfl rfl rfl
    refine ⟨_, pss_one (ps_try_as3 (X := cxOf (L2.CX X.prog X.w) X.prog X.w X.K X.mg X.base Ng qual scope g1 cdv A outer s1 HZ E0) (i := 1) (c1 := .ref (cA X.K "SheetError")) (c2 := .ref (cA X.K "SheetMissing")) (c3 := .ref (cA X.K "NothingLeft")) (m := m)
      (Wout := fun c d _ H => E0 c d H)
      (tb := fun WZ D σZ H2 => σZ[0]? = some (some (.ref f)) ∧ AskR P Φ ⟨X.K, Bz⟩ i f σ H2 (fun x H' => ∀ p, H' p = none → D.rt (.ref p) (upd H' p (.tup [.str Str.empty, x]))) fun c d H' => ∀ σ', WZ c d σ' H')
      (ts := fun a cls d D σZ H2 => ∃ c fs dd fx cv v, P.exc c = some fs ∧ cls = .ref (cA X.K c) ∧ d = some dd ∧ H2 dd = some (.xd fx) ∧ fx.map (·.1) = fs ++ [("code" : Str)] ∧ fx.lookup ("code" : Str) = some cv ∧ fieldX (isK X.K (cA X.K c)) (fun f => fx.lookup f) V.non fieldL = some v ∧ (∃ σ', σZ = List.set σ' 1 (some (.ref a))) ∧ ∀ H3 p, (∀ b o, H2 b = some o → H3 b = some o) → H3 p = none → D.rt (.ref p) (upd H3 p (.tup [cv, v])))
      rfl rfl nd h1 hle ⟨g1', by decide, .inl t1⟩ ⟨g2', by decide, .inl t2⟩ ⟨g3', by decide, .inl t3⟩ tkZ ?_ ?_), ?_⟩
    · intro WZ pn xe tk _
      refine (pss_one (ps_ret (pos := p5) (pe_tup (pos := p4) (x1 := n) (pa_cons (pe_str (j := j) (pos := p1) (x := Str.empty)) (pa_cons (pe_ask (i := i) (f := f) O hl hdf I kp hfr tk (hr'.mono (by omega)) h0 (.inl hla) na) pa_nil (by rfl)) (by rfl))))).imp fun D σZ H2 ⟨a, b⟩ => ?_
      refine ⟨a, ?_⟩
      obtain ⟨w, env, st, hE, hS, rv, hp⟩ := b
      refine ⟨w, env, st, hE, hS, rv, hp.imp fun w' v st' H' l s' q x rx => ⟨by rw [sizeLine_eq]; show 2 ≤ 16777216; decide, fun p hp => q x rx p hp⟩⟩
    · intro a oe cls d pn hz hv
      refine ⟨fun pins' s' σZ H2 D IS ⟨c, fs, dd, fx, cv, v, e1, ec, ed, hdd, hnm, hcv, hfv, ⟨σ', hs⟩, hq⟩ => ?_⟩
      subst ec
      subst ed
      have ED := O.lk.ex c fs e1
      have hlen : σZ.length = Ng.length := IS.len
      have hs1 : σZ[1]? = some (some (.ref a)) := by
        have hl1 : 1 < Ng.length := (List.getElem?_eq_some_iff.mp h1).1
        subst hs
        rw [List.getElem?_set_self (by rw [List.length_set] at hlen; omega)]
      have HX : HeldX ((cxOf (L2.CX X.prog X.w) X.prog X.w X.K X.mg X.base Ng qual scope g1 cdv A outer s1 HZ E0).suite a ((a, oe) :: pn)) a (cA X.K c) dd fx := ⟨⟨oe, List.mem_cons_self, hz.1, hz.2, hv⟩, ED.isx⟩
      have hno : ∀ f v, fx.lookup f = some v → PySem.W.findIn X.K (.ref (cA X.K c)) f = some none := fun f v e => by
        have hmem : f ∈ fx.map (·.1) := List.mem_map.mpr ⟨(f, v), PySem.mem_of_lookup e, rfl⟩
        rw [hnm] at hmem
        refine ED.ok.no f ?_
        rcases List.mem_append.mp hmem with z | z
        · exact List.mem_cons_of_mem _ z
        · rw [List.mem_singleton] at z
          rw [z]; exact List.mem_cons_self
      have hp := pss_one (ps_ret (pos := r7) (pe_tup (pos := r6) (x1 := n2) (pa_cons (pe_xfY (pos := r2) HX (hno _ _ hcv) (pe_var (pos := r1) (i := 1) h1 (.inl hle) ne.1 ne.2) rfl)
        (pa_cons (field_call (i := 1) (p := r3) (q := r4) (pos := r5) hr' DFf hTf (by decide) hz.1 hz.2 hv ED.isx hno g4' (by decide) h1 (.inl hle) ne.1 ne.2 hf1 hf2 hf0 hf3 (O.lk.bi "isinstance" (by decide)) (fun q hq c hc => ⟨hf4 q hq c hc, G.cls q hq c hc⟩)) pa_nil (by rfl)) (by rfl))))
      exact hp.run pins' s' σZ H2 D IS ⟨.ref a, hs1, rfl, hdd, cv, hcv, hs1, hdd, v, hfv, fun H' ext => ⟨by rw [sizeLine_eq]; show 2 ≤ 16777216; decide, fun p hp => hq H' p ext hp⟩⟩
    · obtain ⟨w, env, st, hE, hS, rv, hp⟩ := h
      refine ⟨rfl, w, env, st, hE, hS, rv, ?_⟩
      cases er : P.lam Φ i env st with
      | stuck => rw [er] at hp; exact hp.elim
      | ok v st' =>
        rw [er] at hp
        intro w' H' l s' x rx p hp'
        have lf := RS.freeze_le (o := HO.tup [.str Str.empty, x]) s' hp'
        exact hp _ _ (l.trans lf) (s'.freeze hp') _ ⟨p, [.str Str.empty, x], rfl, .inl (.inl upd_same), by rw [sizeLine_eq]; show 2 ≤ 16777216; decide, .cons ⟨rfl, sOk_empty⟩ (.cons (RV.mono lf _ rx) .nil)⟩
      | err c ns vs st' =>
        rw [er] at hp
        intro w' cls d H' l s' x σ'
        obtain ⟨rfl, dd, fx, rfl, hdd, hnm, rr⟩ := x
        simp only [gotR] at hp
        split at hp
        · rename_i fs cv v e1 e2 e3
          split at hp
          · rename_i ens
            have ED := O.lk.ex c fs e1
            obtain ⟨cx, hcx, rcx⟩ := (fld_rel hnm rr).1 cv e2
            obtain ⟨vx, hvx, rvx⟩ := fieldX_rel (O.lk.xs c) hnm rr e3
            refine ⟨true, ED.caught, fun _ a ha => ⟨c, fs, dd, fx, cx, vx, e1, rfl, rfl, s'.sub _ _ hdd, by rw [hnm, ens], hcx, hvx, ⟨σ', rfl⟩, fun H3 p ext hp3 => ?_⟩, fun z => nomatch z⟩
            have s3 : RS ⟨X.K, Bz⟩ w' st' H3 := s'.ext ext
            have lf := RS.freeze_le (o := HO.tup [cx, vx]) s3 hp3
            exact hp _ _ (l.trans lf) (s3.freeze hp3) _ ⟨p, [cx, vx], rfl, .inl (.inl upd_same), by rw [sizeLine_eq]; show 2 ≤ 16777216; decide, .cons (RV.mono lf _ rcx) (.cons (RV.mono lf _ rvx) .nil)⟩
          · exact hp.elim
        · exact hp.elim
theorem gotR_B {K : KZ} {w : Wd} {r : R Val} {A : Wd → Val → Store → Hp → Prop} {B B' : XK} (h : Post K w (gotR P r) A B) : Post K w (gotR P r) A B' := by
  cases r with
  | ok v st => exact h
  | stuck => exact h
  | err c ns vs st =>
    simp only [gotR] at h ⊢
    split at h
    · split at h
      · rename_i e; rw [if_pos e]; exact h
      · exact h.elim
    · exact h.elim
theorem snd_got (O : OkX P Φ fa k N sc W X Bz) (hl : sc.lm = true) (hdf : sc.df = true) (hgot : P.gots = true) {i : Nat} {params : Arguments} {body : Expr} {scope : Scope} {p lpos pos : Pos} (hk : P.lck i params body scope = true) (hg : isGl sc "_law_got" = true) :
    PE X (.Call (.Name "_law_got" p) [.Lambda params body scope lpos] [] pos) (rdE P Φ ⟨X.K, Bz⟩ W (.got i)) := by
  refine ⟨fun pins s σ H Q I ⟨w, env, st, hE, hS, h⟩ => ?_⟩
  replace h : Post ⟨X.K, Bz⟩ w (gotR P (P.lam Φ i env st)) (AV ⟨X.K, Bz⟩ Q) fun c d H' => W c d σ H' := h
  obtain ⟨g, Ng, ask, gscope, gbody, DF, hT⟩ := (O.lk.gk hgot).g
  refine wpAny_Call_Name_kw (ld_glob I (gl_ok O hg) DF.mg_ ?_ (by decide))
  refine PySem.W.callWith_K (h₀ := X.base) I.ok.mod.kin DF.kp ?_ (by rfl) (by rfl)
  show wpAny _ _ (spliced ((false, eval (.Lambda params body scope lpos) X.env) :: backTo pos (starEach [] X.env))) _ _
                                                                                                                        s
  refine Calls.spliced_cons (thn ((snd_lam (Φ := Φ) (i := i) (pos := lpos) O hl hk).run pins s σ H (fun x H1 => ∃ w', RE ⟨X.K, Bz⟩ w' env σ ∧ RS ⟨X.K, Bz⟩ w' st H1 ∧ RV ⟨X.K, Bz⟩ w' (.clo i) x ∧ Post ⟨X.K, Bz⟩ w' (gotR P (P.lam Φ i env st)) (AV ⟨X.K, Bz⟩ Q) fun _ _ _ => False) I ⟨w, env, st, hE, hS, fun w' H' l s' x rv => ⟨w', hE.mono l, s', rv, gotR_B (h.mono l)⟩⟩) fun u s1 ⟨x, H1, I1, ru, w', hE', hS', rv, hp⟩ => ?_)
  refine Calls.spliced_nil ⟨I1.kIn,
                                    ?_⟩
  obtain ⟨f, ef, _⟩ : ∃ f, x = V.ref f ∧ True := by
    obtain ⟨p, c, t, o, oc, ot, ex, _⟩ := rv
    exact ⟨p, ex, trivial⟩
  subst ef
  obtain rfl : u = Value.ref f := ru
  have rc := got_run (E0 := fun _ _ _ => False) O hl hdf I1 hgot Kps.refl (fun x hx => .inl hx) I1.env0 ((O.lm hl).rm.mono (by omega)) DF.mg_ ⟨w', env, st, hE', hS', rv, hp⟩
  refine wpAny_call (codeAny_mono rc fun r s2 hq =>
                                                    ?_)
  cases r with
  | error e =>
    obtain ⟨_, _, _, _, _, _, _, _, _, _, _, _, z⟩ := hq
    exact z.elim
  | ok fl =>
    cases fl with
    | ret u => exact I1.after hq
    | next => exact False.elim hq
    | brk => exact False.elim hq
    | cont => exact False.elim hq
end
end Mp
end
section
set_option Elab.async false
set_option linter.all false
set_option maxRecDepth 100000
set_option maxHeartbeats
                         4000000
namespace Mp
open PySem L2 PySem.Spec PyProof.Rows
def bigB (X : Cx) (H : Hp) (h : Heap) : Heap := hidT h fun b => if b ∈ frs X.stack then some (.lst []) else H b
theorem bigB_get {X : Cx} {H : Hp} {h : Heap} {b : Addr} {o : Obj} (e : h.get? b = some o) (n : H b = none) (nf : b ∉ frs X.stack) : (bigB X H h).get? b = some o := hidT_get e (by rw [if_neg nf]; exact n)
theorem of_bigB {X : Cx} {H : Hp} {h : Heap} {b : Addr} {o : Obj} (e : (bigB X H h).get? b = some o) : h.get? b = some o ∧ H b = none ∧ b ∉ frs X.stack := by
  obtain ⟨e1, e2⟩ := of_hidT e
  by_cases q : b ∈ frs X.stack
  · simp only [if_pos q] at e2; cases e2
  · simp only [if_neg q] at e2; exact ⟨e1, e2, q⟩
theorem funs_base {h base base' : Heap} : ∀ {l : List PySem.Env}, h.FunFrames base l → (∀ b ∈ frs l, base'.get? b = none) → h.FunFrames base' l
  | [], _, _ => trivial
  | env :: r, ⟨k, ⟨L, o, f, n, ho, d⟩, rest⟩, hb => by
    have hm : L ∈ frs (env :: r) := List.mem_filterMap.mpr ⟨env, List.mem_cons_self, f⟩
    refine ⟨k, ⟨L, o, f, hb L hm, ho, d⟩, funs_base rest fun b hb' => hb b ?_⟩
    obtain ⟨e, he, q⟩ := List.mem_filterMap.mp hb'
    exact List.mem_filterMap.mpr ⟨e, List.mem_cons_of_mem _ he,
                                                                q⟩
theorem env0_less {P : Program} {w : World} {K : PySem.W.Frag} {mg : Str → Option Value} {base base' : Heap} {A : Around} {outer : List PySem.Env} {s : Shared} {H : Hp} (sub : ∀ b o, base.get? b = some o → base'.get? b = some o) (hz : base.objs.size ≤ s.heap.objs.size) (m : Mod K mg base) (e : Env0 P w K mg base' A outer s H) : Env0 P w K mg base A outer s H :=
  have fb : ∀ b ∈ frs outer, base.get? b = none := fun b hb => by
    obtain ⟨n, _⟩ := e.funs.mem hb
    cases q : base.get? b with
    | none => rfl
    | some o => rw [sub b o q] at n; cases n
  ⟨e.frames, m, fun b o q => e.bs b o (sub b o q), hz, funs_base e.funs fb, e.frf, e.hok, e.bare⟩
section
variable {X : Cx} {pins : List (Addr × Obj)} {σ : L2.St} {H : Hp} {s :
                                                                       Shared}
theorem base_nf (I : L2.Inv X pins σ H s) {b : Addr} {o : Obj} (e : X.base.get? b = some o) : b ∉ frs X.stack := fun hm => by
  rcases List.mem_cons.mp (I.stkSub b hm) with z |
                                                   z
  · have h1 := Heap.lt_size e
    rw [z] at h1
    exact Nat.lt_irrefl _ (Nat.lt_of_lt_of_le h1 (Nat.le_trans I.ok.bsz I.ok.above))
  · exact I.ok.nofr e z
theorem base_big (I : L2.Inv X pins σ H s) : ∀ b o, X.base.get? b = some o → (bigB X H s.heap).get? b = some o := fun b o e => bigB_get (I.bs b o e).1 (I.bs b o e).2 (base_nf I e)
theorem env0_big (I : L2.Inv X pins σ H s) : Env0 X.prog X.w X.K X.mg (bigB X H s.heap) X.A X.stack s H := by
  have e0 := I.env0
  have up := base_big I
  have ns : ∀ {b : Addr} {m : Str → Option Value}, X.base.Ns b m → (bigB X H s.heap).Ns b m := fun ⟨o, es, ep, e, d, r⟩ => ⟨o, es, ep, up _ _ e, d, r⟩
  refine ⟨e0.frames, ⟨fun b o q => up b o (e0.mod.kin b o q), ns e0.mod.glob, ?_, ?_⟩, fun b o e => ⟨(of_bigB e).1, (of_bigB e).2.1⟩, Nat.le_of_eq (hidT_size _ _), funs_base e0.funs fun b hb => ?_, e0.frf, e0.hok, e0.bare⟩
  · obtain ⟨mb, h1, h2⟩ := e0.mod.blt
    exact ⟨mb, ns h1, h2⟩
  · obtain ⟨mc, h1, h2⟩ := e0.mod.nolimit
    exact ⟨mc, ns h1, h2⟩
  · cases q : (bigB X H s.heap).get? b with
    | none => rfl
    | some o => exact absurd hb (of_bigB q).2.2
end
def tGot (P : Prog) (Φ : Cal) (K : KZ) (σ0 : L2.St) : TE := fun σb Hb Q => ∃ f i, σb[1]? = some (some (.ref f)) ∧ ∃ w env st, RE K w env σ0 ∧ RS K w st Hb ∧ RV K w (.clo i) (.ref f) ∧ Post K w (gotR P (P.lam Φ i env st)) (AV K Q) fun _ _ _ => False
theorem gotF_ok {P : Prog} {f : Nat → Store → R Val} {K : KZ} {w : Wd} {v : Val} {x : V} {st : Store} {β : Type} {kk : Option Val → Store → R β} {A : Wd → β → Store → Hp → Prop} {B : XK} (rv : RV K w v x) (h : Post K w ((noErr (gotF P f v st)).then_ kk) A B) : ∃ i p, v = .clo i ∧ x = .ref p ∧ Post K w (gotR P (f i st)) (fun w' y st' _ => Post K w' (kk (some y) st') A B) fun _ _ _ => False := by
  cases v with
  | clo i =>
    obtain ⟨p, c, t, o, oc, ot, ex, _⟩ := id rv
    refine ⟨i, p, rfl, ex, ?_⟩
    have h1 := Post.seqN h
    replace h1 : Post K w ((gotR P (f i st)).then_ fun v st => .ok (some v) st) (fun w' a st' _ => Post K w' (kk a st') A B) (fun _ _ _ => False) := h1
    exact (Post.seq h1).imp fun w' y st' H' l s q => q w' H' (Le.refl _) s
  | _ => exact h.elim
theorem all_rd {P : Prog} {Φ : Cal} {K : KZ} {σ0 σ : L2.St} {env : Env} {w : Wd} {st : Store} {H : Hp} {Q : VK} {v : Val} {items : List Val} {x : V} {B : XK} (hσ : σ[0]? = some (some x)) (hsl : 1 < σ.length) (hE : RE K w env σ0) (hS : RS K w st H) (rv : RV K w v x) (hl : lstOf st v = some items) (hz : items.length ≤ sizeLine)
    (h : Post K w ((compL (gotF P fun i st => P.lam Φ i env st) (liveOf v items) items [] st).then_ (finC false)) (AV K Q) B) : tLc (iSeq K.K (tVar 0)) (gName 1) tYes (tGot P Φ K σ0) [1] σ H Q := by
  obtain ⟨p, rfl, hsq, hlive⟩ := at_live hS rv hl
  refine ⟨.ref p, hσ, .inl ⟨p, rfl, hsq, fun D hD => ?_⟩⟩
  have itw : ItW K (Itl K p) w items (liveOf v items) := itl_ok fun w st H l s hs => by
    obtain ⟨ys, a, b⟩ := hlive w st H l s hs
    exact ⟨ys, SqL.of a, b⟩
  have hG1 : w.G D = none := by
    cases e : w.G D with
    | none => rfl
    | some o => rw [hS.gub D o e] at hD; cases hD
  let F : Val → Store → R (Option Val) := gotF P fun i st => P.lam Φ i env st
  replace h : Post K w ((compL F (liveOf v items) (items.drop 0) [] st).then_ (finC false)) (AV K Q) B := h
  let Iv : Nat → Hp → Prop := fun i H => ∃ w' st' acc accV, Le w w' ∧ RS K ⟨w'.F, w'.e, upd w'.G D (.lst accV)⟩ st' H ∧ RVs K w' acc accV ∧ i ≤ items.length ∧ acc.length ≤ i ∧ Post K w' ((compL F (liveOf v items) (items.drop i) acc st').then_ (finC false)) (AV K Q) B
  refine ⟨fun i m H => m = items.length - i ∧ Iv i H, ⟨items.length, by omega, w, st, [], [], Le.refl _, hS.lay hD _, RVs.nil, Nat.zero_le _, Nat.le_refl _, h⟩, ?_⟩
  rintro i m H2 ⟨rfl, w', st', acc, accV, l', sD, ra, hi, hal, hp⟩
  have hG' : w'.G D = none := by rw [l'.G]; exact hG1
  have lR : LeR w ⟨w'.F, w'.e, upd w'.G D (.lst accV)⟩ := ⟨l'.F, l'.e⟩
  have lG : LeR w' ⟨w'.F, w'.e, upd w'.G D (.lst accV)⟩ := ⟨fun _ _ h => h, fun _ _ h => h⟩
  have hsub : ∀ q o, w'.G q = some o → upd w'.G D (.lst accV) q = some o := fun q o e => by
    rw [upd_ne fun z => by rw [z, hG'] at e; cases e]; exact e
  by_cases hlt : i < items.length
  · rw [List.drop_eq_getElem_cons hlt, compL_cons] at hp
    split at hp
    · rename_i hstill0
      have hstill := still_of hstill0
      replace hp : Post K w' ((noErr (F items[i] st')).then_ fun o st => (match o with
        | some y => compL F (liveOf v items) (items.drop (i + 1)) (acc ++ [y]) st
        | none => compL F (liveOf v items) (items.drop (i + 1)) acc st).then_ (finC false)) (AV K Q) B := by
        cases e : noErr (F items[i] st') with
        | ok o st => rw [e] at hp; exact hp
        | err _ _ _ _ => rw [e] at hp; exact hp
        | stuck => rw [e] at hp; exact hp
      refine .inr ⟨itw.go _ st' H2 i lR sD hstill hlt, fun H' => ∃ m', m' < items.length - i ∧ m' = items.length - (i + 1) ∧ Iv (i + 1) H', fun H' ⟨m', a, b, c⟩ => ⟨m', a, b, c⟩, fun y H3 hy => ?_⟩
      obtain ⟨w2, l2, s2, rx⟩ := itw.yld _ st' H2 i items[i] y H3 lR sD hstill (by simp [hlt]) hy
      have l2w : LeR w' w2 := lG.trans l2.r
      have hs2 : ∀ q o, w'.G q = some o → w2.G q = some o := fun q o e => by rw [l2.G]; exact hsub q o e
      obtain ⟨wx, rx0⟩ : ∃ wx : Wd, RV K wx items[i] y ∧ LeR wx w2 ∧ (∀ q o, w'.G q = some o → wx.G q = some o) ∧ True := ⟨w2, rx, ⟨fun _ _ h => h, fun _ _ h => h⟩, hs2, trivial⟩
      have hup := Post.up l2w hs2 (w := w') (wd := w2) (A := fun w' a st' H' => Post K w' ((match a with
        | some y => compL F (liveOf v items) (items.drop (i + 1)) (acc ++ [y]) st'
        | none => compL F (liveOf v items) (items.drop (i + 1)) acc st').then_ (finC false)) (AV K Q) B) (Post.seqN hp)
      obtain ⟨j, q, ej, eq, hg⟩ : ∃ j q, items[i] = .clo j ∧ y = .ref q ∧ Post K w2 (gotR P (P.lam Φ j env st')) (fun w3 y st4 _ => Post K ⟨w3.F, w3.e, w'.G⟩ ((compL F (liveOf v items) (items.drop (i + 1)) (acc ++ [y]) st4).then_ (finC false)) (AV K Q) B) fun _ _ _ => False := by
        generalize items[i] = it at hup rx
        cases it with
        | clo j =>
          obtain ⟨q, c, t, o, oc, ot, ex, _⟩ := id rx
          refine ⟨j, q, rfl, ex, ?_⟩
          replace hup : Post K w2 ((gotR P (P.lam Φ j env st')).then_ fun v st => .ok (some v) st) _ _ := hup
          exact (Post.seq hup).imp fun w3 y st4 H4 l4 s4 hy => hy w3 H4 (Le.refl _) s4
        | _ => exact hup.elim
      subst eq
      rw [ej] at rx
      refine ⟨?_, ?_⟩
      · refine (wipe_set (vs := [1]) (i := 1) List.mem_cons_self).trans (List.ext_getElem? fun a => ?_)
        rw [wipe_get, wipe_get]
        split
        · cases σ[a]? <;> rfl
        · rfl
      · refine ⟨q, j, ?_, w2, env, st', hE.monoR (lR.trans l2.r), s2, rx, ?_⟩
        · have : 1 < (L2.wipe σ [1]).length := by rw [L2.wipe_length]; exact hsl
          rw [List.getElem?_set_self this]
        · refine hg.imp fun w4 z st4 H5 l4 s4 hz4 zv rz => ?_
          have hG4 : w4.G D = some (.lst accV) := by rw [l4.G, l2.G]; exact upd_same
          have hD4 : H5 D = some (.lst accV) := s4.gub D _ hG4
          have l4w : LeR w' w4 := l2w.trans l4.r
          have lw4 : Le w ⟨w4.F, w4.e, w'.G⟩ := ⟨fun q o e => l4w.F q o (l'.F q o e), fun j q e => l4w.e j q (l'.e j q e), l'.G⟩
          have full : RS K ⟨w4.F, w4.e, upd w'.G D (.lst accV)⟩ st4 H5 := by
            have : w4.G = upd w'.G D (.lst accV) := by rw [l4.G, l2.G]
            rw [← this]; exact s4
          have ra4 : RVs K ⟨w4.F, w4.e, w'.G⟩ acc accV := RVs.monoR (w := w') (w' := ⟨w4.F, w4.e, w'.G⟩) ⟨l4w.F, l4w.e⟩ _ ra
          simp only [if_true]
          refine ⟨accV, hD4, by rw [← ra.length]; omega, _, by omega, rfl, ⟨w4.F, w4.e, w'.G⟩, st4, acc ++ [z], accV ++ [zv], lw4, ?_, RVs.append ra4 (.cons (RV.monoR (leG w4 w'.G) _ rz) .nil), hlt, by rw [List.length_append, List.length_singleton]; omega, hz4⟩
          exact RS.relay (w := w4) full
    · exact hp.elim
  · have hi' : i = items.length := by omega
    subst hi'
    rw [List.drop_length, compL_nil] at hp
    split at hp
    · rename_i hstill0
      have hstill := still_of hstill0
      refine .inl ⟨itw.stop _ st' H2 _ lR sD hstill (Nat.le_refl _), ?_⟩
      have lf : Le w' ⟨upd w'.F D (.lst accV), w'.e, w'.G⟩ := ⟨fun q o e => by
        have hF : w'.F D = none := sD.gF D (by show upd w'.G D _ D ≠ none; rw [upd_same]; exact fun z => nomatch z)
        show upd w'.F D _ q = some o
        rw [upd_ne fun z => by rw [z, hF] at e; cases e]; exact e, fun _ _ h => h, rfl⟩
      exact hp _ H2 lf (sD.seal hG') _ ⟨D, accV, rfl, upd_same, by omega, RVs.mono lf _ ra⟩
    · exact hp.elim
section
variable {P : Prog} {Φ : Cal} {fa : Str → Addr} {k : Nat} {N : List Str} {sc : Sco} {W : WX} {X : Cx} {Bz : Zs} {w : Wd} {st : Store} {H : Hp} {pins : List (Addr × Obj)} {σ : L2.St} {s : Shared}
theorem all_run (O : OkX P Φ fa k N sc W X Bz) (hl : sc.lm = true) (hdf : sc.df = true) (I : L2.Inv X pins σ H s) (hgot : P.gots = true) (hall : P.alls = true) {Q : VK} {E0 : XK} {v : Val} {items : List Val} {x : V} {u : Value} {ga : Addr} {env : Env} {B : XK} (rx : RelV x u) (hm : X.mg "_law_all_got" = some (.ref ga))
    (hE : RE ⟨X.K, Bz⟩ w env σ) (hS : RS ⟨X.K, Bz⟩ w st H) (rv : RV ⟨X.K, Bz⟩ w v x) (hli : lstOf st v = some items) (hz : items.length ≤ sizeLine) (h : Post ⟨X.K, Bz⟩ w ((compL (gotF P fun i st => P.lam Φ i env st) (liveOf v items) items [] st).then_ (finC false)) (AV ⟨X.K, Bz⟩ Q) B) :
    codeAny (model X.prog X.w) X.A (.call (.ref ga) ⟨[u], []⟩) (CR (L2.CX X.prog X.w) X.stack X.prog X.w H s Q E0) s := by
  obtain ⟨g1, Ng, asks, scope, body, DF, hT⟩ := (O.lk.ga hall).a
  have eg : g1 = ga := by
    have := DF.mg_.symm.trans hm
    injection this with this
    injection this
  subst eg
  obtain ⟨gg, Ngg, askg, gsc, gbody, DG, hTG⟩ := (O.lk.gk hgot).g
  obtain ⟨oc, od, nm, qual, params, dV, kV, doc, pm, an, cdv, ct, osl, lk, hcd, hb⟩ := DF.ex
  have bb := hb s [u] I.kIn rfl
  rw [List.append_nil] at bb
  have e0 := env0_big I
  refine LamX.run_ofS (N := Ng) (ps := [asks]) (us := [u]) (vs := [x]) lk hcd DF.sc (O.lm hl).rm e0 bb (.cons rx .nil) rfl fun hr' => ?_
  cases hT with
  | @mk ask cs p1 p2 p3 p4 p5 p6 p7 h0 h1 nd ha na nb hbk hlo hlf hgl =>
    let Z : Cx := cxOf (L2.CX X.prog X.w) X.prog X.w X.K X.mg (bigB X H s.heap) Ng qual scope g1 cdv X.A X.stack s H E0
    have hsl : 1 < (L2.start Ng [x]).length := by
      have : 1 < Ng.length := (List.getElem?_eq_some_iff.mp h1).1
      unfold L2.start
      simp; omega
    refine ⟨_, pss_one (ps_ret (pos := p7) (pe_lc (X := Z) (wi := iSeq X.K (tVar 0)) (g := gName 1) (tt := tYes) (te := tGot P Φ ⟨X.K, Bz⟩ σ) (pos := p6) rfl nd (pi_seq (pe_var (i := 0) h0 ha na.1 na.2)) hbk (fun s' H' C cl fp => pg_name (X := Z.blk s' H' cs (compEnvC cs cl C Z.env) fp) nd h1 hlo (.inr hlf)) (fun s' H' C cl fp => pts_nil) (fun sb Hb C cl fp => ?_))), ?_⟩
    · refine ⟨fun pins2 s2 σ2 H2 Q2 I2 ⟨f, i, hσ, w2, env2, st2, hE2, hS2, rv2, hp2⟩ => ?_⟩
      refine wpAny_Call_Name_kw (ld_glob I2 hgl DG.mg_ ?_ (by decide))
      have pv : PE (Z.blk sb Hb cs (compEnvC cs cl C Z.env) fp) (.Name ask p2) (tVar 1) := pe_var (i := 1) h1 (hlo.elim .inl fun z => .inr (.inl z)) nb.1 nb.2
      refine PySem.W.callWith_K (first := []) (h₀ := bigB X H s.heap) I2.ok.mod.kin DG.kp (thn ((pa_cons pv pa_nil (by rfl)).run p3 pins2 s2 σ2 H2 (fun vs H1 => vs = [.ref f] ∧ H1 = H2) I2 ⟨.ref f, hσ, rfl, rfl⟩) fun us s3 ⟨vs, H3, I3, r1, ev, eH⟩ => ⟨I3.kIn, ?_⟩) (by rfl) (by rfl)
      subst ev
      subst eH
      obtain ⟨u1, rfl, ru⟩ : ∃ u1, us = [u1] ∧ RelV (V.ref f) u1 := by
        cases r1 with
        | cons a b => cases b; exact ⟨_, rfl, a⟩
      obtain rfl : u1 = Value.ref f := ru
      have e3 := env0_less (base_big I) (Nat.le_trans (Nat.le_trans I.ok.bsz I.sz) (Nat.le_trans I3.ok.bsz I3.sz |> fun z => by rw [show (Z.blk sb Hb cs (compEnvC cs cl C Z.env) fp).base.objs.size = s.heap.objs.size from hidT_size _ _] at z; exact z)) I.mod I3.env0
      have rc := got_run (E0 := fun _ _ _ => False) O hl hdf I hgot (fun b o e n nf => I3.bs b o (bigB_get e n nf)) (fun y hy => by
        rcases List.mem_cons.mp (show y ∈ s.heap.objs.size :: frs X.stack from hy) with z | z
        · exact .inr (Nat.le_of_eq
                                   z.symm)
        · exact .inl z) e3 (hr'.mono (by omega)) DG.mg_ ⟨w2, env2, st2, hE2, hS2, rv2, hp2⟩
      refine wpAny_call (codeAny_mono rc fun r s4 hq => ?_)
      cases r with
      | error e =>
        obtain ⟨_, _, _, _, _, _, _, _, _, _, _, _, z⟩ := hq
        exact z.elim
      | ok fl =>
        cases fl with
        | ret u => exact I3.after hq
        | next => exact False.elim hq
        | brk => exact False.elim hq
        | cont => exact False.elim hq
    · exact all_rd (σ := L2.start Ng [x]) rfl hsl hE hS rv hli hz h
theorem snd_gotall (O : OkX P Φ fa k N sc W X Bz) (hl : sc.lm = true) (hdf : sc.df = true) (hgot : P.gots = true) (hall : P.alls = true) {a : Expr} {m : ME} {p pos : Pos} (hg : isGl sc "_law_all_got" = true) (ns : NoStar [a]) (hst : starEach [a] X.env = (false, eval a X.env) :: starEach [] X.env) (ha : PE X a (rdE P Φ ⟨X.K, Bz⟩ W m)) :
    PE X (.Call (.Name "_law_all_got" p) [a] [] pos) (rdE P Φ ⟨X.K, Bz⟩ W (.gotall m)) := by
  refine ⟨fun pins s σ H Q I ⟨w, env, st, hE, hS, h⟩ => ?_⟩
  obtain ⟨g, Ng, asks, gscope, gbody, DF, hT⟩ := (O.lk.ga hall).a
  replace h : Post ⟨X.K, Bz⟩ w ((evalE P Φ m env st).then_ fun x st => match lstOf st x with
    | some xs => if xs.length ≤ sizeLine then (compL (gotF P fun i st => P.lam Φ i env st) (liveOf x xs) xs [] st).then_ fun ys st => .ok (.lst ys) st else .stuck
    | none => .stuck) (AV ⟨X.K, Bz⟩ Q) fun c d H' => W c d σ H' := h
  refine wpAny_Call_Name_kw (ld_glob I (gl_ok O hg) DF.mg_ ?_ (by decide))
  have n0 : NoStar ([] : List Expr) := fun _ => rfl
  refine PySem.W.callWith_K (first := []) (h₀ := X.base) I.ok.mod.kin DF.kp (thn ((pa_cons ha pa_nil hst).run pos pins s σ H (fun vs H1 => ∃ x w1 v st1, vs = [x] ∧ RE ⟨X.K, Bz⟩ w1 env σ ∧ RS ⟨X.K, Bz⟩ w1 st1 H1 ∧ RV ⟨X.K, Bz⟩ w1 v x ∧ Post ⟨X.K, Bz⟩ w1 (match lstOf st1 v with
    | some xs => if xs.length ≤ sizeLine then (compL (gotF P fun i st => P.lam Φ i env st) (liveOf v xs) xs [] st1).then_ fun ys st => .ok (.lst ys) st else .stuck
    | none => .stuck) (AV ⟨X.K, Bz⟩ Q) fun c d H' => W c d σ H') I (rdE_seq hE hS h fun w1 v x st1 H1 l1 hE1 hS1 rv h1 => ⟨x, w1, v, st1, rfl, hE1, hS1, rv, h1⟩)) fun us s1 ⟨vs, H1, I1, r, x, w1, v, st1, ev, hE1, hS1, rv, h1⟩ => ⟨I1.kIn, ?_⟩) (ns.cons n0 _) (n0.any _ _)
  subst ev
  obtain ⟨u, rfl, ru⟩ : ∃ u, us = [u] ∧ RelV x u := by
    cases r with
    | cons a b => cases b; exact ⟨_, rfl, a⟩
  cases hli : lstOf st1 v with
  | none => rw [hli] at h1; exact h1.elim
  | some items =>
    rw [hli] at h1
    simp only at h1
    split at h1
    · rename_i hz
      have rc := all_run (E0 := fun _ _ _ => False) O hl hdf I1 hgot hall ru DF.mg_ hE1 hS1 rv hli hz h1
      refine wpAny_call (codeAny_mono rc fun r s2 hq =>
                                                        ?_)
      cases r with
      | error e =>
        obtain ⟨_, _, _, _, _, _, _, _, _, _, _, _, z⟩ := hq
        exact z.elim
      | ok fl =>
        cases fl with
        | ret u => exact I1.after hq
        | next => exact False.elim hq
        | brk => exact False.elim hq
        | cont => exact False.elim hq
    · exact h1.elim
end
end Mp
end
section
set_option Elab.async false
set_option linter.all false
set_option maxRecDepth 100000
set_option maxHeartbeats
                         1000000
namespace Mp
open PySem L2 PySem.Spec PyProof.Rows
def noSt : Expr → Bool
  | .Starred _ _ => false
  | _ => true
def plain (es : List Expr) : Bool := es.all noSt
def noSup : Expr → Bool
  | .Call (.Name x _) _ _ _ => !(x == ("super" : Str))
  | _ => true
def kwsC : List Str → List Keyword → Bool
  | [], [] => true
  | n :: ns, ⟨some m, _, _⟩ :: kws => decide (n = m) && kwsC ns kws
  | _, _ => false
def plainIx : Expr → Bool
  | .Slice _ _ _ _ => false
  | _ => true
def noSet : Expr → Bool
  | .Set _ _ _ => false
  | _ => true
def clsLC (P : Prog) (sc : Sco) : List Expr → List Str → Bool
  | [], [] => true
  | .Name x _ :: es, t :: ts => decide (x = t) && clsOk P sc t && clsLC P sc es ts
  | _, _ => false
def ckStr (f : Str) : Expr → Bool
  | .Constant (.str y) _ _ => decide (f = y) && decide (f.length ≤ 65536) && PyData.strOk f
  | _ => false
def ckKeys : List Str → List (Option Expr) → Bool
  | [], [] => true
  | f :: fs, some e :: es => ckStr f e && ckKeys fs es
  | _, _ => false
def bmNames : List String := ["append", "extend", "clear", "join", "pop", "count"]
def isC1 : ME → Bool
  | .comp _ _ _ _ _ _ => true
  | _ => false
def isStr : ME → Bool
  | .str _ => true
  | _ => false
section
variable (P : Prog) (N : List Str)
def ownOf (tg : MT) : List (Str × Nat) := (slots tg).map fun i => (N.getD i "", i)
mutual
def ck : ME → Bool → Sco → Expr → Bool
  | .var i, _, sc, e => match e with
    | .Name x _ => decide (N[i]? = some x) && vis sc x && nmOk x
    | _ => false
  | .non, _, _, e => match e with
    | .Constant .none _ _ => true
    | _ => false
  | .bl b, _, _, e => match e with
    | .Constant (.bool c) _ _ => decide (b = c)
    | _ => false
  | .int i, _, _, e => match e with
    | .Constant (.int j) _ _ => decide (i = j)
    | _ => false
  | .str x, _, _, e => match e with
    | .Constant (.str y) _ _ => decide (x = y) && decide (x.length ≤ 65536) && PyData.strOk x
    | _ => false
  | .glob x, _, sc, e => match e with
    | .Name y _ => decide (x = y) && isGl sc x && nmOk x
    | _ => false
  | .bin op a b, _, sc, e => match e with
    | .BinOp x o y _ => decide (o = pyop op) && ck a false sc x && ck b false sc y
    | _ => false
  | .neg a, _, sc, e => match e with
    | .UnaryOp .USub x _ => ck a false sc x
    | _ => false
  | .cmp op a b, _, sc, e => match e with
    | .Compare x [o] [y] _ => decide (o = pycop op) && !behindInMarks o y && ck a false sc x && ck b false sc y
    | _ => false
  | .chain o1 o2 a b c, _, sc, e => match e with
    | .Compare x [p, q] [y, z] _ => decide (p = pycop o1) && decide (q = pycop o2) && !lastMarks [p, q] [y, z] && ck a false sc x && ck b false sc y && ck c false sc z
    | _ => false
  | .and ms, tt, sc, e => match e with
    | .BoolOp .And es _ => !es.isEmpty && cks ms tt sc es
    | _ => false
  | .or ms, tt, sc, e => match e with
    | .BoolOp .Or es _ => !es.isEmpty && cks ms tt sc es
    | _ => false
  | .not a, tt, sc, e => match e with
    | .UnaryOp .Not x _ => ck a tt sc x
    | _ => false
  | .ite c a b, _, sc, e => match e with
    | .IfExp x y z _ => ck c true sc x && ck a false sc y && ck b false sc z
    | _ => false
  | .tup ms, _, sc, e => match e with
    | .Tuple es _ _ => decide (ms.length ≤ 1000) && plain es && cks ms false sc es
    | _ => false
  | .lst _ ms, _, sc, e => match e with
    | .List es _ => decide (ms.length ≤ 1000) && plain es && cks ms false sc es
    | _ => false
  | .ix a b, _, sc, e => match e with
    | .Subscript x y _ => plainIx y && ck a false sc x && ck b false sc y
    | _ => false
  | .slc a lo hi, _, sc, e => match e with
    | .Subscript x (.Slice l h none _) _ => ck a false sc x && ckO lo sc l && ckO hi sc h
    | _ => false
  | .attr a f, _, sc, e => match e with
    | .Attribute x g _ => decide (f = g) && noSup x && ck a false sc x
    | _ => false
  | .call _ f ms kn ks, _, sc, e => match e with
    | .Call (.Name x _) es kws _ => decide (x = f) && isGl sc f && nmOk f && P.isg f && (P.bind f ms.length kn).isSome && plain es && kwsC kn kws && decide (ks.length = kn.length) && cks ms false sc es && cks ks false sc (kws.map (·.value))
    | _ => false
  | .make _ f ms kn ks, _, sc, e => match e with
    | .Call (.Name x _) es kws _ => decide (x = f) && isGl sc f && nmOk f && P.isc f && plain es && kwsC kn kws && decide (ks.length = kn.length) && cks ms false sc es && cks ks false sc (kws.map (·.value))
    | _ => false
  | .scall _ f c a ms kn ks, _, sc, e => match e with
    | .Call (.Attribute (.Name x xp) g ap) es kws pos => decide (x = c) && decide (a = g) && (ap.endLine == pos.line) && decide (es.length + kws.length + 1 < 30) && noSup (.Name x xp) && isGl sc c && nmOk c && P.isc c && decide (P.stat c a = some f) && (P.bind f ms.length kn).isSome && plain es && kwsC kn kws && decide (ks.length = kn.length) && cks ms false sc es && cks ks false sc (kws.map (·.value))
    | _ => false
  | .lstS _ m1 m2, _, sc, e => match e with
    | .List [.Starred z _, y] _ => noSt y && ck m1 false sc z && ck m2 false sc y
    | _ => false
  | .makeS _ f m1 m2 kn ks, _, sc, e => match e with
    | .Call (.Name x _) [y, .Starred z _] kws _ => decide (x = f) && isGl sc f && nmOk f && P.isc f && noSt y && kwsC kn kws && decide (ks.length = kn.length) && ck m1 false sc y && ck m2 false sc z && cks ks false sc (kws.map (·.value))
    | _ => false
  | .meth _ a f ms, _, sc, e => match e with
    | .Call (.Attribute x g ap) es [] pos => decide (f = g) && (ap.endLine == pos.line) && decide (es.length < 30) && noSup x && plain es && ck a false sc x && cks ms false sc es
    | _ => false
  | .methk _ a f ms kn ks, _, sc, e => match e with
    | .Call (.Attribute x g ap) es kws pos => decide (f = g) && (ap.endLine == pos.line) && decide (es.length + kws.length + 1 < 30) && noSup x && plain es && kwsC kn kws && decide (ks.length = kn.length) && ck a false sc x && cks ms false sc es && cks ks false sc (kws.map (·.value))
    | _ => false
  | .bcall f ms, _, sc, e => match e with
    | .Call (.Name x _) (y :: ys) [] _ => decide (x = Str.ofString f) && decide (f ∈ biNames) && (bootBuiltins x == some (bval f)) && isGl sc x && nmOk x && plain (y :: ys) && cks ms false sc (y :: ys)
    | _ => false
  | .bmeth f a ms, _, sc, e => match e with
    | .Call (.Attribute x g ap) es [] pos => decide (g = Str.ofString f) && decide (f ∈ bmNames) && (ap.endLine == pos.line) && decide (es.length < 30) && noSup x && plain es && ck a false sc x && cks ms false sc es
    | _ => false
  | .isin a ts, _, sc, e => match e with
    | .Call (.Name x _) [y, c] [] _ => decide (x = "isinstance") && isGl sc x && noSt y && ck a false sc y && (match c, ts with
      | .Name t' _, [t] => decide (t' = t) && clsOk P sc t
      | .Tuple es _ _, t :: ts => decide (ts.length < 1000) && clsLC P sc es (t :: ts)
      | _, _ => false)
    | _ => false
  | .comp _ elt tg k ms ifs, _, sc, e => match e with
    | .ListComp y [⟨t, it, cs, 0⟩] scope _ => noSet it && ckSrc k ms sc it t && blkC N sc.sc scope (ownOf N tg) && tgC N ⟨relS scope sc.sc, false, false⟩ t tg && ckIf ifs ⟨relS scope sc.sc, false, false⟩ cs && ck elt false ⟨relS scope sc.sc, false, false⟩ y
    | _ => false
  | .comp2 _ elt tg k ms ifs tg1 k1 ms1 ifs1, _, sc, e => match e with
    | .ListComp y [⟨t, it, cs, 0⟩, ⟨t1, it1, cs1, 0⟩] scope _ => noSet it && noSet it1 && ckSrc k ms sc it t && blkC N sc.sc scope (ownOf N tg ++ ownOf N tg1) && tgC N ⟨relS scope sc.sc, false, false⟩ t tg && ckIf ifs ⟨relS scope sc.sc, false, false⟩ cs && ckSrc k1 ms1 ⟨relS scope sc.sc, false, false⟩ it1 t1 && tgC N ⟨relS scope sc.sc, false, false⟩ t1 tg1 && ckIf ifs1 ⟨relS scope sc.sc, false, false⟩ cs1 && ck elt false ⟨relS scope sc.sc, false, false⟩ y
    | _ => false
  | .fstr ms, _, sc, e => match e with
    | .JoinedStr (v1 :: v2 :: rest) _ => ckF ms sc (v1 :: v2 :: rest)
    | _ => false
  | .own1 o a, _, sc, e => match e with
    | .Call (.Name x _) [y] [] _ => decide (x = if o = true then "len" else "repr") && isGl sc x && noSt y && ck a false sc y
    | _ => false
  | .lcopy a, _, sc, e => match e with
    | .Call (.Name x _) [y] [] _ => decide (x = "list") && isGl sc x && noSt y && ck a false sc y
    | _ => false
  | .ladd a b, _, sc, e => match e with
    | .BinOp x .Add y _ => ck a false sc x && ck b false sc y
    | _ => false
  | .dict fs ms, _, sc, e => match e with
    | .Dict ks vs _ => decide (fs.length = ms.length) && decide (fs.length ≤ 15) && decide fs.Nodup && !fs.isEmpty && ckKeys fs ks && cks ms false sc vs
    | _ => false
  | .dget a f, _, sc, e => match e with
    | .Subscript x y _ => ckStr f y && ck a false sc x
    | _ => false
  | .dictT, _, _, e => match e with
    | .Dict [] [] _ => true
    | _ => false
  | .dgetT a ms, _, sc, e => match e with
    | .Subscript x (.Tuple es _ _) _ => plain es && ck a false sc x && cks ms false sc es
    | _ => false
  | .dgetL a ms, _, sc, e => match e with
    | .Call (.Attribute x g ap) [.Tuple es _ _, .List [] _] [] pos => decide (g = "get") && (ap.endLine == pos.line) && noSup x && plain es && ck a false sc x && cks ms false sc es
    | _ => false
  | .dsetd a ms, _, sc, e => match e with
    | .Call (.Attribute x g ap) [.Tuple es _ _, .List [] _] [] pos => decide (g = "setdefault") && (ap.endLine == pos.line) && noSup x && plain es && ck a false sc x && cks ms false sc es
    | _ => false
  | .ownL ne a b, _, sc, e => match e with
    | .Compare x [o] [y] _ => decide (o = pycop (if ne = true then .ne else .eq)) && !behindInMarks o y && ck a false sc x && ck b false sc y
    | _ => false
  | .own2 ne a b, _, sc, e => match e with
    | .Compare x [o] [y] _ => decide (o = pycop (if ne = true then .ne else .eq)) && !behindInMarks o y && ck a false sc x && ck b false sc y
    | _ => false
  | .lam i, _, sc, e => match e with
    | .Lambda params body scope _ => sc.lm && sc.df && P.lck i params body scope
    | _ => false
  | .got i, _, sc, e => match e with
    | .Call (.Name x _) [.Lambda params body scope _] [] _ => decide (x = "_law_got") && isGl sc x && sc.lm && sc.df && P.gots && P.lck i params body scope
    | _ => false
  | .gotall a, _, sc, e => match e with
    | .Call (.Name x _) [y] [] _ => decide (x = "_law_all_got") && isGl sc x && sc.lm && sc.df && P.gots && P.alls && noSt y && ck a false sc y
    | _ => false
def cks : List ME → Bool → Sco → List Expr → Bool
  | [], _, _, es => match es with
    | [] => true
    | _ => false
  | m :: ms, tt, sc, es => match es with
    | e :: es => ck m tt sc e && cks ms tt sc es
    | _ => false
def ckO : List ME → Sco → Option Expr → Bool
  | [], _, o => o.isNone
  | m :: ms, sc, o => match o with
    | some e => ms.isEmpty && ck m false sc e
    | none => false
def ckF : List ME → Sco → List Expr → Bool
  | [], _, es => match es with
    | [] => true
    | _ => false
  | m :: ms, sc, es => match es with
    | .FormattedValue x (-1) none _ :: es => ck m false sc x && ckF ms sc es
    | e :: es => isStr m && ck m false sc e && ckF ms sc es
    | _ => false
def ckSrc : SrcK → List ME → Sco → Expr → Expr → Bool
  | k, [], _, _, _ => false
  | k, m :: ms, sc, e, t => match k with
    | .seq => ms.isEmpty && ck m false sc e
    | .range1 => match e with
      | .Call (.Name x _) [a] [] _ => ms.isEmpty && decide (x = "range") && isGl sc x && noSt a && ck m false sc a
      | _ => false
    | .enum => match e, t with
      | .Call (.Name x _) [a] [] _, .Tuple _ _ _ => ms.isEmpty && decide (x = "enumerate") && isGl sc x && noSt a && ck m false sc a
      | _, _ => false
    | .range3 => match e with
      | .Call (.Name x _) [a, b, c] [] _ => decide (x = "range") && isGl sc x && noSt a && noSt b && noSt c && ck m false sc a && cks ms false sc [b, c]
      | _ => false
    | .range2 => match e with
      | .Call (.Name x _) [a, b] [] _ => decide (x = "range") && isGl sc x && noSt a && noSt b && ck m false sc a && cks ms false sc [b]
      | _ => false
    | .zip => match e, t with
      | .Call (.Name x _) [a, b] [] _, .Tuple _ _ _ => decide (x = "zip") && isGl sc x && noSt a && noSt b && ck m false sc a && cks ms false sc [b]
      | _, _ => false
def ckIf : List ME → Sco → List Expr → Bool
  | [], _, es => es.isEmpty
  | m :: ms, sc, es => match es with
    | [e] => ms.isEmpty && ck m true sc e
    | _ => false
end
end
end Mp
end
section
set_option Elab.async false
set_option linter.all false
set_option maxRecDepth 100000
set_option maxHeartbeats
                         1000000
namespace Mp
open PySem L2 PySem.Spec PyProof.Rows
theorem starEach_cons {e : Expr} (h : noSt e = true) (es : List Expr) (env : PySem.Env) : starEach (e :: es) env = (false, eval e env) :: starEach es env := by
  cases e <;> first | rfl | cases h
theorem plain_ns : ∀ {es : List Expr}, plain es = true → NoStar es
  | [], _, _ => rfl
  | e :: es, h, env => by
    unfold plain at h
    rw [List.all_cons, Bool.and_eq_true] at
                                            h
    rw [starEach_cons h.1, plain_ns (es := es) h.2 env]; rfl
theorem plain_tail {es : List Expr} (h : plain es = true) : ∀ e es', es = e :: es' → NoStar es' := fun e es' he => by
  subst he
  unfold plain at h
  rw [List.all_cons, Bool.and_eq_true] at
                                          h
  exact plain_ns h.2
theorem noSup_ok {o : Expr} (h : noSup o = true) (f : Str) (env : PySem.Env) (whole : Sem Value) : attributeBase o f env whole = whole := by
  unfold attributeBase
  split
  · rename_i x p pos
    have hx : (x == ("super" : Str)) = false := by simpa [noSup] using h
    have : (x != ("super" : Str)) = true := by rw [bne, hx]; rfl
    rw [this]
    simp
  · rfl
theorem kwsC_ok : ∀ {kn : List Str} {kws : List Keyword}, kwsC kn kws = true → KwsOk kn kws
  | [], [], _ => .nil
  | n :: ns, ⟨some m, e, p⟩ :: kws, h => by
    unfold kwsC at h
    rw [Bool.and_eq_true, decide_eq_true_eq] at
                                                h
    obtain ⟨rfl, h⟩ := h
    exact .cons (kwsC_ok h)
  | [], _ :: _, h => by unfold kwsC at h; cases h
  | _ :: _, [], h => by unfold kwsC at h; cases h
  | _ :: _, ⟨none, _, _⟩ :: _, h => by unfold kwsC at h; cases h
theorem kwsC_len {kn : List Str} {kws : List Keyword} (h : KwsOk kn kws) : kws.length = kn.length := by
  induction h with
  | nil => rfl
  | cons _ ih => simp [ih]
theorem plainIx_ok {b : Expr} (h : plainIx b = true) : PlainIx b := fun o i => by
  cases b <;> first | rfl | cases h
theorem noSet_ok {e : Expr} (h : noSet e = true) (env : PySem.Env) (x : Value) : foldedSetIterable e env x = pure x := by
  cases e <;> first | rfl | cases h
section
variable {P : Prog} {Φ : Cal} {fa : Str → Addr} {k : Nat} {N : List Str} {sc : Sco} {W : WX} {X : Cx} {Bz : Zs}
theorem clsLC_ok : ∀ {es : List Expr} {ts : List Str}, clsLC P sc es ts = true → ClsL P sc es ts
  | [], [], _ => .nil
  | [], _ :: _, h => by unfold clsLC at h; cases h
  | e :: es, [], h => by cases e <;> (unfold clsLC at h; cases h)
  | e :: es, t :: ts, h => by
    cases e <;> first | (unfold clsLC at h; cases h; done) | skip
    rename_i x p
    unfold clsLC at h
    simp only [Bool.and_eq_true, decide_eq_true_eq] at
                                                       h
    obtain ⟨⟨rfl, h1⟩, h2⟩ := h
    have r := clsLC_ok h2
    have hp : ∀ {es : List Expr} {ts : List Str}, ClsL P sc es ts → plain es = true := by
      intro es ts r
      induction r with
      | nil => rfl
      | cons _ _ _ _ ih => unfold plain; rw [List.all_cons]; unfold plain at ih; rw [ih]; rfl
    have hq := hp r
    exact .cons h1 (plain_ns (by unfold plain; rw [List.all_cons]; unfold plain at hq; rw [hq]; rfl)) (plain_ns hq) r
theorem pt_vac {e : Expr} {m : ME} (hm : ∀ env st, evalT P Φ m env st = .stuck) : PT X e (rdT P Φ ⟨X.K, Bz⟩ W m) := ⟨fun pins s σ H Q I ⟨w, env, st, hE, hS, h⟩ => by rw [hm] at h; exact h.elim⟩
def Snd (P : Prog) (Φ : Cal) (fa : Str → Addr) (k : Nat) (N : List Str) (m : ME) : Prop := ∀ (sc : Sco) (W : WX) (X : Cx) (Bz : Zs), OkX P Φ fa k N sc W X Bz → ∀ (e : Expr) (tt : Bool), ck P N m tt sc e = true → (tt = false → PE X e (rdE P Φ ⟨X.K, Bz⟩ W m)) ∧ (tt = true → PT X e (rdT P Φ ⟨X.K, Bz⟩ W m))
def Snds (P : Prog) (Φ : Cal) (fa : Str → Addr) (k : Nat) (N : List Str) (ms : List ME) : Prop := ∀ m ∈ ms, Snd P Φ fa k N m
theorem Snd.v {m : ME} (hm : ∀ env st, evalT P Φ m env st = .stuck) (h : ∀ (sc : Sco) (W : WX) (X : Cx) (Bz : Zs), OkX P Φ fa k N sc W X Bz → ∀ (e : Expr) (tt : Bool), ck P N m tt sc e = true → PE X e (rdE P Φ ⟨X.K, Bz⟩ W m)) : Snd P Φ fa k N m := fun sc W X Bz O e tt he => ⟨fun _ => h sc W X Bz O e tt he, fun _ => pt_vac hm⟩
theorem Snd.t {m : ME} (hm : ∀ env st, evalT P Φ m env st = (evalE P Φ m env st).then_ fun v st => R.of (truV st v) st)
    (h : ∀ (sc : Sco) (W : WX) (X : Cx) (Bz : Zs), OkX P Φ fa k N sc W X Bz → ∀ (e : Expr) (tt : Bool), ck P N m tt sc e = true → PE X e (rdE P Φ ⟨X.K, Bz⟩ W m) ∧ ∀ whole, isTrue e X.env whole = (do let v ← whole; standAt e.pos; holding [v] (truthy v))) : Snd P Φ fa k N m := fun sc W X Bz O e tt he => by
  obtain ⟨h1, h2⟩ := h sc W X Bz O e tt he
  exact ⟨fun _ => h1, fun _ => snd_truth h2 h1 hm⟩
theorem Snds.es {ms : List ME} (h : Snds P Φ fa k N ms) : ∀ {sc : Sco} {W : WX} {X : Cx} {Bz : Zs}, OkX P Φ fa k N sc W X Bz → ∀ {es : List Expr}, cks P N ms false sc es = true → PEs X Bz P Φ W es ms := by
  induction ms with
  | nil =>
    intro sc W X Bz O es he
    cases es with
    | nil => exact .nil
    | cons e es => cases he
  | cons m ms ih =>
    intro sc W X Bz O es he
    cases es with
    | nil => cases he
    | cons e es =>
      replace he : (ck P N m false sc e && cks P N ms false sc es) = true := he
      rw [Bool.and_eq_true] at he
      exact .cons ((h m (by simp) sc W X Bz O e false he.1).1 rfl) (ih (fun m hm => h m (List.mem_cons_of_mem _ hm)) O he.2)
theorem Snds.ts {ms : List ME} (h : Snds P Φ fa k N ms) : ∀ {sc : Sco} {W : WX} {X : Cx} {Bz : Zs}, OkX P Φ fa k N sc W X Bz → ∀ {es : List Expr}, cks P N ms true sc es = true → PTs2 X Bz P Φ W es ms := by
  induction ms with
  | nil =>
    intro sc W X Bz O es he
    cases es with
    | nil => exact .nil
    | cons e es => cases he
  | cons m ms ih =>
    intro sc W X Bz O es he
    cases es with
    | nil => cases he
    | cons e es =>
      replace he : (ck P N m true sc e && cks P N ms true sc es) = true := he
      rw [Bool.and_eq_true] at he
      exact .cons ((h m (by simp) sc W X Bz O e true he.1).2 rfl) (ih (fun m hm => h m (List.mem_cons_of_mem _ hm)) O he.2)
theorem PEs.pa {es : List Expr} {ms : List ME} (h : PEs X Bz P Φ W es ms) (hp : plain es = true) : PA X es (rdA P Φ ⟨X.K, Bz⟩ W ms) := by
  induction h with
  | nil => exact snd_nil
  | cons h r ih =>
    unfold plain at hp
    rw [List.all_cons, Bool.and_eq_true] at hp
    exact snd_cons (starEach_cons hp.1 _ _) h (ih hp.2)
theorem PEs.nil_of {es : List Expr} {ms : List ME} (h : PEs X Bz P Φ W es ms) : es = [] → ms = [] := fun e => by
  subst e
  cases h; rfl
theorem PEs.zip {es : List Expr} {ms : List ME} (h : PEs X Bz P Φ W es ms) : ∀ p ∈ es.zip ms, PE X p.1 (rdE P Φ ⟨X.K, Bz⟩ W p.2) := by
  induction h with
  | nil => intro p hp; cases hp
  | cons h r ih =>
    intro p hp
    rcases List.mem_cons.mp hp with rfl |
                                          hp
    · exact h
    · exact ih p hp
theorem s_var (i : Nat) : Snd P Φ fa k N (.var i) := by
  refine Snd.t (fun env st => ?_) fun sc W X Bz O e tt h => ?_
  · show (match env[i]? with | some (some v) => R.of (truV st v) st | _ => .stuck) = R.then_ (match env[i]? with | some (some v) => R.ok v st | _ => .stuck) _
    split <;> rfl
  · unfold ck at h
    split at h
    · simp only [Bool.and_eq_true, decide_eq_true_eq] at
                                                         h
      exact ⟨snd_var O h.1.1 h.1.2 h.2, fun _ => rfl⟩
    · cases h
theorem s_non : Snd P Φ fa k N .non := Snd.v (fun _ _ => rfl) fun sc W X Bz O e tt h => by
  unfold ck at h
  split at h
  · exact snd_const (v := .non) pe_non (fun _ _ => rfl) fun _ => rfl
  · cases h
theorem s_bl (b : Bool) : Snd P Φ fa k N (.bl b) := Snd.t (fun _ _ => rfl) fun sc W X Bz O e tt h => by
  unfold ck at h
  split at h
  · simp only [decide_eq_true_eq] at h
    subst h
    exact ⟨snd_const (v := .bl b) pe_bl (fun _ _ => rfl) fun _ => rfl, fun _ => rfl⟩
  · cases h
theorem s_int (i : Int) : Snd P Φ fa k N (.int i) := Snd.v (fun _ _ => rfl) fun sc W X Bz O e tt h => by
  unfold ck at h
  split at h
  · simp only [decide_eq_true_eq] at h
    subst h
    exact snd_const (v := .int i) pe_int (fun _ _ => rfl) fun _ => rfl
  · cases h
theorem s_str (x : Str) : Snd P Φ fa k N (.str x) := Snd.v (fun _ _ => rfl) fun sc W X Bz O e tt h => by
  unfold ck at h
  split at h
  · simp only [Bool.and_eq_true, decide_eq_true_eq] at
                                                       h
    obtain ⟨⟨rfl, h1⟩, h2⟩ := h
    exact snd_const (v := .str x) pe_str (fun _ _ => rfl) fun _ => ⟨rfl, Nat.le_trans h1 (by rw [sizeLine_eq]; omega), h2⟩
  · cases h
theorem s_glob (x : Str) : Snd P Φ fa k N (.glob x) := Snd.v (fun _ _ => rfl) fun sc W X Bz O e tt h => by
  unfold ck at h
  split at h
  · simp only [Bool.and_eq_true, decide_eq_true_eq] at
                                                       h
    obtain ⟨⟨rfl, h1⟩, h2⟩ := h
    exact snd_glob O h1 h2
  · cases h
theorem s_bin {op : Bop} {a b : ME} (ha : Snd P Φ fa k N a) (hb : Snd P Φ fa k N b) : Snd P Φ fa k N (.bin op a b) := Snd.v (fun _ _ => rfl) fun sc W X Bz O e tt h => by
  unfold ck at h
  split at h
  · simp only [Bool.and_eq_true, decide_eq_true_eq] at
                                                       h
    exact snd_bin h.1.1 ((ha sc W X Bz O _ _ h.1.2).1 rfl) ((hb sc W X Bz O _ _ h.2).1 rfl)
  · cases h
theorem s_neg {a : ME} (ha : Snd P Φ fa k N a) : Snd P Φ fa k N (.neg a) := Snd.v (fun _ _ => rfl) fun sc W X Bz O e tt h => by
  unfold ck at h
  split at h
  · exact snd_neg ((ha sc W X Bz O _ _ h).1 rfl)
  · cases h
theorem s_cmp {op : Cop} {a b : ME} (ha : Snd P Φ fa k N a) (hb : Snd P Φ fa k N b) : Snd P Φ fa k N (.cmp op a b) := fun sc W X Bz O e tt h => by
  unfold ck at h
  split at h
  · simp only [Bool.and_eq_true, decide_eq_true_eq, Bool.not_eq_true'] at h
    have h1 := (ha sc W X Bz O _ _ h.1.2).1 rfl
    have h2 := (hb sc W X Bz O _ _ h.2).1 rfl
    exact ⟨fun _ => snd_cmp O h.1.1.1 h.1.1.2 h1 h2, fun _ => snd_cmpT O h.1.1.1 h.1.1.2 h1 h2⟩
  · cases h
theorem s_chain {o1 o2 : Cop} {a b c : ME} (ha : Snd P Φ fa k N a) (hb : Snd P Φ fa k N b) (hc : Snd P Φ fa k N c) : Snd P Φ fa k N (.chain o1 o2 a b c) := fun sc W X Bz O e tt h => by
  unfold ck at h
  split at h
  · simp only [Bool.and_eq_true, decide_eq_true_eq, Bool.not_eq_true'] at h
    have h1 := (ha sc W X Bz O _ _ h.1.1.2).1 rfl
    have h2 := (hb sc W X Bz O _ _ h.1.2).1 rfl
    have h3 := (hc sc W X Bz O _ _ h.2).1 rfl
    exact ⟨fun _ => snd_chain O h.1.1.1.1.1 h.1.1.1.1.2 h.1.1.1.2 h1 h2 h3, fun _ => snd_chainT O h.1.1.1.1.1 h.1.1.1.1.2 h.1.1.1.2 h1 h2 h3⟩
  · cases h
theorem ne_of {α : Type} {es : List α} (h : (!es.isEmpty) = true) : es ≠ [] := fun z => by subst z; cases h
theorem s_and {ms : List ME} (hm : Snds P Φ fa k N ms) : Snd P Φ fa k N (.and ms) := fun sc W X Bz O e tt h => by
  unfold ck at h
  split at h
  · simp only [Bool.and_eq_true] at h
    cases tt with
    | false => exact ⟨fun _ => snd_and (hm.es O h.2) (ne_of h.1), fun z => nomatch z⟩
    | true => exact ⟨fun z => (nomatch z), fun _ => (snd_andT (hm.ts O h.2) (ne_of h.1)).pt⟩
  · cases h
theorem s_or {ms : List ME} (hm : Snds P Φ fa k N ms) : Snd P Φ fa k N (.or ms) := fun sc W X Bz O e tt h => by
  unfold ck at h
  split at h
  · simp only [Bool.and_eq_true] at h
    cases tt with
    | false => exact ⟨fun _ => snd_or (hm.es O h.2) (ne_of h.1), fun z => nomatch z⟩
    | true => exact ⟨fun z => (nomatch z), fun _ => (snd_orT (hm.ts O h.2) (ne_of h.1)).pt⟩
  · cases h
theorem s_not {a : ME} (ha : Snd P Φ fa k N a) : Snd P Φ fa k N (.not a) := fun sc W X Bz O e tt h => by
  unfold ck at h
  split at h
  · obtain ⟨h1, h2⟩ := ha sc W X Bz O _ _ h
    exact ⟨fun z => snd_not (h1 z), fun z => snd_notT (h2 z)⟩
  · cases h
theorem s_ite {c a b : ME} (hc : Snd P Φ fa k N c) (ha : Snd P Φ fa k N a) (hb : Snd P Φ fa k N b) : Snd P Φ fa k N (.ite c a b) := Snd.v (fun _ _ => rfl) fun sc W X Bz O e tt h => by
  unfold ck at h
  split at h
  · simp only [Bool.and_eq_true] at h
    exact snd_ite ((hc sc W X Bz O _ _ h.1.1).2 rfl) ((ha sc W X Bz O _ _ h.1.2).1 rfl) ((hb sc W X Bz O _ _ h.2).1 rfl)
  · cases h
theorem s_tup {ms : List ME} (hm : Snds P Φ fa k N ms) : Snd P Φ fa k N (.tup ms) := Snd.v (fun _ _ => rfl) fun sc W X Bz O e tt h => by
  unfold ck at h
  split at h
  · simp only [Bool.and_eq_true, decide_eq_true_eq] at
                                                       h
    exact snd_tup h.1.1 (evalEs_len ms) ((hm.es O h.2).pa h.1.2)
  · cases h
theorem s_lst {mu : Bool} {ms : List ME} (hm : Snds P Φ fa k N ms) : Snd P Φ fa k N (.lst mu ms) := Snd.v (fun _ _ => rfl) fun sc W X Bz O e tt h => by
  unfold ck at h
  split at h
  · simp only [Bool.and_eq_true, decide_eq_true_eq] at
                                                       h
    exact snd_lst h.1.1 (evalEs_len ms) ((hm.es O h.2).pa h.1.2)
  · cases h
theorem s_ix {a b : ME} (ha : Snd P Φ fa k N a) (hb : Snd P Φ fa k N b) : Snd P Φ fa k N (.ix a b) := Snd.t (fun _ _ => rfl) fun sc W X Bz O e tt h => by
  unfold ck at h
  split at h
  · simp only [Bool.and_eq_true] at h
    exact ⟨snd_ix (plainIx_ok h.1.1) ((ha sc W X Bz O _ _ h.1.2).1 rfl) ((hb sc W X Bz O _ _ h.2).1 rfl), fun _ => rfl⟩
  · cases h
theorem Snds.o {ms : List ME} (h : Snds P Φ fa k N ms) (O : OkX P Φ fa k N sc W X Bz) {o : Option Expr} (he : ckO P N ms sc o = true) : PB1 X Bz P Φ W o ms := by
  cases ms with
  | nil =>
    have : o.isNone = true := he
    cases o with
    | none => exact .no
    | some _ => cases this
  | cons m ms =>
    cases o with
    | none => cases he
    | some e =>
      replace he : (ms.isEmpty && ck P N m false sc e) = true := he
      rw [Bool.and_eq_true] at he
      cases ms with
      | nil => exact .one ((h m (by simp) sc W X Bz O e false he.2).1 rfl)
      | cons _ _ => cases he.1
theorem s_slc {a : ME} {lo hi : List ME} (ha : Snd P Φ fa k N a) (hl : Snds P Φ fa k N lo) (hh : Snds P Φ fa k N hi) : Snd P Φ fa k N (.slc a lo hi) := Snd.v (fun _ _ => rfl) fun sc W X Bz O e tt h => by
  unfold ck at h
  split at h
  · simp only [Bool.and_eq_true] at h
    exact snd_slc ((ha sc W X Bz O _ _ h.1.1).1 rfl) (hl.o O h.1.2) (hh.o O h.2)
  · cases h
theorem s_attr {a : ME} {f : Str} (ha : Snd P Φ fa k N a) : Snd P Φ fa k N (.attr a f) := Snd.t (fun _ _ => rfl) fun sc W X Bz O e tt h => by
  unfold ck at h
  split at h
  · simp only [Bool.and_eq_true, decide_eq_true_eq] at
                                                       h
    obtain ⟨⟨rfl, h1⟩, h2⟩ := h
    exact ⟨snd_attr O (noSup_ok h1 _ _ _) ((ha sc W X Bz O _ _ h2).1 rfl), fun _ => rfl⟩
  · cases h
theorem s_call {m : Mode} {f : Str} {ms ks : List ME} {kn : List Str} (hm : Snds P Φ fa k N ms) (hk : Snds P Φ fa k N ks) : Snd P Φ fa k N (.call m f ms kn ks) := Snd.t (fun _ _ => rfl) fun sc W X Bz O e tt h => by
  unfold ck at h
  split at h
  · simp only [Bool.and_eq_true, decide_eq_true_eq] at
                                                       h
    obtain ⟨⟨⟨⟨⟨⟨⟨⟨⟨rfl, h1⟩, h2⟩, h3⟩, h4⟩, h5⟩, h6⟩, h7⟩, h8⟩, h9⟩ := h
    have ko := kwsC_ok h6
    exact ⟨snd_call O h1 h2 h3 h4 (plain_ns h5) (plain_tail h5) ko h7 (hm.es O h8).nil_of ((hm.es O h8).pa h5) (snd_kws ko (hk.es O h9).zip (by rw [kwsC_len ko, h7])), fun _ => rfl⟩
  · cases h
theorem s_make {m : Mode} {f : Str} {ms ks : List ME} {kn : List Str} (hm : Snds P Φ fa k N ms) (hk : Snds P Φ fa k N ks) : Snd P Φ fa k N (.make m f ms kn ks) := Snd.v (fun _ _ => rfl) fun sc W X Bz O e tt h => by
  unfold ck at h
  split at h
  · simp only [Bool.and_eq_true, decide_eq_true_eq] at
                                                       h
    obtain ⟨⟨⟨⟨⟨⟨⟨⟨rfl, h1⟩, h2⟩, h3⟩, h5⟩, h6⟩, h7⟩, h8⟩, h9⟩ := h
    have ko := kwsC_ok h6
    exact snd_make O h1 h2 h3 (plain_ns h5) (plain_tail h5) ko h7 (hm.es O h8).nil_of ((hm.es O h8).pa h5) (snd_kws ko (hk.es O h9).zip (by rw [kwsC_len ko, h7]))
  · cases h
theorem s_lstS {mu : Bool} {m1 m2 : ME} (h1 : Snd P Φ fa k N m1) (h2 : Snd P Φ fa k N m2) : Snd P Φ fa k N (.lstS mu m1 m2) := Snd.v (fun _ _ => rfl) fun sc W X Bz O e tt h => by
  unfold ck at h
  split at h
  · simp only [Bool.and_eq_true] at h
    obtain ⟨⟨a1, a2⟩, a3⟩ := h
    exact snd_lstS (starEach_cons a1 _ _) ((h1 sc W X Bz O _ _ a2).1 rfl) ((h2 sc W X Bz O _ _ a3).1 rfl)
  · cases h
theorem s_scall {m : Mode} {f c a : Str} {ms ks : List ME} {kn : List Str} (hm : Snds P Φ fa k N ms) (hk : Snds P Φ fa k N ks) : Snd P Φ fa k N (.scall m f c a ms kn ks) := Snd.v (fun _ _ => rfl) fun sc W X Bz O e tt h => by
  unfold ck at h
  split at h
  · simp only [Bool.and_eq_true, decide_eq_true_eq] at
                                                       h
    obtain ⟨⟨⟨⟨⟨⟨⟨⟨⟨⟨⟨⟨⟨⟨rfl, rfl⟩, b1⟩, b2⟩, b3⟩, h1⟩, h2⟩, h3⟩, h4⟩, h4b⟩, h5⟩, h6⟩, h7⟩, h8⟩, h9⟩ := h
    have ko := kwsC_ok h6
    exact snd_scall O b1 b2 (noSup_ok b3 _ _ _) h1 h2 h3 h4 h4b (plain_ns h5) (plain_tail h5) ko h7 (hm.es O h8).nil_of ((hm.es O h8).pa h5) (snd_kws ko (hk.es O h9).zip (by rw [kwsC_len ko, h7]))
  · cases h
theorem s_makeS {m : Mode} {f : Str} {m1 m2 : ME} {ks : List ME} {kn : List Str} (h1 : Snd P Φ fa k N m1) (h2 : Snd P Φ fa k N m2) (hk : Snds P Φ fa k N ks) : Snd P Φ fa k N (.makeS m f m1 m2 kn ks) := Snd.v (fun _ _ => rfl) fun sc W X Bz O e tt h => by
  unfold ck at h
  split at h
  · simp only [Bool.and_eq_true, decide_eq_true_eq] at
                                                       h
    obtain ⟨⟨⟨⟨⟨⟨⟨⟨⟨rfl, a1⟩, a2⟩, a3⟩, a5⟩, a6⟩, a7⟩, a8⟩, a9⟩, b1⟩ := h
    have ko := kwsC_ok a6
    exact snd_makeS O a1 a2 a3 (starEach_cons a5 _ _) ko a7 ((h1 sc W X Bz O _ _ a8).1 rfl) ((h2 sc W X Bz O _ _ a9).1 rfl) (snd_kws ko (hk.es O b1).zip (by rw [kwsC_len ko, a7]))
  · cases h
theorem s_meth {m : Mode} {a : ME} {f : Str} {ms : List ME} (ha : Snd P Φ fa k N a) (hm : Snds P Φ fa k N ms) : Snd P Φ fa k N (.meth m a f ms) := Snd.t (fun _ _ => rfl) fun sc W X Bz O e tt h => by
  unfold ck at h
  split at h
  · simp only [Bool.and_eq_true, decide_eq_true_eq] at
                                                       h
    obtain ⟨⟨⟨⟨⟨⟨rfl, h1⟩, h2⟩, h3⟩, h5⟩, h6⟩, h7⟩ := h
    exact ⟨snd_meth O h1 h2 (noSup_ok h3 _ _ _) (plain_ns h5) (plain_tail h5) (hm.es O h7).nil_of ((ha sc W X Bz O _ _ h6).1 rfl) ((hm.es O h7).pa h5), fun _ => rfl⟩
  · cases h
theorem s_methk {m : Mode} {a : ME} {f : Str} {ms ks : List ME} {kn : List Str} (ha : Snd P Φ fa k N a) (hm : Snds P Φ fa k N ms) (hk : Snds P Φ fa k N ks) : Snd P Φ fa k N (.methk m a f ms kn ks) := Snd.v (fun _ _ => rfl) fun sc W X Bz O e tt h => by
  unfold ck at h
  split at h
  · simp only [Bool.and_eq_true, decide_eq_true_eq] at
                                                       h
    obtain ⟨⟨⟨⟨⟨⟨⟨⟨⟨rfl, h1⟩, h2⟩, h3⟩, h5⟩, h6⟩, h7⟩, h8⟩, h9⟩, h10⟩ := h
    have ko := kwsC_ok h6
    exact snd_methk O h1 h2 (noSup_ok h3 _ _ _) (plain_ns h5) (plain_tail h5) ko h7 (hm.es O h9).nil_of ((ha sc W X Bz O _ _ h8).1 rfl) ((hm.es O h9).pa h5) (snd_kws ko (hk.es O h10).zip (by rw [kwsC_len ko, h7]))
  · cases h
theorem s_bcall {f : String} {ms : List ME} (hm : Snds P Φ fa k N ms) : Snd P Φ fa k N (.bcall f ms) := Snd.t (fun _ _ => rfl) fun sc W X Bz O e tt h => by
  unfold ck at h
  split at h
  · simp only [Bool.and_eq_true, decide_eq_true_eq] at
                                                       h
    obtain ⟨⟨⟨⟨⟨⟨h1, h2⟩, h3⟩, h4⟩, h5⟩, h6⟩, h7⟩ :=
                                                     h
    exact ⟨snd_bcall O h1 h2 (eq_of_beq h3) h4 h5 (plain_ns h6) (plain_tail h6 _ _ rfl) ((hm.es O h7).pa h6), fun _ => rfl⟩
  · cases h
theorem s_bmeth {f : String} {a : ME} {ms : List ME} (ha : Snd P Φ fa k N a) (hm : Snds P Φ fa k N ms) : Snd P Φ fa k N (.bmeth f a ms) := Snd.v (fun _ _ => rfl) fun sc W X Bz O e tt h => by
  unfold ck at h
  split at h
  · simp only [Bool.and_eq_true, decide_eq_true_eq] at
                                                       h
    obtain ⟨⟨⟨⟨⟨⟨⟨rfl, h1⟩, h2⟩, h3⟩, h4⟩, h5⟩, h6⟩, h7⟩ := h
    have p1 := noSup_ok h4 (Str.ofString f) X.env
    have p2 := (ha sc W X Bz O _ _ h6).1 rfl
    have p3 := hm.es O h7
    have cs : f = "append" ∨ f = "extend" ∨ f = "clear" ∨ f = "join" ∨ f = "pop" ∨ f = "count" := by simpa [bmNames] using h1
    rcases cs with rfl | rfl | rfl | rfl | rfl | rfl
    · exact snd_bm PySem.F.plainAttrs_list PySem.F.slot_list_append PySem.F.type_list_append mt_ok_append (.inr ⟨by decide, rfl⟩) h2 h3 (p1 _) (plain_ns h5) (plain_tail h5) p3.nil_of p2 (p3.pa h5)
    · exact snd_bm PySem.F.plainAttrs_list PySem.F.slot_list_extend PySem.F.type_list_extend mt_ok_extend (.inr ⟨by decide, rfl⟩) h2 h3 (p1 _) (plain_ns h5) (plain_tail h5) p3.nil_of p2 (p3.pa h5)
    · exact snd_bm PySem.F.plainAttrs_list PySem.F.slot_list_clear PySem.F.type_list_clear mt_ok_clear (.inr ⟨by decide, rfl⟩) h2 h3 (p1 _) (plain_ns h5) (plain_tail h5) p3.nil_of p2 (p3.pa h5)
    · exact snd_bm PySem.F.plainAttrs_str PySem.F.slot_str_join PySem.F.type_str_join mt_ok_join (.inl ⟨rfl, rfl⟩) h2 h3 (p1 _) (plain_ns h5) (plain_tail h5) p3.nil_of p2 (p3.pa h5)
    · exact snd_bm PySem.F.plainAttrs_list PySem.F.slot_list_pop PySem.F.type_list_pop mt_ok_pop (.inr ⟨by decide, rfl⟩) h2 h3 (p1 _) (plain_ns h5) (plain_tail h5) p3.nil_of p2 (p3.pa h5)
    · exact snd_bm PySem.F.plainAttrs_list PySem.F.slot_list_count PySem.F.type_list_count (mt_ok_count (units64 O)) (.inr ⟨by decide, rfl⟩) h2 h3 (p1 _) (plain_ns h5) (plain_tail h5) p3.nil_of p2 (p3.pa h5)
  · cases h
theorem one_ns {e : Expr} (h : noSt e = true) : NoStar [e] := fun env => by
  rw [starEach_cons h]
  rfl
theorem s_own1 {len : Bool} {a : ME} (ha : Snd P Φ fa k N a) : Snd P Φ fa k N (.own1 len a) := Snd.v (fun _ _ => rfl) fun sc W X Bz O e tt h => by
  unfold ck at h
  split at h
  · simp only [Bool.and_eq_true, decide_eq_true_eq] at
                                                       h
    exact snd_own1 O h.1.1.1 h.1.1.2 (one_ns h.1.2) ((ha sc W X Bz O _ _ h.2).1 rfl)
  · cases h
theorem s_lcopy {a : ME} (ha : Snd P Φ fa k N a) : Snd P Φ fa k N (.lcopy a) := Snd.v (fun _ _ => rfl) fun sc W X Bz O e tt h => by
  unfold ck at h
  split at h
  · simp only [Bool.and_eq_true, decide_eq_true_eq] at
                                                       h
    exact snd_lcopy O h.1.1.1 h.1.1.2 (one_ns h.1.2) ((ha sc W X Bz O _ _ h.2).1 rfl)
  · cases h
theorem s_ladd {a b : ME} (ha : Snd P Φ fa k N a) (hb : Snd P Φ fa k N b) : Snd P Φ fa k N (.ladd a b) := Snd.v (fun _ _ => rfl) fun sc W X Bz O e tt h => by
  unfold ck at h
  split at h
  · rw [Bool.and_eq_true] at h
    exact snd_ladd ((ha sc W X Bz O _ _ h.1).1 rfl) ((hb sc W X Bz O _ _ h.2).1 rfl)
  · cases h
theorem str_rd {X : Cx} {Bz : Zs} {W : WX} {f : Str} {e : Expr} (h : ckStr f e = true) : PE X e (rdE P Φ ⟨X.K, Bz⟩ W (.str f)) ∧ NoSl e := by
  unfold ckStr at h
  split at h
  · simp only [Bool.and_eq_true, decide_eq_true_eq] at
                                                       h
    obtain ⟨⟨rfl, h1⟩, h2⟩ := h
    exact ⟨snd_const (v := .str f) pe_str (fun _ _ => rfl) fun _ => ⟨rfl, Nat.le_trans h1 (by rw [sizeLine_eq]; omega), h2⟩, fun _ _ => rfl⟩
  · cases h
theorem s_dget {a : ME} {f : Str} (ha : Snd P Φ fa k N a) : Snd P Φ fa k N (.dget a f) := Snd.t (fun _ _ => rfl) fun sc W X Bz O e tt h => by
  unfold ck at h
  split at h
  · rename_i x y pos
    rw [Bool.and_eq_true] at h
    obtain ⟨g1, g2⟩ := str_rd (P := P) (Φ := Φ) (X := X) (W := W) h.1
    exact ⟨snd_dget O ((ha sc W X Bz O _ _ h.2).1 rfl) g1 g2, fun _ => rfl⟩
  · cases h
theorem s_dictT : Snd P Φ fa k N .dictT := Snd.v (fun _ _ => rfl) fun sc W X Bz O e tt h => by
  unfold ck at h
  split at h
  · exact snd_dictT
  · cases h
theorem s_dgetT {a : ME} {ms : List ME} (ha : Snd P Φ fa k N a) (hm : Snds P Φ fa k N ms) : Snd P Φ fa k N (.dgetT a ms) := Snd.v (fun _ _ => rfl) fun sc W X Bz O e tt h => by
  unfold ck at h
  split at h
  · simp only [Bool.and_eq_true] at h
    exact snd_dgetT O ((ha sc W X Bz O _ _ h.1.2).1 rfl) ((hm.es O h.2).pa h.1.1)
  · cases h
theorem m2_ok {X : Cx} {x : Expr} {g : Str} {ap cpos tp lp : Pos} {es : List Expr} {tn : Nat} (h1 : (ap.endLine == cpos.line) = true) (h2 : noSup x = true) : M2 X x g ap (.Tuple es tn tp) (.List [] lp) cpos := ⟨noSup_ok h2 _ _ _, rfl, h1, rfl⟩
theorem s_dgetL {a : ME} {ms : List ME} (ha : Snd P Φ fa k N a) (hm : Snds P Φ fa k N ms) : Snd P Φ fa k N (.dgetL a ms) := Snd.v (fun _ _ => rfl) fun sc W X Bz O e tt h => by
  unfold ck at h
  split at h
  · simp only [Bool.and_eq_true, decide_eq_true_eq] at
                                                       h
    obtain ⟨⟨⟨⟨⟨rfl, h1⟩, h2⟩, h3⟩, h4⟩, h5⟩ := h
    exact snd_dgetL O ((ha sc W X Bz O _ _ h4).1 rfl) ((hm.es O h5).pa h3) (m2_ok h1 h2)
  · cases h
theorem s_dsetd {a : ME} {ms : List ME} (ha : Snd P Φ fa k N a) (hm : Snds P Φ fa k N ms) : Snd P Φ fa k N (.dsetd a ms) := Snd.v (fun _ _ => rfl) fun sc W X Bz O e tt h => by
  unfold ck at h
  split at h
  · simp only [Bool.and_eq_true, decide_eq_true_eq] at
                                                       h
    obtain ⟨⟨⟨⟨⟨rfl, h1⟩, h2⟩, h3⟩, h4⟩, h5⟩ := h
    exact snd_dsetd O ((ha sc W X Bz O _ _ h4).1 rfl) ((hm.es O h5).pa h3) (m2_ok h1 h2)
  · cases h
theorem pps_ok {X : Cx} {Bz : Zs} {W : WX} {pos : Pos} {ms : List ME} {es : List Expr} (h : PEs X Bz P Φ W es ms) : ∀ {fs : List Str} {ks : List (Option Expr)}, fs.length = ms.length → ckKeys fs ks = true → PPs X pos ks es (trsD P Φ ⟨X.K, Bz⟩ W fs ms) ∧ ks.all (·.isSome) = true ∧ ks.length = es.length ∧ ks.length = fs.length := by
  induction h with
  | nil =>
    intro fs ks hl hk
    cases fs with
    | nil =>
      cases ks with
      | nil => exact ⟨pps_nil, rfl, rfl, rfl⟩
      | cons _ _ => cases hk
    | cons _ _ => simp at hl
  | cons h r ih =>
    intro fs ks hl hk
    cases fs with
    | nil => simp at hl
    | cons f fs =>
      cases ks with
      | nil => cases hk
      | cons kk ks =>
        cases kk with
        | none => cases hk
        | some e =>
          replace hk : (ckStr f e && ckKeys fs ks) = true := hk
          rw [Bool.and_eq_true] at hk
          obtain ⟨i1, i2, i3, i4⟩ := ih (by simpa using hl) hk.2
          exact ⟨pps_cons (str_rd hk.1).1 h i1, by simpa using i2, by simp [i3], by simp [i4]⟩
theorem s_dict {fs : List Str} {ms : List ME} (hm : Snds P Φ fa k N ms) : Snd P Φ fa k N (.dict fs ms) := Snd.v (fun _ _ => rfl) fun sc W X Bz O e tt h => by
  unfold ck at h
  split at h
  · rename_i ks vs pos
    simp only [Bool.and_eq_true, decide_eq_true_eq, Bool.not_eq_true'] at h
    obtain ⟨⟨⟨⟨⟨h1, h2⟩, h3⟩, h4⟩, h5⟩, h6⟩ := h
    obtain ⟨g1, g2, g3, g4⟩ := pps_ok (pos := pos) (hm.es O h6) h1 h5
    exact (pe_disp g1 g2 g3 (by
      intro z
      subst z
      cases fs with
      | nil => cases h4
      | cons _ _ => simp at g4) (by omega)).imp fun σ H Q q => dict_rd h1 h2 h3 q
  · cases h
theorem s_own2 {ne : Bool} {a b : ME} (ha : Snd P Φ fa k N a) (hb : Snd P Φ fa k N b) : Snd P Φ fa k N (.own2 ne a b) := fun sc W X Bz O e tt h => by
  unfold ck at h
  split at h
  · simp only [Bool.and_eq_true, decide_eq_true_eq, Bool.not_eq_true'] at h
    have h1 := (ha sc W X Bz O _ _ h.1.2).1 rfl
    have h2 := (hb sc W X Bz O _ _ h.2).1 rfl
    exact ⟨fun _ => snd_own2 O h.1.1.1 h.1.1.2 h1 h2, fun _ => snd_own2T O h.1.1.1 h.1.1.2 h1 h2⟩
  · cases h
theorem s_ownL {ne : Bool} {a b : ME} (ha : Snd P Φ fa k N a) (hb : Snd P Φ fa k N b) : Snd P Φ fa k N (.ownL ne a b) := fun sc W X Bz O e tt h => by
  unfold ck at h
  split at h
  · simp only [Bool.and_eq_true, decide_eq_true_eq, Bool.not_eq_true'] at h
    have h1 := (ha sc W X Bz O _ _ h.1.2).1 rfl
    have h2 := (hb sc W X Bz O _ _ h.2).1 rfl
    exact ⟨fun _ => snd_ownL O h.1.1.1 h.1.1.2 h1 h2, fun _ => snd_ownLT O h.1.1.1 h.1.1.2 h1 h2⟩
  · cases h
theorem s_isin {a : ME} {ts : List Str} (ha : Snd P Φ fa k N a) : Snd P Φ fa k N (.isin a ts) := Snd.t (fun _ _ => rfl) fun sc W X Bz O e tt h => by
  unfold ck at h
  split at h
  · rename_i x p y c pos
    simp only [Bool.and_eq_true, decide_eq_true_eq] at
                                                       h
    obtain ⟨⟨⟨⟨h1, h2⟩, h3⟩, h4⟩, h5⟩ := h
    have p2 := (ha sc W X Bz O _ _ h4).1 rfl
    split at h5
    · simp only [Bool.and_eq_true, decide_eq_true_eq] at h5
      obtain ⟨rfl, h6⟩ := h5
      exact ⟨snd_isin1 O h1 h2 h6 (plain_ns (by unfold plain; rw [List.all_cons, h3]; rfl)) (plain_ns rfl) p2, fun _ => rfl⟩
    · simp only [Bool.and_eq_true, decide_eq_true_eq] at h5
      exact ⟨snd_isinT O h1 h2 (clsLC_ok h5.2) (plain_ns (by unfold plain; rw [List.all_cons, h3]; rfl)) (plain_ns rfl) h5.1 p2, fun _ => rfl⟩
    · cases h5
  · cases h
theorem ckF_ok {ms : List ME} (h : Snds P Φ fa k N ms) (O : OkX P Φ fa k N sc W X Bz) : ∀ {es : List Expr}, ckF P N ms sc es = true → PFs X Bz P Φ W es ms := by
  induction ms with
  | nil =>
    intro es he
    cases es with
    | nil => exact .nil
    | cons e es => cases he
  | cons m ms ih =>
    intro es he
    cases es with
    | nil => cases he
    | cons e es =>
      have ih' := @ih (fun m hm => h m (List.mem_cons_of_mem _ hm))
      unfold ckF at he
      split at he
      · rename_i he'
        cases he'
        rw [Bool.and_eq_true] at he
        exact .val ((h m (by simp) sc W X Bz O _ false he.1).1 rfl) (ih' he.2)
      · rename_i heq
        cases heq
        simp only [Bool.and_eq_true] at he
        obtain ⟨⟨h1, h2⟩, h3⟩ := he
        cases m <;> first | (cases h1; done) | skip
        exact .txt ((h _ (by simp) sc W X Bz O _ false h2).1 rfl) (ih' h3)
      · cases he
theorem s_fstr {ms : List ME} (hm : Snds P Φ fa k N ms) : Snd P Φ fa k N (.fstr ms) := Snd.v (fun _ _ => rfl) fun sc W X Bz O e tt h => by
  unfold ck at h
  split at h
  · exact snd_fstr (ckF_ok hm O h)
  · cases h
theorem ckSrc_ok {kd : SrcK} {ms : List ME} (h : Snds P Φ fa k N ms) (O : OkX P Φ fa k N sc W X Bz) {e t : Expr} (he : ckSrc P N kd ms sc e t = true) : PI X t e (rdS P Φ ⟨X.K, Bz⟩ W kd ms) := by
  cases ms with
  | nil => cases kd <;> cases he
  | cons m ms =>
    have hm := h m (by simp)
    have one : ∀ {a : Expr}, ms.isEmpty = true → ck P N m false sc a = true → noSt a = true → ms = [] ∧ NoStar [a] ∧ PA X [a] (rdA P Φ ⟨X.K, Bz⟩ W [m]) := by
      intro a h1 h2 h3
      have hp : plain [a] = true := by unfold plain; rw [List.all_cons, h3]; rfl
      exact ⟨List.isEmpty_iff.mp h1, plain_ns hp, (PEs.cons ((hm sc W X Bz O _ false h2).1 rfl) .nil).pa hp⟩
    cases kd with
    | seq =>
      replace he : (ms.isEmpty && ck P N m false sc e) = true := he
      rw [Bool.and_eq_true] at he
      have : ms = [] := List.isEmpty_iff.mp he.1
      subst this
      exact snd_src_seq ((hm sc W X Bz O _ false he.2).1 rfl)
    | range1 =>
      unfold ckSrc at he
      simp only at he
      split at he
      · simp only [Bool.and_eq_true, decide_eq_true_eq] at he
        obtain ⟨⟨⟨⟨h1, h2⟩, h3⟩, h4⟩, h5⟩ := he
        obtain ⟨rfl, n1, n2⟩ := one h1 h5 h4
        exact snd_src_range1 O h2 h3 n1 n2
      · cases he
    | enum =>
      unfold ckSrc at he
      simp only at he
      split at he
      · simp only [Bool.and_eq_true, decide_eq_true_eq] at he
        obtain ⟨⟨⟨⟨h1, h2⟩, h3⟩, h4⟩, h5⟩ := he
        obtain ⟨rfl, n1, n2⟩ := one h1 h5 h4
        exact snd_src_enum O h2 h3 n1 n2
      · cases he
    | range2 =>
      unfold ckSrc at he
      simp only at he
      split at he
      · simp only [Bool.and_eq_true, decide_eq_true_eq] at he
        obtain ⟨⟨⟨⟨⟨h2, h3⟩, h4⟩, h5⟩, h6⟩, h7⟩ := he
        have hp2 := Snds.es (fun m hm => h m (List.mem_cons_of_mem _ hm)) O h7
        cases ms with
        | nil => cases h7
        | cons m2 ms =>
          cases ms with
          | cons _ _ => cases hp2 with | cons _ r => cases r
          | nil =>
            rename_i a b _
            have hp : plain [a, b] = true := by unfold plain; rw [List.all_cons, List.all_cons, h4, h5]; rfl
            exact snd_src_range2 O h2 h3 (plain_ns hp) (plain_tail hp _ _ rfl) ((PEs.cons ((hm sc W X Bz O _ false h6).1 rfl) hp2).pa hp)
      · cases he
    | range3 =>
      unfold ckSrc at he
      simp only at he
      split at he
      · simp only [Bool.and_eq_true, decide_eq_true_eq] at he
        obtain ⟨⟨⟨⟨⟨⟨h2, h3⟩, h4⟩, h5⟩, h5'⟩, h6⟩, h7⟩ := he
        have hp2 := Snds.es (fun m hm => h m (List.mem_cons_of_mem _ hm)) O h7
        cases ms with
        | nil => cases h7
        | cons m2 ms =>
          cases ms with
          | nil => cases hp2 with | cons _ r => cases r
          | cons m3 ms =>
            cases ms with
            | cons _ _ => cases hp2 with | cons _ r => cases r with | cons _ r => cases r
            | nil =>
              rename_i a b c _
              have hp : plain [a, b, c] = true := by unfold plain; rw [List.all_cons, List.all_cons, List.all_cons, h4, h5, h5']; rfl
              exact snd_src_range3 O h2 h3 (plain_ns hp) (plain_tail hp _ _ rfl) ((PEs.cons ((hm sc W X Bz O _ false h6).1 rfl) hp2).pa hp)
      · cases he
    | zip =>
      unfold ckSrc at he
      simp only at he
      split at he
      · simp only [Bool.and_eq_true, decide_eq_true_eq] at he
        obtain ⟨⟨⟨⟨⟨h2, h3⟩, h4⟩, h5⟩, h6⟩, h7⟩ := he
        have hp2 := Snds.es (fun m hm => h m (List.mem_cons_of_mem _ hm)) O h7
        cases ms with
        | nil => cases h7
        | cons m2 ms =>
          cases ms with
          | cons _ _ => cases hp2 with | cons _ r => cases r
          | nil =>
            rename_i a b _ _ _ _
            have hp : plain [a, b] = true := by unfold plain; rw [List.all_cons, List.all_cons, h4, h5]; rfl
            exact snd_src_zip O h2 h3 (plain_ns hp) (plain_tail hp _ _ rfl) ((PEs.cons ((hm sc W X Bz O _ false h6).1 rfl) hp2).pa hp)
      · cases he
theorem _root_.L2.PTs.imp {e : List Expr} {t t' : TT} (h : PTs X e t) (i : ∀ σ H Q, t' σ H Q → t σ H Q) : PTs X e t' := ⟨fun pins s σ H Q I q => h.run pins s σ H Q I (i σ H Q q)⟩
theorem ckIf_ok {ms : List ME} (h : Snds P Φ fa k N ms) (O : OkX P Φ fa k N sc W X Bz) {es : List Expr} (he : ckIf P N ms sc es = true) : PTs X es (rdTw P Φ ⟨X.K, Bz⟩ W (testL P Φ ms)) := by
  cases ms with
  | nil =>
    have : es.isEmpty = true := he
    cases es with
    | nil => exact pts_nil.imp fun σ H Q ⟨w, env, st, hE, hS, q⟩ => q w H (Le.refl _) hS
    | cons _ _ => cases this
  | cons m ms =>
    unfold ckIf at he
    split at he
    · rw [Bool.and_eq_true] at he
      have : ms = [] := List.isEmpty_iff.mp he.1
      subst this
      exact (pts_one ((h m (by simp) sc W X Bz O _ true he.2).2 rfl)).imp fun σ H Q q => q
    · cases he
theorem own_slots (tg : MT) : (ownOf N tg).map (·.2) = slots tg := by
  unfold ownOf
  rw [List.map_map]
  exact List.map_id _
structure CompOk (X : Cx) (P : Prog) (Φ : Cal) (N : List Str) (W : WX) (tg : MT) (kd : SrcK) (elt : ME) (ms ifs : List ME) (y t it : Expr) (cs : List Expr) (scope : Scope) : Prop where
  src : PI X t it (rdS P Φ ⟨X.K, Bz⟩ W kd ms)
  blk : BlkOk X.N X.env.scope scope (ownOf N tg)
  hg : ∀ (s : Shared) (H : Hp) (C : Addr) (cl : List (Str × Addr)) (fp : List Addr), PG (X.blk s H scope (compEnvC scope cl C X.env) fp) t (tgR ⟨X.K, Bz⟩ tg)
  ht : ∀ (s : Shared) (H : Hp) (C : Addr) (cl : List (Str × Addr)) (fp : List Addr), PTs (X.blk s H scope (compEnvC scope cl C X.env) fp) cs (rdTw P Φ ⟨X.K, Bz⟩ Wf (testL P Φ ifs))
  he : ∀ (s : Shared) (H : Hp) (C : Addr) (cl : List (Str × Addr)) (fp : List Addr), PE (X.blk s H scope (compEnvC scope cl C X.env) fp) y (rdE P Φ ⟨X.K, Bz⟩ Wf elt)
  st : ∀ x, foldedSetIterable it X.env x = pure x
theorem comp_parts {mu : Bool} {elt : ME} {tg : MT} {kd : SrcK} {ms ifs : List ME} (he : Snd P Φ fa k N elt) (hm : Snds P Φ fa k N ms) (hi : Snds P Φ fa k N ifs) (O : OkX P Φ fa k N sc W X Bz) {e : Expr} {tt : Bool} (h : ck P N (.comp mu elt tg kd ms ifs) tt sc e = true) :
    ∃ y t it cs scope pos, e = .ListComp y [⟨t, it, cs, 0⟩] scope pos ∧ CompOk (Bz := Bz) X P Φ N W tg kd elt ms ifs y t it cs scope := by
  unfold ck at h
  split at h
  · rename_i y t it cs scope pos
    simp only [Bool.and_eq_true] at
                                    h
    obtain ⟨⟨⟨⟨⟨h1, h2⟩, h3⟩, h4⟩, h5⟩, h6⟩ := h
    have hb : BlkOk X.N X.env.scope scope (ownOf N tg) := by rw [O.names, O.sco]; exact blkOk_by h3
    exact ⟨y, t, it, cs, scope, pos, rfl, ckSrc_ok hm O h2, hb, fun s H C cl fp => pg_ok (blk_ok O s H scope C cl fp) tg t h4, fun s H C cl fp => ckIf_ok hi (blk_ok O s H scope C cl fp) h5,
      fun s H C cl fp => (he _ _ _ _ (blk_ok O s H scope C cl fp) y false h6).1 rfl, noSet_ok h1 _⟩
  · cases h
theorem s_comp {mu : Bool} {elt : ME} {tg : MT} {kd : SrcK} {ms ifs : List ME} (he : Snd P Φ fa k N elt) (hm : Snds P Φ fa k N ms) (hi : Snds P Φ fa k N ifs) : Snd P Φ fa k N (.comp mu elt tg kd ms ifs) := Snd.v (fun _ _ => rfl) fun sc W X Bz O e tt h => by
  obtain ⟨y, t, it, cs, scope, pos, rfl, c⟩ := comp_parts he hm hi O h
  refine (pe_lc O.calm (by rw [O.names]; exact O.nd) c.src c.blk c.hg c.ht c.he c.st).imp fun σ H Q q => ?_
  rw [own_slots]
  exact comp_rd q
theorem s_comp2 {mu : Bool} {elt : ME} {tg tg1 : MT} {kd kd1 : SrcK} {ms ifs ms1 ifs1 : List ME} (he : Snd P Φ fa k N elt) (hm : Snds P Φ fa k N ms) (hi : Snds P Φ fa k N ifs) (hm1 : Snds P Φ fa k N ms1) (hi1 : Snds P Φ fa k N ifs1) : Snd P Φ fa k N (.comp2 mu elt tg kd ms ifs tg1 kd1 ms1 ifs1) := Snd.v (fun _ _ => rfl) fun sc W X Bz O e tt h => by
  unfold ck at h
  split at h
  · rename_i y t it cs t1 it1 cs1 scope pos
    simp only [Bool.and_eq_true] at
                                    h
    obtain ⟨⟨⟨⟨⟨⟨⟨⟨⟨h1, h2⟩, h3⟩, h4⟩, h5⟩, h6⟩, h7⟩, h8⟩, h9⟩, h10⟩ := h
    have hb : BlkOk X.N X.env.scope scope (ownOf N tg ++ ownOf N tg1) := by rw [O.names, O.sco]; exact blkOk_by h4
    have eo : (ownOf N tg ++ ownOf N tg1).map (·.2) = slots tg ++ slots tg1 := by rw [List.map_append, own_slots, own_slots]
    refine (pe_lc2 (vs1 := slots tg1) (wi := rdS P Φ ⟨X.K, Bz⟩ W kd ms) (g := tgR ⟨X.K, Bz⟩ tg) (tt := rdTw P Φ ⟨X.K, Bz⟩ Wf (testL P Φ ifs)) (wi1 := rdS P Φ ⟨X.K, Bz⟩ Wf kd1 ms1) (g1 := tgR ⟨X.K, Bz⟩ tg1) (tt1 := rdTw P Φ ⟨X.K, Bz⟩ Wf (testL P Φ ifs1)) (te := rdE P Φ ⟨X.K, Bz⟩ Wf elt) O.calm (by rw [O.names]; exact O.nd) (ckSrc_ok hm O h3) hb (fun i hi => by rw [eo]; exact List.mem_append_right _ hi) (fun s H C cl fp => pg_ok (blk_ok O s H scope C cl fp) tg t h5) (fun s H C cl fp => ckIf_ok hi (blk_ok O s H scope C cl fp) h6)
      (fun s H C cl fp => ckSrc_ok hm1 (blk_ok O s H scope C cl fp) h7) (fun s H C cl fp => pg_ok (blk_ok O s H scope C cl fp) tg1 t1 h8) (fun s H C cl fp => ckIf_ok hi1 (blk_ok O s H scope C cl fp) h9)
      (fun s H C cl fp => (he _ _ _ _ (blk_ok O s H scope C cl fp) y false h10).1 rfl) (noSet_ok h1 _) (fun env => noSet_ok h2 env)).imp fun σ H Q q => ?_
    rw [eo]
    exact comp2_rd q
  · cases h
theorem s_lam {i : Nat} : Snd P Φ fa k N (.lam i) := Snd.v (fun _ _ => rfl) fun sc W X Bz O e tt h => by
  unfold ck at h
  split at h
  · simp only [Bool.and_eq_true] at h
    exact snd_lam O h.1.1 h.2
  · cases h
theorem s_got {i : Nat} : Snd P Φ fa k N (.got i) := Snd.v (fun _ _ => rfl) fun sc W X Bz O e tt h => by
  unfold ck at h
  split at h
  · simp only [Bool.and_eq_true, decide_eq_true_eq] at
                                                       h
    obtain ⟨⟨⟨⟨⟨rfl, h1⟩, h2⟩, h3⟩, h4⟩, h5⟩ := h
    exact snd_got O h2 h3 h4 h5 h1
  · cases h
theorem s_gotall {a : ME} (ha : Snd P Φ fa k N a) : Snd P Φ fa k N (.gotall a) := Snd.v (fun _ _ => rfl) fun sc W X Bz O e tt h => by
  unfold ck at h
  split at h
  · simp only [Bool.and_eq_true, decide_eq_true_eq] at
                                                       h
    obtain ⟨⟨⟨⟨⟨⟨⟨rfl, h1⟩, h2⟩, h3⟩, h4⟩, h5⟩, h6⟩, h7⟩ := h
    rename_i y _
    have hp : plain [y] = true := by unfold plain; rw [List.all_cons, h6]; rfl
    exact snd_gotall O h2 h3 h4 h5 h1 (plain_ns hp) (starEach_cons h6 [] _) ((ha sc W X Bz O _ _ h7).1 rfl)
  · cases h
mutual
theorem snd : ∀ m : ME, Snd P Φ fa k N m
  | .var i => s_var i
  | .non => s_non
  | .bl b => s_bl b
  | .int i => s_int i
  | .str x => s_str x
  | .glob x => s_glob x
  | .bin op a b => s_bin (snd a) (snd b)
  | .neg a => s_neg (snd a)
  | .cmp op a b => s_cmp (snd a) (snd b)
  | .chain o1 o2 a b c => s_chain (snd a) (snd b) (snd c)
  | .and es => s_and (snds es)
  | .or es => s_or (snds es)
  | .not a => s_not (snd a)
  | .ite c a b => s_ite (snd c) (snd a) (snd b)
  | .tup es => s_tup (snds es)
  | .lst mu es => s_lst (snds es)
  | .ix a b => s_ix (snd a) (snd b)
  | .slc a lo hi => s_slc (snd a) (snds lo) (snds hi)
  | .attr a f => s_attr (snd a)
  | .call m f es kn ks => s_call (snds es) (snds ks)
  | .make m c es kn ks => s_make (snds es) (snds ks)
  | .scall m f c a es kn ks => s_scall (snds es) (snds ks)
  | .lstS mu e1 e2 => s_lstS (snd e1) (snd e2)
  | .makeS m c e1 e2 kn ks => s_makeS (snd e1) (snd e2) (snds ks)
  | .meth m a f es => s_meth (snd a) (snds es)
  | .bcall f es => s_bcall (snds es)
  | .bmeth f a es => s_bmeth (snd a) (snds es)
  | .isin a ts => s_isin (snd a)
  | .lam i => s_lam
  | .got i => s_got
  | .gotall a => s_gotall (snd a)
  | .comp mu elt tg k es ifs => s_comp (snd elt) (snds es) (snds ifs)
  | .comp2 mu elt tg k es ifs tg1 k1 es1 ifs1 => s_comp2 (snd elt) (snds es) (snds ifs) (snds es1) (snds ifs1)
  | .fstr es => s_fstr (snds es)
  | .own1 len a => s_own1 (snd a)
  | .lcopy a => s_lcopy (snd a)
  | .own2 ne a b => s_own2 (snd a) (snd b)
  | .ladd a b => s_ladd (snd a) (snd b)
  | .ownL ne a b => s_ownL (snd a) (snd b)
  | .dict fs es => s_dict (snds es)
  | .dget a f => s_dget (snd a)
  | .dictT => s_dictT
  | .dgetT a ks => s_dgetT (snd a) (snds ks)
  | .dgetL a ks => s_dgetL (snd a) (snds ks)
  | .dsetd a ks => s_dsetd (snd a) (snds ks)
  | .methk m a f es kn ks => s_methk (snd a) (snds es) (snds ks)
theorem snds : ∀ ms : List ME, Snds P Φ fa k N ms
  | [] => fun m hm => by cases hm
  | m :: ms => fun n hn => by
    rcases List.mem_cons.mp hn with h | h
    · rw [h]; exact snd m
    · exact snds ms n h
end
end
end Mp
end
section
set_option Elab.async false
set_option linter.all false
set_option maxRecDepth 100000
set_option maxHeartbeats
                         1000000
namespace Mp
open PySem L2 PySem.Spec PyProof.Rows
def FA (K : KZ) (D : Ends) : Wd → Fl → Store → Hp → Prop := fun w' f _ H' => match f with
  | .next env' => ∀ σ', RE K w' env' σ' → D.nx σ' H'
  | .ret v => ∀ x, RV K w' v x → D.rt x H'
  | .brk env' => ∀ σ', RE K w' env' σ' → D.bk σ' H'
  | .cont env' => ∀ σ', RE K w' env' σ' → D.ct σ' H'
abbrev XA (W : WX) : XK := fun c d H' => ∀ σ, W c d σ H'
def rdF (K : KZ) (W : WX) (ev : Env → Store → R Fl) : TS := fun D σ H => ∃ w env st, RE K w env σ ∧ RS K w st H ∧ Post K w (ev env st) (FA K D) (XA W)
theorem Post.impB {K : KZ} {α : Type} {w : Wd} {r : R α} {A : Wd → α → Store → Hp → Prop} {B B' : XK} (h : Post K w r A B) (i : ∀ c d H, B c d H → B' c d H) : Post K w r A B' := by
  cases r with
  | ok a st => exact h
  | err c ns vs st => exact fun w' cls d H' l s x => i _ _ _ (h w' cls d H' l s x)
  | stuck => exact h
section
variable {P : Prog} {Φ : Cal} {fa : Str → Addr} {k : Nat} {N : List Str} {sc : Sco} {W : WX} {X : Cx} {Bz : Zs}
theorem stE_seq {m : ME} {β : Type} {kk : Val → Store → R β} {σ : L2.St} {H : Hp} {w : Wd} {env : Env} {st : Store} {A : Wd → β → Store → Hp → Prop} {Q : VK}
    (hE : RE ⟨X.K, Bz⟩ w env σ) (hS : RS ⟨X.K, Bz⟩ w st H) (h : Post ⟨X.K, Bz⟩ w ((evalE P Φ m env st).then_ kk) A (XA W))
    (hk : ∀ w1 v x st1 H1, Le w w1 → RE ⟨X.K, Bz⟩ w1 env σ → RS ⟨X.K, Bz⟩ w1 st1 H1 → RV ⟨X.K, Bz⟩ w1 v x → Post ⟨X.K, Bz⟩ w1 (kk v st1) A (XA W) → Q x H1) : rdE P Φ ⟨X.K, Bz⟩ W m σ H Q :=
  ⟨w, env, st, hE, hS, (h.seq.imp fun w1 v st1 H1 l s p x r => hk w1 v x st1 H1 l (hE.mono l) s r p).impB fun c d H' q => q σ⟩
theorem stA_seq {m : List ME} {β : Type} {kk : List Val → Store → R β} {σ : L2.St} {H : Hp} {w : Wd} {env : Env} {st : Store} {A : Wd → β → Store → Hp → Prop} {Q : List V → Hp → Prop}
    (hE : RE ⟨X.K, Bz⟩ w env σ) (hS : RS ⟨X.K, Bz⟩ w st H) (h : Post ⟨X.K, Bz⟩ w ((evalEs P Φ m env st).then_ kk) A (XA W))
    (hk : ∀ w1 v x st1 H1, Le w w1 → RE ⟨X.K, Bz⟩ w1 env σ → RS ⟨X.K, Bz⟩ w1 st1 H1 → RVs ⟨X.K, Bz⟩ w1 v x → Post ⟨X.K, Bz⟩ w1 (kk v st1) A (XA W) → Q x H1) : rdA P Φ ⟨X.K, Bz⟩ W m σ H Q :=
  ⟨w, env, st, hE, hS, (h.seq.imp fun w1 v st1 H1 l s p x r => hk w1 v x st1 H1 l (hE.mono l) s r p).impB fun c d H' q => q σ⟩
theorem stT_seq {m : ME} {β : Type} {kk : Bool → Store → R β} {σ : L2.St} {H : Hp} {w : Wd} {env : Env} {st : Store} {A : Wd → β → Store → Hp → Prop} {Q : Bool → Hp → Prop}
    (hE : RE ⟨X.K, Bz⟩ w env σ) (hS : RS ⟨X.K, Bz⟩ w st H) (h : Post ⟨X.K, Bz⟩ w ((evalT P Φ m env st).then_ kk) A (XA W))
    (hk : ∀ w1 b st1 H1, Le w w1 → RE ⟨X.K, Bz⟩ w1 env σ → RS ⟨X.K, Bz⟩ w1 st1 H1 → Post ⟨X.K, Bz⟩ w1 (kk b st1) A (XA W) → Q b H1) : rdT P Φ ⟨X.K, Bz⟩ W m σ H Q :=
  ⟨w, env, st, hE, hS, (h.seq.imp fun w1 v st1 H1 l s p => hk w1 v st1 H1 l (hE.mono l) s p).impB fun c d H' q => q σ⟩
theorem stS_seq {kd : SrcK} {ms : List ME} {β : Type} {kk : List Val × List (Nat × List Val) → Store → R β} {σ : L2.St} {H : Hp} {w : Wd} {env : Env} {st : Store} {A : Wd → β → Store → Hp → Prop} {Q : It → Hp → Prop}
    (hE : RE ⟨X.K, Bz⟩ w env σ) (hS : RS ⟨X.K, Bz⟩ w st H) (h : Post ⟨X.K, Bz⟩ w ((srcE P Φ kd ms env st).then_ kk) A (XA W))
    (hk : ∀ w1 p st1 H1, Le w w1 → RE ⟨X.K, Bz⟩ w1 env σ → RS ⟨X.K, Bz⟩ w1 st1 H1 → Post ⟨X.K, Bz⟩ w1 (kk p st1) A (XA W) → ∀ J, ItW ⟨X.K, Bz⟩ J w1 p.1 p.2 → Q J H1) : rdS P Φ ⟨X.K, Bz⟩ W kd ms σ H Q :=
  ⟨w, env, st, hE, hS, (h.seq.imp fun w1 v st1 H1 l s p J j => hk w1 v st1 H1 l (hE.mono l) s p J j).impB fun c d H' q => q σ⟩
def noComp : Expr → Bool
  | .ListComp _ _ _ _ => false
  | .SetComp _ _ _ _ => false
  | .DictComp _ _ _ _ _ => false
  | _ => true
def noTup : Expr → Bool
  | .Tuple _ _ _ => false
  | _ => true
theorem noComp_ok {e : Expr} (h : noComp e = true) (t : Option Expr) (l : Nat) (env : PySem.Env) : swapsWith e t l env = pure false := by
  cases e <;> first | rfl | cases h
theorem noTup_ok {e t : Expr} (h : noTup e = true) (env : PySem.Env) : swappedStores [t] e env = pure none := by
  cases e <;> first | (cases t <;> rfl) | cases h
def noPair : Expr → Expr → Bool
  | .Name _ _, _ => true
  | _, e => noTup e
theorem noPair_ok {t e : Expr} (h : noPair t e = true) (env : PySem.Env) : swappedStores [t] e env = pure none := by
  cases t <;> first | exact noTup_ok h env | (cases e <;> rfl)
def offC (sc : Sco) : Expr → Expr → Bool
  | .Name y _, .ListComp _ _ _ _ => decide (sc.sc.names.lookup y = some .cell)
  | .Tuple _ _ _, .ListComp _ _ _ _ => true
  | .Subscript _ _ _, .ListComp _ _ _ _ => true
  | .Attribute _ _ _, .ListComp _ _ _ _ => true
  | _, _ => false
theorem offC_ok (O : OkX P Φ fa k N sc W X Bz) {t e : Expr} {l : Nat} (h : (noComp e || offC sc t e) = true) : swapsWith e (some t) l X.env = pure false := by
  rw [Bool.or_eq_true] at h
  rcases h with h | h
  · exact noComp_ok h _ _ _
  · cases t <;> first | (cases h; done) | skip
    · cases e <;> first | (cases h; done) | rfl
    · cases e <;> first | (cases h; done) | rfl
    · cases e <;> first | (cases h; done) | skip
      rename_i y py a b c d
      have hk : X.env.kindOf y = some .cell := by
        unfold Env.kindOf
        rw [O.sco]; exact of_decide_eq_true h
      unfold swapsWith
      simp [hk, show (NameKind.cell == NameKind.local) = false from rfl]
    · cases e <;> first | (cases h; done) | rfl
def ckDs (N : List Str) (i : Nat) (sc : Sco) : List Str → List Expr → Bool
  | [], [] => true
  | f :: fs, .Subscript (.Name x _) y _ :: es => decide (N[i]? = some x) && vis sc x && nmOk x && ckStr f y && ckDs N i sc fs es
  | _, _ => false
theorem ckDs_cons {i : Nat} {f : Str} {fs : List Str} {es : List Expr} (h : ckDs N i sc (f :: fs) es = true) : ∃ x px y p er, es = .Subscript (.Name x px) y p :: er ∧ N[i]? = some x ∧ vis sc x = true ∧ nmOk x = true ∧ ckStr f y = true ∧ ckDs N i sc fs er = true := by
  unfold ckDs at h
  split at h
  · rename_i e; cases e
  · rename_i e1
    cases e1
    simp only [Bool.and_eq_true, decide_eq_true_eq] at
                                                       h
    exact ⟨_, _, _, _, _, rfl, h.1.1.1.1, h.1.1.1.2, h.1.1.2, h.1.2, h.2⟩
  · cases h
theorem ckDs_asg {i : Nat} (env : PySem.Env) : ∀ (fs : List Str) (es : List Expr), ckDs N i sc fs es = true → (assignEach es env).length = es.length ∧ (assignEach es env).findIdx? (·.1) = none ∧ es.length = fs.length
  | [], es, h => by
    cases es with
    | nil => exact ⟨rfl, rfl, rfl⟩
    | cons _ _ => unfold ckDs at h; cases h
  | f :: fs, es, h => by
    obtain ⟨x, px, y, p, er, rfl, _, _, _, _, h2⟩ := ckDs_cons h
    obtain ⟨i1, i2, i3⟩ := ckDs_asg env fs er h2
    have e : assignEach (.Subscript (.Name x px) y p :: er) env = (false, assign (.Subscript (.Name x px) y p) env) :: assignEach er env := rfl
    rw [e]
    refine ⟨by simp [i1], ?_, by simp [i3]⟩
    rw [List.findIdx?_cons, i2]; rfl
theorem pgs_dpar (O : OkX P Φ fa k N sc W X Bz) {i : Nat} : ∀ (fs : List Str) (es : List Expr), ckDs N i sc fs es = true →
    PGs X es (fun xs σ H Q => ∃ w env st st' x0 ys, RE ⟨X.K, Bz⟩ w env σ ∧ RS ⟨X.K, Bz⟩ w st H ∧ env[i]? = some (some x0) ∧ RVs ⟨X.K, Bz⟩ w ys xs ∧ dputsV st x0 fs ys = some st' ∧ ∀ w' H', Le w w' → RS ⟨X.K, Bz⟩ w' st' H' → Q σ H')
  | [], es, h => by
    cases es with
    | nil =>
      refine pgs_nil.imp fun xs σ H Q ⟨w, env, st, st', x0, ys, hE, hS, e0, rr, e, q⟩ => ?_
      cases ys with
      | nil =>
        cases e
        exact ⟨rr, q w H (Le.refl w) hS⟩
      | cons _ _ => cases e
    | cons _ _ => unfold ckDs at h; cases h
  | f :: fs, es, h => by
    obtain ⟨x, px, y, p, er, rfl, g1, g2, g3, g4, h2⟩ := ckDs_cons h
    obtain ⟨k1, k2⟩ := str_rd (P := P) (Φ := Φ) (X := X) (Bz := Bz) (W := W) g4
    refine (pgs_cons (pg_sub (pos := p) (snd_var O g1 g2 g3) k1 (set_dict O) (by intro v; unfold ckStr at g4; split at g4 <;> first | rfl | cases g4)) (pgs_dpar O fs er h2) rfl).imp fun xs σ H Q ⟨w, env, st, st', x0, ys, hE, hS, e0, rr, e, q⟩ => ?_
    cases ys with
    | nil => cases e
    | cons v vs =>
      obtain ⟨xv, xr, rfl, r1, r2⟩ := rr
      refine ⟨xv, xr, rfl, w, env, st, hE, hS, ?_⟩
      have ev : evalE P Φ (.var i) env st = .ok x0 st := by
        show (match env[i]? with | some (some v) => R.ok v st | _ => .stuck) = _
        rw [e0]
      rw [ev]
      intro w1 H1 l1 hS1 o ro
      refine ⟨w1, env, st, hE.mono l1, hS1, fun w2 H2 l2 hS2 kk rk => ?_⟩
      obtain ⟨rfl, _⟩ : kk = .str f ∧ _ := rk
      simp only [dputsV] at e
      cases e1 : dputV st x0 f v with
      | none => rw [e1] at e; cases e
      | some st1 =>
        rw [e1] at e
        have l02 := l1.trans l2
        obtain ⟨p', H', rfl, dp, hS3⟩ := dputV_rel hS2 (RV.mono l2 _ ro) (RV.mono l02 _ r1) e1
        exact ⟨p', H', rfl, dp, w2, env, st1, st', x0, vs, hE.mono l02, hS3, e0, RVs.mono l02 _ r2, e, fun w' H'' l' s' => q w' H'' (l02.trans l') s'⟩
theorem sub_noneOf (x y : Expr) (p : Pos) (er vs : List Expr) (n m : Nat) (p1 q1 : Pos) (env : PySem.Env) : swappedStores [.Tuple (.Subscript x y p :: er) n p1] (.Tuple vs m q1) env = pure none := by
  unfold swappedStores
  simp
  intro _ _ _ _ hl
  have key : ∀ f : Expr → Option Str, (List.filterMap f er).length ≠ er.length + 1 := fun f => by
    have := List.length_filterMap_le f er
    omega
  exact absurd hl (key _)
def isFn (sc : Sco) : Bool := decide (sc.sc.kind = .function)
theorem isFn_ok (O : OkX P Φ fa k N sc W X Bz) (h : isFn sc = true) : X.env.scope.kind = .function ∧ X.env.blockKind = .function := by
  have : X.env.scope.kind = .function := by rw [O.sco]; exact of_decide_eq_true h
  exact ⟨this, by unfold Env.blockKind; rw [this]; rfl⟩
def swC (sc : Sco) (scope : Scope) (y : Str) (py pos : Pos) : Bool := isFn sc && decide (sc.sc.names.lookup y = some .local) && (py.line == pos.line) && !(scope.names.any fun (n, k) => n == y && (k == .local || k == .cell))
def parC (sc : Sco) (x y : Str) (px py : Pos) (a b : Expr) : Bool := isFn sc && decide (sc.sc.names.lookup x = some .local) && decide (sc.sc.names.lookup y = some .local) && (py.line == px.line) && !(x == y) && noSt a && noSt b && !(foldedForSure 8 a && foldedForSure 8 b) && !(constantsAlone 8 a && constantsAlone 8 b)
theorem stF {e : Expr} : noSt e = true → (match e with | .Starred .. => true | _ => false) = false := by intro h; cases e <;> first | rfl | cases h
theorem parC_ok (O : OkX P Φ fa k N sc W X Bz) {x y : Str} {px py pt pt2 : Pos} {kt k2 : Nat} {a b : Expr} (h : parC sc x y px py a b = true) : swappedStores [.Tuple [.Name x px, .Name y py] kt pt] (.Tuple [a, b] k2 pt2) X.env = pure (some [x, y]) := by
  unfold parC at h
  simp only [Bool.and_eq_true, decide_eq_true_eq, Bool.not_eq_true'] at h
  obtain ⟨⟨⟨⟨⟨⟨⟨⟨h1, h2⟩, h3⟩, h4⟩, h5⟩, h6⟩, h7⟩, h8⟩, h9⟩ :=
                                                               h
  obtain ⟨_, hb⟩ := isFn_ok O h1
  have kx : X.env.kindOf x = some .local := by unfold Env.kindOf; rw [O.sco]; exact h2
  have ky : X.env.kindOf y = some .local := by unfold Env.kindOf; rw [O.sco]; exact h3
  have e1 : x ≠ y := by simpa using h5
  have e2 : (x == y) = false := h5
  have e3 : (y == x) = false := by simpa using e1.symm
  have v2 : [a, b].all (foldedForSure 8) = false := by
    show (foldedForSure 8 a && (foldedForSure 8 b && true)) = false
    rw [Bool.and_true]; exact h8
  have v3 : [a, b].all (constantsAlone 8) = false := by
    show (constantsAlone 8 a && (constantsAlone 8 b && true)) = false
    rw [Bool.and_true]; exact h9
  unfold swappedStores
  simp only [hb, v2, v3]
  simp [kx, ky, e1, Expr.pos, List.eraseDups, List.eraseDupsBy, List.eraseDupsBy.loop, e2, e3, eq_of_beq h4]
  intro z
  rcases z with z | z
  · exact absurd ((stF h6).symm.trans z) (by decide)
  · exact absurd ((stF h7).symm.trans z) (by decide)
def par3C (sc : Sco) (x y z : Str) (px py pz : Pos) (a b c : Expr) : Bool := isFn sc && decide (sc.sc.names.lookup x = some .local) && decide (sc.sc.names.lookup y = some .local) && decide (sc.sc.names.lookup z = some .local) && (py.line == px.line) && (pz.line == px.line) && !(x == y) && !(x == z) && !(y == z) && noSt a && noSt b && noSt c && !(foldedForSure 8 a && (foldedForSure 8 b && foldedForSure 8 c)) && !(constantsAlone 8 a && (constantsAlone 8 b && constantsAlone 8 c))
theorem par3C_ok (O : OkX P Φ fa k N sc W X Bz) {x y z : Str} {px py pz pt pt2 : Pos} {kt k2 : Nat} {a b c : Expr} (h : par3C sc x y z px py pz a b c = true) : swappedStores [.Tuple [.Name x px, .Name y py, .Name z pz] kt pt] (.Tuple [a, b, c] k2 pt2) X.env = pure (some [x, y, z]) := by
  unfold par3C at h
  simp only [Bool.and_eq_true, decide_eq_true_eq, Bool.not_eq_true'] at h
  obtain ⟨⟨⟨⟨⟨⟨⟨⟨⟨⟨⟨⟨⟨h1, h2⟩, h3⟩, h3'⟩, h4⟩, h4'⟩, h5⟩, h5'⟩, h5''⟩, h6⟩, h7⟩, h7'⟩, h8⟩, h9⟩ := h
  obtain ⟨_, hb⟩ := isFn_ok O h1
  have kx : X.env.kindOf x = some .local := by unfold Env.kindOf; rw [O.sco]; exact h2
  have ky : X.env.kindOf y = some .local := by unfold Env.kindOf; rw [O.sco]; exact h3
  have kz : X.env.kindOf z = some .local := by unfold Env.kindOf; rw [O.sco]; exact h3'
  have e1 : x ≠ y := by simpa using h5
  have e2 : x ≠ z := by simpa using h5'
  have e3 : y ≠ z := by simpa using h5''
  have f1 : (x == y) = false := h5
  have f2 : (x == z) = false := h5'
  have f3 : (y == z) = false := h5''
  have g1 : (y == x) = false := by simpa using e1.symm
  have g2 : (z == x) = false := by simpa using e2.symm
  have g3 : (z == y) = false := by simpa using e3.symm
  have v2 : [a, b, c].all (foldedForSure 8) = false := by
    show (foldedForSure 8 a && (foldedForSure 8 b && (foldedForSure 8 c && true))) = false
    rw [Bool.and_true]
    cases e : (foldedForSure 8 a && (foldedForSure 8 b && foldedForSure 8 c)) with
    | false => rfl
    | true => rw [e] at h8; cases h8
  have v3 : [a, b, c].all (constantsAlone 8) = false := by
    show (constantsAlone 8 a && (constantsAlone 8 b && (constantsAlone 8 c && true))) = false
    rw [Bool.and_true]
    cases e : (constantsAlone 8 a && (constantsAlone 8 b && constantsAlone 8 c)) with
    | false => rfl
    | true => rw [e] at h9; cases h9
  unfold swappedStores
  simp only [hb, v2, v3]
  simp [kx, ky, kz, e1, e2, e3, Expr.pos, List.eraseDups, List.eraseDupsBy, List.eraseDupsBy.loop, f1, f2, f3, g1, g2, g3, eq_of_beq h4, eq_of_beq h4']
  intro t
  rcases t with t | t | t
  · exact absurd ((stF h6).symm.trans t) (by decide)
  · exact absurd ((stF h7).symm.trans t) (by decide)
  · exact absurd ((stF h7').symm.trans t) (by decide)
def offP (sc : Sco) : List Expr → Bool
  | [.Name x _, .Name y _] => decide (sc.sc.names.lookup x = some .cell) || decide (sc.sc.names.lookup y = some .cell)
  | _ => false
theorem offP_ok (O : OkX P Φ fa k N sc W X Bz) {es vs : List Expr} {n m : Nat} {p q : Pos} (h : offP sc es = true) : swappedStores [.Tuple es n p] (.Tuple vs m q) X.env = pure none := by
  unfold offP at h
  split at h
  · rename_i x px y py
    rw [Bool.or_eq_true, decide_eq_true_eq, decide_eq_true_eq] at
                                                                  h
    have kx : ∀ z, X.env.kindOf z = sc.sc.names.lookup z := fun z => by unfold Env.kindOf; rw [O.sco]
    unfold swappedStores
    rcases h with h | h
    · simp [kx, h]
      intro _ _ _ hl
      exfalso
      have := List.length_filterMap_le (fun e => match e with
        | Expr.Name id pos => if List.lookup id sc.sc.names = some NameKind.local ∧ pos.line = (Expr.Name x px).pos.line then some id else none
        | _ => none) [Expr.Name y py]
      simp only [List.length_singleton] at this
      have h2 := Nat.le_trans (Nat.le_of_eq hl.symm) this
      omega
    · simp [kx, h]
      intro _ _ _ hl
      exfalso
      simp only [List.filterMap_cons, List.filterMap_nil, h] at hl
      split at hl <;> simp at hl
  · cases h
end
end Mp
end
section
set_option Elab.async false
set_option linter.all false
set_option maxRecDepth 100000
set_option maxHeartbeats
                         1000000
namespace Mp
open PySem L2 PySem.Spec PyProof.Rows
section
variable (P : Prog) (N : List Str)
mutual
def ckS : MS → Sco → Stmt → Bool
  | .expr e, sc, s => match s with
    | .Expr x _ => noComp x && ck P N e false sc x
    | _ => false
  | .set t e, sc, s => match s with
    | .Assign [tg] x _ => ck P N e false sc x && tgC N sc tg t && noPair tg x && (noComp x || offC sc tg x)
    | _ => false
  | .setc i e, sc, s => match s with
    | .Assign [.Name y py] (.ListComp a b scope pos) _ => isC1 e && ck P N e false sc (.ListComp a b scope pos) && decide (N[i]? = some y) && swC sc scope y py pos
    | _ => false
  | .sett t e, sc, s => match s with
    | .Assign [.Tuple es n p] (.Tuple [a, b] m q) _ => ck P N e false sc (.Tuple [a, b] m q) && tgC N sc (.Tuple es n p) t && isFn sc && (offP sc es || (foldedForSure 8 a && foldedForSure 8 b))
    | _ => false
  | .par3 i j l ms, sc, s => match s with
    | .Assign [.Tuple [.Name x px, .Name y py, .Name z pz] kt pt] (.Tuple [u, v, w] k2 pt2) pos => decide (i ≠ j) && decide (i ≠ l) && decide (j ≠ l) && decide (N[i]? = some x) && decide (N[j]? = some y) && decide (N[l]? = some z) && par3C sc x y z px py pz u v w && cks P N ms false sc [u, v, w]
    | _ => false
  | .par i j a b, sc, s => match s with
    | .Assign [.Tuple [.Name x px, .Name y py] kt pt] (.Tuple [u, v] k2 pt2) pos => decide (i ≠ j) && decide (N[i]? = some x) && decide (N[j]? = some y) && parC sc x y px py u v && ck P N a false sc u && ck P N b false sc v
    | _ => false
  | .fld o f e, sc, s => match s with
    | .Assign [.Attribute x g pa] y _ => decide (f = g) && (noComp y || offC sc (.Attribute x g pa) y) && ck P N o false sc x && ck P N e false sc y
    | _ => false
  | .fldaug o f op e, sc, s => match s with
    | .AugAssign (.Attribute x g tp) q y pos => (decide (op = .add) || decide (op = .sub)) && decide (f = g) && decide (q = pyop op) && ck P N o false sc x && ck P N e false sc y
    | _ => false
  | .sub o i e, sc, s => match s with
    | .Assign [.Subscript x y _] z _ => noComp z && plainIx y && ck P N o false sc x && ck P N i false sc y && ck P N e false sc z
    | _ => false
  | .dput o f e, sc, s => match s with
    | .Assign [.Subscript x y p2] z _ => noTup z && (noComp z || offC sc (.Subscript x y p2) z) && ckStr f y && ck P N o false sc x && ck P N e false sc z
    | _ => false
  | .dpar i ks e, sc, s => match s with
    | .Assign [.Tuple (.Subscript x y p2 :: er) n p] (.Tuple vs m q) _ => ckDs N i sc ks (.Subscript x y p2 :: er) && ck P N e false sc (.Tuple vs m q)
    | _ => false
  | .aug i op e, sc, s => match s with
    | .AugAssign (.Name x _) q y _ => (decide (op = .add) || decide (op = .sub)) && decide (N[i]? = some x) && stOk sc x && decide (q = pyop op) && ck P N e false sc y
    | _ => false
  | .subaug o i op e, sc, s => match s with
    | .AugAssign (.Subscript x y tp) q z pos => (decide (op = .add) || decide (op = .sub)) && decide (q = pyop op) && plainIx y && ck P N o false sc x && ck P N i false sc y && ck P N e false sc z
    | _ => false
  | .ret e, sc, s => match s with
    | .Return (some x) _ => ck P N e false sc x
    | _ => false
  | .retN, _, s => match s with
    | .Return none _ => true
    | _ => false
  | .ite c a b, sc, s => match s with
    | .If x y z _ => ck P N c true sc x && ckSs a sc y && ckSs b sc z
    | _ => false
  | .for_ t k es body, sc, s => match s with
    | .For tg it b [] _ => noSet it && ckSrc P N k es sc it tg && tgC N sc tg t && ckSs body sc b
    | _ => false
  | .while_ c body, sc, s => match s with
    | .While x b [] _ => ck P N c true sc x && ckSs body sc b
    | _ => false
  | .pass, _, s => match s with
    | .Pass _ => true
    | .Expr (.Constant (.str _) _ _) _ => true
    | _ => false
  | .brk, _, s => match s with
    | .Break _ => true
    | _ => false
  | .cont, _, s => match s with
    | .Continue _ => true
    | _ => false
  | .never, _, _ => true
  | .raise_ c es, sc, s => match s with
    | .Raise (some (.Call (.Name x _) as [] _)) none _ => decide (x = c) && isGl sc x && nmOk x && (P.exc x).isSome && plain as && cks P N es false sc as && decide (x.length ≤ 1000) && PyData.strOk x
    | _ => false
def ckSs : List MS → Sco → List Stmt → Bool
  | [], _, ss => match ss with
    | [] => true
    | _ => false
  | m :: ms, sc, ss => match ss with
    | s :: ss => ckS m sc s && ckSs ms sc ss
    | _ => false
end
end
section
variable {P : Prog} {Φ : Cal} {fa : Str → Addr} {k : Nat} {N : List Str} {sc : Sco} {W : WX} {X : Cx} {Bz : Zs}
def SndS (P : Prog) (Φ : Cal) (fa : Str → Addr) (k : Nat) (N : List Str) (m : MS) : Prop := ∀ (sc : Sco) (W : WX) (X : Cx) (Bz : Zs), OkX P Φ fa k N sc W X Bz → ∀ s : Stmt, ckS P N m sc s = true → PS X s (rdF ⟨X.K, Bz⟩ W (evalS P Φ m))
def SndSs (P : Prog) (Φ : Cal) (fa : Str → Addr) (k : Nat) (N : List Str) (ms : List MS) : Prop := ∀ (sc : Sco) (W : WX) (X : Cx) (Bz : Zs), OkX P Φ fa k N sc W X Bz → ∀ ss : List Stmt, ckSs P N ms sc ss = true → PSs X ss (rdF ⟨X.K, Bz⟩ W (evalSs P Φ ms))
theorem ss_nil : SndSs P Φ fa k N [] := fun sc W X Bz O ss h => by
  cases ss with
  | nil => exact pss_nil.imp fun D σ H ⟨w, env, st, hE, hS, q⟩ => q w H (Le.refl _) hS σ hE
  | cons _ _ => cases h
theorem ss_cons {m : MS} {ms : List MS} (h1 : SndS P Φ fa k N m) (h2 : SndSs P Φ fa k N ms) : SndSs P Φ fa k N (m :: ms) := fun sc W X Bz O ss h => by
  cases ss with
  | nil => cases h
  | cons s ss =>
    replace h : (ckS P N m sc s && ckSs P N ms sc ss) = true := h
    rw [Bool.and_eq_true] at h
    refine (pss_cons (h1 sc W X Bz O s h.1) (h2 sc W X Bz O ss h.2)).imp fun D σ H ⟨w, env, st, hE, hS, q⟩ => ?_
    replace q : Post ⟨X.K, Bz⟩ w ((evalS P Φ m env st).then_ fun f st => match f with
      | .next env' => evalSs P Φ ms env' st
      | f => .ok f st) (FA ⟨X.K, Bz⟩ D) (XA W) := q
    refine ⟨w, env, st, hE, hS, q.seq.imp fun w' f st' H' l s p => ?_⟩
    cases f with
    | next env' => exact fun σ' hE' => ⟨w', env', st', hE', s, p⟩
    | ret v => exact p w' H' (Le.refl _) s
    | brk env' => exact p w' H' (Le.refl _) s
    | cont env' => exact p w' H' (Le.refl _) s
theorem ss_expr {e : ME} : SndS P Φ fa k N (.expr e) := fun sc W X Bz O s h => by
  unfold ckS at h
  split at h
  · rw [Bool.and_eq_true] at h
    refine (ps_expr ((snd e sc W X Bz O _ _ h.2).1 rfl) (noComp_ok h.1 _ _ _)).imp fun D σ H ⟨w, env, st, hE, hS, q⟩ => ?_
    exact stE_seq hE hS q fun w1 v x st1 H1 l1 hE1 hS1 rv h1 => h1 w1 H1 (Le.refl _) hS1 σ hE1
  · cases h
theorem set_tail {t : MT} {σ : L2.St} {H1 : Hp} {w1 : Wd} {env : Env} {st1 : Store} {v : Val} {x : V} {D : Ends} (hE1 : RE ⟨X.K, Bz⟩ w1 env σ) (hS1 : RS ⟨X.K, Bz⟩ w1 st1 H1) (rv : RV ⟨X.K, Bz⟩ w1 v x)
    (h1 : Post ⟨X.K, Bz⟩ w1 (match bindT t v env with | some env' => R.ok (Fl.next env') st1 | none => .stuck) (FA ⟨X.K, Bz⟩ D) (XA W)) : tgR ⟨X.K, Bz⟩ t x σ H1 D.nx := by
  cases e : bindT t v env with
  | none => rw [e] at h1; exact h1.elim
  | some env' =>
    rw [e] at h1
    exact ⟨w1, env, st1, v, env', hE1, hS1, rv, e, fun σ' hE' _ => h1 w1 H1 (Le.refl _) hS1 σ' hE'⟩
theorem ss_set {t : MT} {e : ME} : SndS P Φ fa k N (.set t e) := fun sc W X Bz O s h => by
  unfold ckS at h
  split at h
  · rename_i tg x pos
    simp only [Bool.and_eq_true] at
                                    h
    obtain ⟨⟨⟨h1, h2⟩, h3⟩, h4⟩ :=
                                   h
    refine (ps_asg ((snd e sc W X Bz O _ _ h1).1 rfl) (pg_ok O t tg h2) (offC_ok O h4) (noPair_ok h3 _) (by rw [asg_cons h2]; rfl)).imp fun D σ H ⟨w, env, st, hE, hS, q⟩ => ?_
    exact stE_seq hE hS q fun w1 v x st1 H1 l1 hE1 hS1 rv h1 => set_tail hE1 hS1 rv h1
  · cases h
theorem name_of {i : Nat} {y : Str} (O : OkX P Φ fa k N sc W X Bz) (h : N[i]? = some y) : X.N.Nodup ∧ X.N[i]? = some y ∧ i < N.length := ⟨by rw [O.names]; exact O.nd, by rw [O.names]; exact h, (List.getElem?_eq_some_iff.mp h).1⟩
theorem ss_setc {i : Nat} {e : ME} : SndS P Φ fa k N (.setc i e) := fun sc W X Bz O s h => by
  unfold ckS at h
  split at h
  · rename_i y py a b scope pos spos
    simp only [Bool.and_eq_true, decide_eq_true_eq] at
                                                       h
    obtain ⟨⟨⟨h0, h1⟩, h2⟩, h3⟩ := h
    obtain ⟨n1, n2, n3⟩ := name_of O h2
    unfold swC at h3
    simp only [Bool.and_eq_true, decide_eq_true_eq, Bool.not_eq_true'] at h3
    obtain ⟨⟨⟨g1, g2⟩, g3⟩, g4⟩ := h3
    have hy : X.env.scope.names.lookup y = some .local := by rw [O.sco]; exact g2
    cases e <;> first | (cases h0; done) | skip
    rename_i mu elt tg kd ms ifs
    obtain ⟨y', t, it, cs, scope', pos', e1, c⟩ := comp_parts (snd elt) (snds ms) (snds ifs) O h1
    cases e1
    refine (ps_setLc O.calm n1 n2 hy (sw_true (isFn_ok O g1).1 hy g3 g4) c.src c.blk c.hg c.ht c.he c.st).imp fun D σ H ⟨w, env, st, hE, hS, q⟩ => ?_
    show tLc _ _ _ _ _ σ H _
    rw [own_slots]
    refine comp_rd (mu := mu) ?_
    replace q : Post ⟨X.K, Bz⟩ w ((evalE P Φ (.comp mu elt tg kd ms ifs) env st).then_ fun v st => if i < env.length then R.ok (Fl.next (env.set i (some v))) st else .stuck) (FA ⟨X.K, Bz⟩ D) (XA W) := q
    refine stE_seq hE hS q fun w1 v x st1 H1 l1 hE1 hS1 rv h1 => ?_
    split at h1
    · exact h1 w1 H1 (Le.refl _) hS1 _ (hE1.set i rv)
    · exact h1.elim
  · cases h
theorem ss_sett {t : MT} {e : ME} : SndS P Φ fa k N (.sett t e) := fun sc W X Bz O s h => by
  unfold ckS at h
  split at h
  · rename_i es n p a b m q pos
    simp only [Bool.and_eq_true] at
                                    h
    obtain ⟨⟨⟨h1, h2⟩, h3⟩, h4⟩ :=
                                   h
    have hw : swappedStores [.Tuple es n p] (.Tuple [a, b] m q) X.env = pure none := by
      rw [Bool.or_eq_true] at h4
      rcases h4 with h4 | h4
      · exact offP_ok O h4
      · rw [Bool.and_eq_true] at h4
        have v2 : [a, b].all (foldedForSure 8) = true := by
          show (foldedForSure 8 a && (foldedForSure 8 b && true)) = true
          rw [h4.1, h4.2]; rfl
        unfold swappedStores
        simp only [v2]
        simp
    refine (ps_asg ((snd e sc W X Bz O _ _ h1).1 rfl) (pg_ok O t _ h2) rfl hw (by rw [asg_cons h2]; rfl)).imp fun D σ H ⟨w, env, st, hE, hS, q⟩ => ?_
    exact stE_seq hE hS q fun w1 v x st1 H1 l1 hE1 hS1 rv h1 => set_tail hE1 hS1 rv h1
  · cases h
theorem ss_par {i j : Nat} {a b : ME} : SndS P Φ fa k N (.par i j a b) := fun sc W X Bz O s h => by
  unfold ckS at h
  split at h
  · rename_i x px y py kt pt u v k2 pt2 pos
    simp only [Bool.and_eq_true, decide_eq_true_eq] at
                                                       h
    obtain ⟨⟨⟨⟨⟨hij, h1⟩, h2⟩, h3⟩, h4⟩, h5⟩ := h
    obtain ⟨n1, n2, _⟩ := name_of O h1
    obtain ⟨_, n4, _⟩ := name_of O h2
    have hw := parC_ok (pt := pt) (pt2 := pt2) (kt := kt) (k2 := k2) O h3
    unfold parC at h3
    simp only [Bool.and_eq_true, decide_eq_true_eq, Bool.not_eq_true'] at h3
    obtain ⟨⟨⟨⟨⟨⟨⟨⟨g1, g2⟩, g3⟩, g4⟩, g5⟩, g6⟩, g7⟩, g8⟩, g9⟩ := h3
    have hp : plain [u, v] = true := by unfold plain; rw [List.all_cons, List.all_cons, g6, g7]; rfl
    have pa := (PEs.cons ((snd a sc W X Bz O _ _ h4).1 rfl) (.cons ((snd b sc W X Bz O _ _ h5).1 rfl) .nil)).pa hp
    refine (ps_par O.calm n1 n2 n4 hij (by rw [O.sco]; exact g2) (by rw [O.sco]; exact g3) pa hw).imp fun D σ H ⟨w, env, st, hE, hS, q⟩ => ?_
    replace q : Post ⟨X.K, Bz⟩ w ((evalE P Φ a env st).then_ fun v st => (evalE P Φ b env st).then_ fun u st => if i < env.length ∧ j < env.length then R.ok (Fl.next ((env.set i (some v)).set j (some u))) st else .stuck) (FA ⟨X.K, Bz⟩ D) (XA W) := q
    have q2 : Post ⟨X.K, Bz⟩ w ((evalEs P Φ [a, b] env st).then_ fun vs st => match vs with
      | [v, u] => if i < env.length ∧ j < env.length then R.ok (Fl.next ((env.set i (some v)).set j (some u))) st else .stuck
      | _ => .stuck) (FA ⟨X.K, Bz⟩ D) (XA W) := by
      have e : ((evalEs P Φ [a, b] env st).then_ fun vs st => (match vs with
        | [v, u] => if i < env.length ∧ j < env.length then R.ok (Fl.next ((env.set i (some v)).set j (some u))) st else .stuck
        | _ => .stuck : R Fl)) = (evalE P Φ a env st).then_ fun v st => (evalE P Φ b env st).then_ fun u st => if i < env.length ∧ j < env.length then R.ok (Fl.next ((env.set i (some v)).set j (some u))) st else .stuck := by
        show (((evalE P Φ a env st).then_ fun v st => ((evalE P Φ b env st).then_ fun u st => R.ok [u] st).then_ fun vs st => R.ok (v :: vs) st).then_ _) = _
        cases evalE P Φ a env st with
        | ok v st1 =>
          show (((evalE P Φ b env st1).then_ fun u st => R.ok [u] st).then_ fun vs st => R.ok (v :: vs) st).then_ _ = (evalE P Φ b env st1).then_ _
          cases evalE P Φ b env st1 <;> rfl
        | err c ns vs st => rfl
        | stuck => rfl
      rw [e]; exact q
    refine stA_seq hE hS q2 fun w1 vs xs st1 H1 l1 hE1 hS1 rv h1 => ?_
    split at h1
    · rename_i v u
      obtain ⟨y1, y2, rfl, r1, r2⟩ := two_rel rv
      split at h1
      · exact ⟨y1, y2, rfl, h1 w1 H1 (Le.refl _) hS1 _ ((hE1.set i r1).set j r2)⟩
      · exact h1.elim
    · exact h1.elim
  · cases h
theorem ss_par3 {i j l : Nat} {ms : List ME} : SndS P Φ fa k N (.par3 i j l ms) := fun sc W X Bz O s h => by
  unfold ckS at h
  split at h
  · rename_i x px y py z pz kt pt u v t k2 pt2 pos
    simp only [Bool.and_eq_true, decide_eq_true_eq] at
                                                       h
    obtain ⟨⟨⟨⟨⟨⟨⟨hij, hil⟩, hjl⟩, h1⟩, h2⟩, h2'⟩, h3⟩, h4⟩ := h
    obtain ⟨n1, n2, _⟩ := name_of O h1
    obtain ⟨_, n4, _⟩ := name_of O h2
    obtain ⟨_, n5, _⟩ := name_of O h2'
    have hw := par3C_ok (pt := pt) (pt2 := pt2) (kt := kt) (k2 := k2) O h3
    unfold par3C at h3
    simp only [Bool.and_eq_true, decide_eq_true_eq, Bool.not_eq_true'] at h3
    obtain ⟨⟨⟨⟨⟨⟨⟨⟨⟨⟨⟨⟨⟨g1, g2⟩, g3⟩, g3'⟩, _⟩, _⟩, _⟩, _⟩, _⟩, g6⟩, g7⟩, g7'⟩, _⟩, _⟩ := h3
    have hp : plain [u, v, t] = true := by unfold plain; rw [List.all_cons, List.all_cons, List.all_cons, g6, g7, g7']; rfl
    have pa := ((snds ms).es O h4).pa hp
    refine (ps_par3 O.calm n1 n2 n4 n5 hij hil hjl (by rw [O.sco]; exact g2) (by rw [O.sco]; exact g3) (by rw [O.sco]; exact g3') pa hw).imp fun D σ H ⟨w, env, st, hE, hS, q⟩ => ?_
    refine stA_seq hE hS q fun w1 vs xs st1 H1 l1 hE1 hS1 rv h1 => ?_
    split at h1
    · obtain ⟨y1, y2, y3, rfl, r1, r2, r3⟩ := three_rel rv
      split at h1
      · exact ⟨y1, y2, y3, rfl, h1 w1 H1 (Le.refl _) hS1 _ (((hE1.set i r1).set j r2).set l r3)⟩
      · exact h1.elim
    · exact h1.elim
  · cases h
theorem ss_fld {o e : ME} {f : Str} : SndS P Φ fa k N (.fld o f e) := fun sc W X Bz O s h => by
  unfold ckS at h
  split at h
  · simp only [Bool.and_eq_true, decide_eq_true_eq] at
                                                       h
    obtain ⟨⟨⟨rfl, h1⟩, h2⟩, h3⟩ := h
    refine (ps_fld ((snd o sc W X Bz O _ _ h2).1 rfl) ((snd e sc W X Bz O _ _ h3).1 rfl) (offC_ok O h1)).imp fun D σ H ⟨w, env, st, hE, hS, q⟩ => ?_
    refine stE_seq hE hS q fun w1 v y st1 H1 l1 hE1 hS1 rv h1 => ?_
    refine stE_seq hE1 hS1 h1 fun w2 z x st2 H2 l2 hE2 hS2 rz h2 => ?_
    cases e1 : fldSet P st2 z f v with
    | none => rw [e1] at h2; exact h2.elim
    | some st3 =>
      rw [e1] at h2
      unfold fldSet at e1
      split at e1
      · rename_i i
        split at e1
        · rename_i c ns vs e2
          split at e1
          · rename_i hc
            cases e1
            obtain ⟨p, rfl, ep⟩ := rz
            obtain ⟨dx, fs, hp, hn, rr⟩ := hS2.obj i p _ ep e2
            rw [ob_ins (O.lk.nd hc.2.2)] at hp
            have pr := putV_rel (f := f) (RV.mono l2 v rv) hn rr
            refine ⟨p, cA X.K c, dx, fs, rfl, hp, O.lk.cl c hc.2.2, O.lk.na c f hc.2.1, by rw [← hn, List.length_map] at hc; exact hc.1, ?_⟩
            exact h2 w2 _ (Le.refl _) (hS2.set ep ⟨dx, _, by rw [ob_ins (O.lk.nd hc.2.2)]; exact upd_same, pr.1, pr.2⟩) σ hE2
          · cases e1
        · cases e1
      · cases e1
  · cases h
theorem ss_fldaug {o e : ME} {f : Str} {op : Bop} : SndS P Φ fa k N (.fldaug o f op e) := fun sc W X Bz O s h => by
  unfold ckS at h
  split at h
  · simp only [Bool.and_eq_true, decide_eq_true_eq] at
                                                       h
    rename_i x g tp q y pos
    simp only [Bool.or_eq_true, decide_eq_true_eq] at h
    obtain ⟨⟨⟨⟨ho, rfl⟩, rfl⟩, h2⟩, h3⟩ := h
    have main : ∀ rdo, InOp X (pyop op) rdo → (∀ i j kk x y H Q, binJ op i (.int j) = some kk → x = .int i → y = .int j → Q (.int kk) H → rdo x y H Q) → PS X (.AugAssign (.Attribute x f tp) (pyop op) y pos) (rdF ⟨X.K, Bz⟩ W (evalS P Φ (.fldaug o f op e))) := by
      intro rdo hop hrd
      refine (ps_fldaug ((snd o sc W X Bz O _ _ h2).1 rfl) ((snd e sc W X Bz O _ _ h3).1 rfl) hop).imp fun D σ H ⟨w, env, st, hE, hS, q⟩ => ?_
      refine stE_seq hE hS q fun w1 z x st1 H1 l1 hE1 hS1 rz h1 => ?_
      cases e1 : fldGet P st1 z f with
      | none => rw [e1] at h1; exact h1.elim
      | some ci =>
        obtain ⟨c, i⟩ := ci
        rw [e1] at h1
        unfold fldGet at e1
        split at e1
        · rename_i c' ns vs e2
          split at e1
          · rename_i hc
            split at e1
            · rename_i i' e3
              cases e1
              obtain ⟨p, dx, fs, rfl, hp, hn, rr⟩ := insOf_rel (O.lk.nd hc.1) hS1 rz e2
              obtain ⟨y0, hy0, ry0⟩ := (fld_rel hn rr).1 _ e3
              cases (show y0 = .int _ from ry0)
              refine ⟨p, _, dx, fs, _, rfl, hp, O.lk.cl c hc.1, O.lk.na c f hc.2, hy0, ?_⟩
              refine stE_seq hE1 hS1 h1 fun w2 v y st2 H2 l2 hE2 hS2 rv h2 => ?_
              cases e4 : binJ op i v with
              | none => rw [e4] at h2; exact h2.elim
              | some kk =>
                rw [e4] at h2
                have hv : ∃ j, v = .int j := by
                  unfold binJ at e4
                  split at e4
                  · exact ⟨_, rfl⟩
                  · exact ⟨_, rfl⟩
                  · cases e4
                obtain ⟨j, rfl⟩ := hv
                replace h2 : Post ⟨X.K, Bz⟩ w2 (if (insOf st2 z).map (·.1) = some c then (match fldSet P st2 z f (.int kk) with
                  | some st' => R.ok (Fl.next env) st'
                  | none => .stuck) else .stuck) (FA ⟨X.K, Bz⟩ D) (XA W) := h2
                split at h2
                · rename_i hcl
                  cases e5 : fldSet P st2 z f (.int kk) with
                  | none => rw [e5] at h2; exact h2.elim
                  | some st3 =>
                    rw [e5] at h2
                    unfold fldSet at e5
                    split at e5
                    · rename_i ii
                      split at e5
                      · rename_i c2 ns2 vs2 e6
                        split at e5
                        · rename_i hc2
                          cases e5
                          have hcc : c2 = c := by
                            have h6 : insOf st2 (.ref ii) = some (c2, ns2, vs2) := by simp [insOf, e6]
                            rw [h6] at hcl
                            exact Option.some.inj hcl
                          obtain ⟨p', e7, ep⟩ := RV.mono l2 _ rz
                          cases e7
                          obtain ⟨dx2, fs2, hp2, hn2, rr2⟩ := hS2.obj ii _ _ ep e6
                          subst hcc
                          rw [ob_ins (O.lk.nd hc2.2.2)] at hp2
                          have pr := putV_rel (K := ⟨X.K, Bz⟩) (w := w2) (f := f) (y := .int kk) (x := .int kk) rfl hn2 rr2
                          refine hrd i j kk _ _ _ _ e4 rfl rv ⟨dx2, fs2, hp2, by rw [← hn2, List.length_map] at hc2; exact hc2.1, ?_⟩
                          exact h2 w2 _ (Le.refl _) (hS2.set ep ⟨dx2, _, by rw [ob_ins (O.lk.nd hc2.2.2)]; exact upd_same, pr.1, pr.2⟩) σ hE2
                        · cases e5
                      · cases e5
                    · cases e5
                · exact h2.elim
            · cases e1
          · cases e1
        · cases e1
    rcases ho with rfl | rfl
    · exact main rAdd in_add fun i j kk x y H Q e hx hy q => ⟨i, j, hx, hy, by cases e; exact q⟩
    · exact main rSub in_sub fun i j kk x y H Q e hx hy q => ⟨i, j, hx, hy, by cases e; exact q⟩
  · cases h
theorem swap_sub {x y z : Expr} {p : Pos} (env : PySem.Env) : swappedStores [.Subscript x y p] z env = pure none := by
  cases z <;> rfl
theorem ss_sub {o i e : ME} : SndS P Φ fa k N (.sub o i e) := fun sc W X Bz O s h => by
  unfold ckS at h
  split at h
  · simp only [Bool.and_eq_true] at h
    obtain ⟨⟨⟨⟨h2, h0⟩, h3⟩, h4⟩, h5⟩ := h
    rename_i x y p2 z pos
    refine (ps_asg (pos := pos) ((snd e sc W X Bz O _ _ h5).1 rfl) (pg_sub (pos := p2) ((snd o sc W X Bz O _ _ h3).1 rfl) ((snd i sc W X Bz O _ _ h4).1 rfl) set_list (by intro v; cases y <;> first | rfl | cases h0)) (noComp_ok h2 (some (.Subscript x y p2)) pos.line X.env) (swap_sub _) rfl).imp fun D σ H ⟨w, env, st, hE, hS, q⟩ => ?_
    refine stE_seq hE hS q fun w1 v yv st1 H1 l1 hE1 hS1 rv h1 => ?_
    refine stE_seq hE1 hS1 h1 fun w2 u xv st2 H2 l2 hE2 hS2 ru h2 => ?_
    refine stE_seq hE2 hS2 h2 fun w3 t iv st3 H3 l3 hE3 hS3 rt h3 => ?_
    cases e1 : setV st3 u t v with
    | none => rw [e1] at h3; exact h3.elim
    | some st4 =>
      rw [e1] at h3
      unfold setV at e1
      split at e1
      · rename_i kk j
        split at e1
        · rename_i xs e2
          obtain ⟨n, e3, rfl⟩ := Option.map_eq_some_iff.mp e1
          obtain ⟨p, rfl, ep⟩ := RV.mono l3 _ ru
          obtain ⟨ys, hp, hz, rr⟩ := hS3.obj kk p _ ep e2
          cases (show iv = .int j from rt)
          refine ⟨p, ys, j, n, rfl, rfl, hp, by rw [← rr.length]; exact e3, ?_⟩
          exact h3 w3 _ (Le.refl _) (hS3.set ep ⟨_, upd_same, by rw [List.length_set]; exact hz, rr.set n (RV.mono (l2.trans l3) v rv)⟩) σ hE3
        · cases e1
      · cases e1
  · cases h
theorem ss_dput {o e : ME} {f : Str} : SndS P Φ fa k N (.dput o f e) := fun sc W X Bz O s h => by
  unfold ckS at h
  split at h
  · simp only [Bool.and_eq_true] at h
    obtain ⟨⟨⟨⟨h1, h2⟩, h0⟩, h3⟩, h5⟩ := h
    rename_i x y p2 z pos
    obtain ⟨k1, k2⟩ := str_rd (P := P) (Φ := Φ) (X := X) (Bz := Bz) (W := W) h0
    refine (ps_asg (pos := pos) ((snd e sc W X Bz O _ _ h5).1 rfl) (pg_sub (pos := p2) ((snd o sc W X Bz O _ _ h3).1 rfl) k1 (set_dict O) (by intro v; unfold ckStr at h0; split at h0 <;> first | rfl | cases h0)) (offC_ok O (t := .Subscript x y p2) (l := pos.line) h2) (noTup_ok h1 _) rfl).imp fun D σ H ⟨w, env, st, hE, hS, q⟩ => ?_
    refine stE_seq hE hS q fun w1 v yv st1 H1 l1 hE1 hS1 rv h1 => ?_
    refine stE_seq hE1 hS1 h1 fun w2 u xv st2 H2 l2 hE2 hS2 ru h2 => ?_
    refine ⟨w2, env, st2, hE2, hS2, fun w3 H3 l3 hS3 kk rk => ?_⟩
    obtain ⟨rfl, _⟩ : kk = .str f ∧ _ := rk
    cases e1 : dputV st2 u f v with
    | none => rw [e1] at h2; exact h2.elim
    | some st4 =>
      rw [e1] at h2
      obtain ⟨p', H', rfl, dp, hS4⟩ := dputV_rel hS3 (RV.mono l3 _ ru) (RV.mono (l2.trans l3) _ rv) e1
      exact ⟨p', H', rfl, dp, h2 w3 H' l3 hS4 σ (hE2.mono l3)⟩
  · cases h
theorem ss_dpar {i : Nat} {ks : List Str} {e : ME} : SndS P Φ fa k N (.dpar i ks e) := fun sc W X Bz O s h => by
  unfold ckS at h
  split at h
  · rename_i x y p2 er n p vs m q pos
    rw [Bool.and_eq_true] at h
    obtain ⟨h1, h5⟩ := h
    obtain ⟨a1, a2, a3⟩ := ckDs_asg X.env ks _ h1
    refine (ps_asg (pos := pos) ((snd e sc W X Bz O _ _ h5).1 rfl) (pg_tup (pos := p) (k := n) O.calm (pgs_dpar O ks _ h1) a1 a2) rfl (sub_noneOf x y p2 er vs n m p q X.env) rfl).imp fun D σ H ⟨w, env, st, hE, hS, qq⟩ => ?_
    refine stE_seq hE hS qq fun w1 v yv st1 H1 l1 hE1 hS1 rv h1 => ?_
    cases v with
    | tup ys =>
      cases e0 : env[i]? with
      | none => rw [e0] at h1; exact h1.elim
      | some o0 =>
        cases o0 with
        | none => rw [e0] at h1; exact h1.elim
        | some x0 =>
          rw [e0] at h1
          simp only at h1
          cases e1 : dputsV st1 x0 ks ys with
          | none => rw [e1] at h1; exact h1.elim
          | some st4 =>
            rw [e1] at h1
            obtain ⟨a, xs, rfl, s, z, rr⟩ := rv
            have hlen : ∀ (fs : List Str) (zs : List Val) (s0 s1 : Store), dputsV s0 x0 fs zs = some s1 → zs.length = fs.length := by
              intro fs
              induction fs with
              | nil => intro zs s0 s1 e; cases zs with | nil => rfl | cons _ _ => cases e
              | cons f fs ih =>
                intro zs s0 s1 e
                cases zs with
                | nil => cases e
                | cons z zs =>
                  simp only [dputsV] at e
                  split at e
                  · rw [List.length_cons, List.length_cons, ih _ _ _ e]
                  · cases e
            refine ⟨a, xs, rfl, SqT.mono hS1.sub s, by rw [← rr.length, hlen _ _ _ _ e1, a3], w1, env, st1, st4, x0, ys, hE1, hS1, e0, rr, e1, fun w' H' l' s' => ?_⟩
            exact h1 w' H' l' s' σ (hE1.mono l')
    | _ => exact h1.elim
  · cases h
theorem ss_aug {i : Nat} {op : Bop} {e : ME} : SndS P Φ fa k N (.aug i op e) := fun sc W X Bz O s h => by
  unfold ckS at h
  split at h
  · rename_i x p q y pos
    simp only [Bool.and_eq_true, Bool.or_eq_true, decide_eq_true_eq] at h
    obtain ⟨⟨⟨⟨ho, h1⟩, hx⟩, rfl⟩, h5⟩ := h
    obtain ⟨n1, n2, _⟩ := name_of O h1
    have hloc : Loc X.env.scope x ∧ (X.fn x = true ∨ X.env.scope.names.lookup x = some .local) := by
      rw [O.sco]
      unfold stOk at hx
      simp only [Bool.or_eq_true, Bool.and_eq_true, decide_eq_true_eq] at hx
      rcases hx with hx | ⟨h1, h2⟩
      · exact ⟨.inl hx, .inr hx⟩
      · exact ⟨.inr h2, .inl (O.fn h1 x)⟩
    have main : ∀ f : Int → Int → Int, PIp X (pyop op) (ipI f) → (∀ a v kk, binJ op a v = some kk → ∃ j, v = .int j ∧ kk = f a j) → PS X (.AugAssign (.Name x p) (pyop op) y pos) (rdF ⟨X.K, Bz⟩ W (evalS P Φ (.aug i op e))) := by
      intro f hip hf
      refine (ps_aug n1 n2 hloc.1 ((snd e sc W X Bz O _ _ h5).1 rfl) hip hloc.2).imp fun D σ H ⟨w, env, st, hE, hS, q⟩ => ?_
      replace q : Post ⟨X.K, Bz⟩ w (match env[i]? with
        | some (some (.int a)) => (evalE P Φ e env st).then_ fun v st => (match binJ op a v with
          | some k => R.ok (Fl.next (env.set i (some (.int k)))) st
          | none => .stuck)
        | _ => .stuck) (FA ⟨X.K, Bz⟩ D) (XA W) := q
      split at q
      · rename_i a ea
        obtain ⟨xv, e1, r1⟩ := hE.2 i _ ea
        cases (show xv = .int a from r1)
        refine ⟨_, e1, stE_seq hE hS q fun w1 v yv st1 H1 l1 hE1 hS1 rv h1 => ?_⟩
        cases e2 : binJ op a v with
        | none => rw [e2] at h1; exact h1.elim
        | some kk =>
          rw [e2] at h1
          obtain ⟨j, rfl, rfl⟩ := hf a v kk e2
          exact ⟨a, j, rfl, rv, h1 w1 H1 (Le.refl _) hS1 _ (hE1.set i rfl)⟩
      · exact q.elim
    rcases ho with rfl | rfl
    · exact main _ ip_add fun a v kk e => by
        cases v <;> first | (cases e; done) | skip
        cases e; exact ⟨_, rfl, rfl⟩
    · exact main _ ip_sub fun a v kk e => by
        cases v <;> first | (cases e; done) | skip
        cases e; exact ⟨_, rfl, rfl⟩
  · cases h
theorem get_list {X : Cx} : PGet X (rIxL X.K) := by
  intro pins s σ H x y v u Q I rx ry
                                     h
  obtain ⟨p, xs, i, z, rfl, rfl, hq, he, q⟩ :=
                                               h
  cases rx
  obtain ⟨t, rfl⟩ := ry
  obtain ⟨its, r, pl, hz⟩ := I.list
                                    hq
  obtain ⟨j, h1, h2, h3, h4, h5⟩ := atI_get
                                            he
  obtain ⟨w, ew, rw'⟩ := r.get
                               h2
  have hl := r.length
  have hn := line63
  have fin : EP X pins σ Q w s := ⟨z, H, I, rw',
                                                 q⟩
  by_cases h0 : 0 ≤ i
  · have hj : i.toNat = j := by
      rw [seqIndex_of h0 h5] at h1
      exact Option.some.inj h1
    exact wpAny_getItem_list pl.isList h0 (by omega) (by rw [hj]; simpa using ew) fin
  · have hj : (i + (its.toArray.size : Int)).toNat = j :=
                                                          by
      rw [seqIndex_neg (by omega) h4] at
                                         h1
      rw [List.size_toArray, ← hl]
      exact Option.some.inj h1
    exact wpAny_getItem_list_neg pl.isList (by omega) (by rw [List.size_toArray] <;> omega) (by omega) (by rw [hj]; simpa using ew) fin
theorem ss_subaug {o i e : ME} {op : Bop} : SndS P Φ fa k N (.subaug o i op e) := fun sc W X Bz O s h => by
  unfold ckS at h
  split at h
  · rename_i x y tp q z pos
    simp only [Bool.and_eq_true, Bool.or_eq_true, decide_eq_true_eq] at h
    obtain ⟨⟨⟨⟨⟨ho, rfl⟩, hp⟩, h3⟩, h4⟩, h5⟩ := h
    have main : ∀ f : Int → Int → Int, PIp X (pyop op) (ipI f) → (∀ a v kk, binJ op a v = some kk → ∃ j, v = .int j ∧ kk = f a j) → PS X (.AugAssign (.Subscript x y tp) (pyop op) z pos) (rdF ⟨X.K, Bz⟩ W (evalS P Φ (.subaug o i op e))) := by
      intro f hip hf
      refine (ps_augS ((snd o sc W X Bz O _ _ h3).1 rfl) ((snd i sc W X Bz O _ _ h4).1 rfl) get_list ((snd e sc W X Bz O _ _ h5).1 rfl) hip set_list (by intros; cases y <;> first | rfl | cases hp)).imp fun D σ H ⟨w, env, st, hE, hS, q⟩ => ?_
      refine stE_seq hE hS q fun w1 u xv st1 H1 l1 hE1 hS1 ru h1 => ?_
      refine stE_seq hE1 hS1 h1 fun w2 t iv st2 H2 l2 hE2 hS2 rt h2 => ?_
      cases e0 : subGet st2 u t with
      | none => rw [e0] at h2; exact h2.elim
      | some a =>
        rw [e0] at h2
        have e00 := e0
        unfold subGet at e0
        split at e0
        · rename_i kk j
          split at e0
          · rename_i xs e2
            split at e0
            · rename_i a' e3
              cases e0
              obtain ⟨p, rfl, ep⟩ := RV.mono l2 _ ru
              obtain ⟨ys, hpp, hz, rr⟩ := hS2.obj kk p _ ep e2
              cases (show iv = .int j from rt)
              obtain ⟨y0, e3', g4⟩ := atI_rel rr e3
              cases (show y0 = .int _ from g4)
              refine ⟨p, ys, j, _, rfl, rfl, SqL.of hpp, e3', ?_⟩
              refine stE_seq hE2 hS2 h2 fun w3 v yv st3 H3 l3 hE3 hS3 rv h3 => ?_
              cases e5 : binJ op a v with
              | none => rw [e5] at h3; exact h3.elim
              | some k2 =>
                rw [e5] at h3
                obtain ⟨jj, rfl, rfl⟩ := hf a v k2 e5
                refine ⟨a, jj, rfl, rv, ?_⟩
                replace h3 : Post ⟨X.K, Bz⟩ w3 (match setV st3 (.ref kk) (.int j) (.int (f a jj)) with
                  | some st' => R.ok (Fl.next env) st'
                  | none => R.stuck) (FA ⟨X.K, Bz⟩ D) (XA W) := h3
                cases e6 : setV st3 (.ref kk) (.int j) (.int (f a jj)) with
                | none => rw [e6] at h3; exact h3.elim
                | some st4 =>
                  rw [e6] at h3
                  replace e6 : (match st3[kk]? with
                    | some (.lst xs) => (L2.ixN xs.length j).map fun n => st3.set kk (.lst (xs.set n (.int (f a jj))))
                    | _ => none) = some st4 := e6
                  split at e6
                  · rename_i xs' e7
                    obtain ⟨m, e8, rfl⟩ := Option.map_eq_some_iff.mp e6
                    have ep3 := l3.e _ _ ep
                    obtain ⟨ys', hp', hz', rr'⟩ := hS3.obj kk p _ ep3 e7
                    refine ⟨p, ys', j, m, rfl, rfl, hp', by rw [← rr'.length]; exact e8, ?_⟩
                    exact h3 w3 _ (Le.refl _) (hS3.set ep3 ⟨_, upd_same, by rw [List.length_set]; exact hz', rr'.set m rfl⟩) σ hE3
                  · cases e6
            · cases e0
          · cases e0
        · cases e0
    rcases ho with rfl | rfl
    · exact main _ ip_add fun a v kk e => by
        cases v <;> first | (cases e; done) | skip
        cases e; exact ⟨_, rfl, rfl⟩
    · exact main _ ip_sub fun a v kk e => by
        cases v <;> first | (cases e; done) | skip
        cases e; exact ⟨_, rfl, rfl⟩
  · cases h
theorem ss_ret {e : ME} : SndS P Φ fa k N (.ret e) := fun sc W X Bz O s h => by
  unfold ckS at h
  split at h
  · refine (ps_ret ((snd e sc W X Bz O _ _ h).1 rfl)).imp fun D σ H ⟨w, env, st, hE, hS, q⟩ => ?_
    exact stE_seq hE hS q fun w1 v y st1 H1 l1 hE1 hS1 rv h1 => h1 w1 H1 (Le.refl _) hS1 _ rv
  · cases h
theorem ss_retN : SndS P Φ fa k N .retN := fun sc W X Bz O s h => by
  unfold ckS at h
  split at h
  · exact ps_retN.imp fun D σ H ⟨w, env, st, hE, hS, q⟩ => q w H (Le.refl _) hS _ rfl
  · cases h
theorem ss_ite {c : ME} {a b : List MS} (ha : SndSs P Φ fa k N a) (hb : SndSs P Φ fa k N b) : SndS P Φ fa k N (.ite c a b) := fun sc W X Bz O s h => by
  unfold ckS at h
  split at h
  · simp only [Bool.and_eq_true] at h
    refine (ps_if ((snd c sc W X Bz O _ _ h.1.1).2 rfl) (ha sc W X Bz O _ h.1.2) (hb sc W X Bz O _ h.2)).imp fun D σ H ⟨w, env, st, hE, hS, q⟩ => ?_
    refine stT_seq hE hS q fun w1 b st1 H1 l1 hE1 hS1 h1 => ?_
    cases b with
    | true => exact ⟨w1, env, st1, hE1, hS1, h1⟩
    | false => exact ⟨w1, env, st1, hE1, hS1, h1⟩
  · cases h
theorem ss_pass : SndS P Φ fa k N .pass := fun sc W X Bz O s h => by
  unfold ckS at h
  split at h
  · exact ps_pass.imp fun D σ H ⟨w, env, st, hE, hS, q⟩ => q w H (Le.refl _) hS σ hE
  · exact ps_doc.imp fun D σ H ⟨w, env, st, hE, hS, q⟩ => q w H (Le.refl _) hS σ hE
  · cases h
theorem ss_brk : SndS P Φ fa k N .brk := fun sc W X Bz O s h => by
  unfold ckS at h
  split at h
  · exact ps_break.imp fun D σ H ⟨w, env, st, hE, hS, q⟩ => q w H (Le.refl _) hS σ hE
  · cases h
theorem ss_cont : SndS P Φ fa k N .cont := fun sc W X Bz O s h => by
  unfold ckS at h
  split at h
  · exact ps_continue.imp fun D σ H ⟨w, env, st, hE, hS, q⟩ => q w H (Le.refl _) hS σ hE
  · cases h
theorem ss_never : SndS P Φ fa k N .never := fun sc W X Bz O s h => ps_never.imp fun D σ H ⟨w, env, st, hE, hS, q⟩ => q
theorem xfs_names {c : Str} : ∀ {fs : List Str} {vs : List V}, vs.length = fs.length → (xfs c fs vs).map (·.1) = fs ++ [("code" : Str)] ∧ (xfs c fs vs).map (·.2) = vs ++ [V.str c]
  | [], [], _ => ⟨rfl, rfl⟩
  | [], _ :: _, h => by cases h
  | _ :: _, [], h => by cases h
  | f :: fs, v :: vs, h => by
    obtain ⟨h1, h2⟩ := xfs_names (c := c) (fs := fs) (vs := vs) (by simpa using h)
    have e : xfs c (f :: fs) (v :: vs) = (f, v) :: xfs c fs vs := rfl
    rw [e, List.map_cons, List.map_cons, h1, h2]
    exact ⟨rfl, rfl⟩
theorem ss_raise {c : Str} {es : List ME} : SndS P Φ fa k N (.raise_ c es) := fun sc W X Bz O s h => by
  unfold ckS at h
  split at h
  · rename_i x px as cpos pos
    simp only [Bool.and_eq_true, decide_eq_true_eq] at
                                                       h
    obtain ⟨⟨⟨⟨⟨⟨⟨rfl, h1⟩, h2⟩, h3⟩, h4⟩, h5⟩, h6⟩, h7⟩ := h
    have hs : sOk x := ⟨Nat.le_trans h6 (by rw [sizeLine_eq]; omega), h7⟩
    cases e : P.exc x with
    | none => rw [e] at h3; cases h3
    | some fs =>
      have D := O.lk.ex x fs e
      refine (ps_raise O.calm O.tk (pmk_g D.ok O.room (gl_ok O h1) D.mg_ D.kp (plain_ns h4) (plain_tail h4) (((snds es).es O h5).pa h4) (fun z => rdA_nil (((snds es).es O h5).nil_of z)) (nmOk_d h2).1)).imp fun Dn σ H ⟨w, env, st, hE, hS, q⟩ => ?_
      refine stA_seq hE hS q fun w1 vs xs st1 H1 l1 hE1 hS1 rv h1 => ?_
      unfold raiseM at h1
      rw [e] at h1
      simp only at h1
      split at h1
      · rename_i hl
        have hx : xs.length = fs.length := by rw [← rv.length, hl]
        refine ⟨hx, fun d hd => ?_⟩
        obtain ⟨n1, n2⟩ := xfs_names (c := x) hx
        have lf := RS.freeze_le (o := HO.xd (xfs x fs xs)) hS1 hd
        exact h1 _ _ (some d) _ lf (hS1.freeze hd) ⟨rfl, d, _, rfl, upd_same, n1, by
          rw [n2]
          exact RVs.append (RVs.mono lf _ rv) (RVs.cons ⟨rfl, hs⟩ RVs.nil)⟩ σ
      · exact h1.elim
  · cases h
theorem ss_for {t : MT} {kd : SrcK} {es : List ME} {body : List MS} (hb : SndSs P Φ fa k N body) : SndS P Φ fa k N (.for_ t kd es body) := fun sc W X Bz O s h => by
  unfold ckS at h
  split at h
  · simp only [Bool.and_eq_true] at h
    obtain ⟨⟨⟨h1, h2⟩, h3⟩, h4⟩ :=
                                   h
    refine (ps_for O.po O.calm (ckSrc_ok (snds es) O h2) (pg_ok O t _ h3) (hb sc W X Bz O _ h4) (noSet_ok h1 _)).imp fun D σ H ⟨w, env, st, hE, hS, q⟩ => ?_
    let step : Val → Env → Store → R Fl := fun x env st => match bindT t x env with
        | none => .stuck
        | some env' => evalSs P Φ body env' st
    replace q : Post ⟨X.K, Bz⟩ w ((srcE P Φ kd es env st).then_ fun p st => loopF step p.2 p.1 env st) (FA ⟨X.K, Bz⟩ D) (XA W) := q
    refine stS_seq hE hS q fun w1 p st1 H1 l1 hE1 hS1 h1 J itw => ?_
    obtain ⟨items, live⟩ := p
    simp only at itw h1
    refine ⟨fun i m σ H => ∃ w' env' st', LeR w1 w' ∧ RE ⟨X.K, Bz⟩ w' env' σ ∧ RS ⟨X.K, Bz⟩ w' st' H ∧ i ≤ items.length ∧ m = items.length - i ∧ Post ⟨X.K, Bz⟩ w' (loopF step live (items.drop i) env' st') (FA ⟨X.K, Bz⟩ D) (XA W),
      ⟨items.length, w1, env, st1, LeR.refl _, hE1, hS1, Nat.zero_le _, by omega, h1⟩, ?_⟩
    rintro i m σ2 H2 ⟨w', env', st', l', hE', hS', hi, rfl, hp⟩
    by_cases hlt : i < items.length
    · have hdrop : items.drop i = items[i] :: items.drop (i + 1) := List.drop_eq_getElem_cons hlt
      rw [hdrop] at hp
      unfold loopF at hp
      split at hp
      · rename_i hstill0
        have hstill := still_of hstill0
        refine .inr ⟨itw.go _ st' H2 i l' hS' hstill hlt, fun σ' H' => ∃ m', m' < items.length - i ∧ ∃ w' env' st', LeR w1 w' ∧ RE ⟨X.K, Bz⟩ w' env' σ' ∧ RS ⟨X.K, Bz⟩ w' st' H' ∧ i + 1 ≤ items.length ∧ m' = items.length - (i + 1) ∧ Post ⟨X.K, Bz⟩ w' (loopF step live (items.drop (i + 1)) env' st') (FA ⟨X.K, Bz⟩ D) (XA W), fun σ' H' ⟨m', a, b⟩ => ⟨m', a, b⟩, fun x H3 hy => ?_⟩
        obtain ⟨w2, l2, s2, rx⟩ := itw.yld _ st' H2 i items[i] x H3 l' hS' hstill (by simp [hlt]) hy
        have hp2 := (Post.mono l2 hp).seq
        cases hbd : bindT t items[i] env' with
        | none =>
          have : step items[i] env' st' = .stuck := by show (match bindT t items[i] env' with | none => R.stuck | some env' => evalSs P Φ body env' st') = _; rw [hbd]
          rw [this] at hp2; exact hp2.elim
        | some env2 =>
          have : step items[i] env' st' = evalSs P Φ body env2 st' := by show (match bindT t items[i] env' with | none => R.stuck | some env' => evalSs P Φ body env' st') = _; rw [hbd]
          rw [this] at hp2
          refine ⟨w2, env', st', items[i], env2, hE'.mono l2, s2, rx, hbd, fun σ' hE2 _ => ⟨w2, env2, st', hE2, s2, hp2.imp fun w3 f st3 H4 l3 s3 h3 => ?_⟩⟩
          cases f with
          | next env3 => exact fun σ3 hE3 => ⟨_, by omega, w3, env3, st3, (l'.trans l2.r).trans l3.r, hE3, s3, hlt, rfl, h3⟩
          | cont env3 => exact fun σ3 hE3 => ⟨_, by omega, w3, env3, st3, (l'.trans l2.r).trans l3.r, hE3, s3, hlt, rfl, h3⟩
          | brk env3 => exact fun σ3 hE3 => h3 w3 H4 (Le.refl _) s3 σ3 hE3
          | ret v => exact h3 w3 H4 (Le.refl _) s3
      · exact hp.elim
    · have hi' : i = items.length := by omega
      subst hi'
      rw [List.drop_length] at hp
      unfold loopF at hp
      split at hp
      · rename_i hstill0
        have hstill := still_of hstill0
        exact .inl ⟨itw.stop _ st' H2 _ l' hS' hstill (Nat.le_refl _), hp w' H2 (Le.refl _) hS' σ2 hE'⟩
      · exact hp.elim
  · cases h
theorem ss_while {c : ME} {body : List MS} (hb : SndSs P Φ fa k N body) : SndS P Φ fa k N (.while_ c body) := fun sc W X Bz O s h => by
  unfold ckS at h
  split at h
  · rw [Bool.and_eq_true] at h
    refine (ps_while O.po ((snd c sc W X Bz O _ _ h.1).2 rfl) (hb sc W X Bz O _ h.2)).imp fun D σ H ⟨w, env, st, hE, hS, q⟩ => ?_
    let cc : Env → Store → R Bool := fun env st => evalT P Φ c env st
    let step : Env → Store → R Fl := fun env st => evalSs P Φ body env st
    refine ⟨fun m σ H => ∃ w env st, RE ⟨X.K, Bz⟩ w env σ ∧ RS ⟨X.K, Bz⟩ w st H ∧ Post ⟨X.K, Bz⟩ w (loopW cc step m env st) (FA ⟨X.K, Bz⟩ D) (XA W), ⟨P.fuel, w, env, st, hE, hS, q⟩, ?_⟩
    rintro m σ2 H2 ⟨w', env', st', hE', hS', hp⟩
    cases m with
    | zero => exact hp.elim
    | succ m =>
      replace hp : Post ⟨X.K, Bz⟩ w' ((evalT P Φ c env' st').then_ fun b st1 => match b with
        | false => .ok (.next env') st1
        | true => (step env' st1).then_ fun f st' => match f with
          | .next env' => loopW cc step m env' st'
          | .cont env' => loopW cc step m env' st'
          | .brk env' => .ok (.next env') st'
          | .ret v => .ok (.ret v) st') (FA ⟨X.K, Bz⟩ D) (XA W) := hp
      refine stT_seq hE' hS' hp fun w1 b st1 H1 l1 hE1 hS1 h1 => ?_
      cases b with
      | false => exact h1 w1 H1 (Le.refl _) hS1 σ2 hE1
      | true =>
        simp only [if_true]
        refine ⟨fun σ' H' => ∃ w env st, RE ⟨X.K, Bz⟩ w env σ' ∧ RS ⟨X.K, Bz⟩ w st H' ∧ Post ⟨X.K, Bz⟩ w (loopW cc step m env st) (FA ⟨X.K, Bz⟩ D) (XA W), fun σ' H' q => ⟨m, Nat.lt_succ_self _, q⟩, w1, env', st1, hE1, hS1, (Post.seq h1).imp fun w3 f st3 H4 l3 s3 h3 => ?_⟩
        cases f with
        | next env3 => exact fun σ3 hE3 => ⟨w3, env3, st3, hE3, s3, h3⟩
        | cont env3 => exact fun σ3 hE3 => ⟨w3, env3, st3, hE3, s3, h3⟩
        | brk env3 => exact fun σ3 hE3 => h3 w3 H4 (Le.refl _) s3 σ3 hE3
        | ret v => exact h3 w3 H4 (Le.refl _) s3
  · cases h
mutual
theorem sndS : ∀ m : MS, SndS P Φ fa k N m
  | .expr e => ss_expr
  | .set t e => ss_set
  | .setc i e => ss_setc
  | .sett t e => ss_sett
  | .par i j a b => ss_par
  | .par3 i j l es => ss_par3
  | .fld o f e => ss_fld
  | .fldaug o f op e => ss_fldaug
  | .sub o i e => ss_sub
  | .dput o f e => ss_dput
  | .dpar i ks e => ss_dpar
  | .aug i op e => ss_aug
  | .subaug o i op e => ss_subaug
  | .ret e => ss_ret
  | .retN => ss_retN
  | .ite c a b => ss_ite (sndSs a) (sndSs b)
  | .for_ t k es body => ss_for (sndSs body)
  | .while_ c body => ss_while (sndSs body)
  | .pass => ss_pass
  | .brk => ss_brk
  | .cont => ss_cont
  | .never => ss_never
  | .raise_ c es => ss_raise
theorem sndSs : ∀ ms : List MS, SndSs P Φ fa k N ms
  | [] => ss_nil
  | m :: ms => ss_cons (sndS m) (sndSs ms)
end
end
end Mp
end
section
set_option Elab.async false
set_option linter.all false
set_option maxRecDepth 100000
set_option maxHeartbeats
                         1000000
namespace Mp
open PySem L2 PySem.Spec PyProof.Rows
def absD : V → Option Val
  | .non => some .non
  | .bl b => some (.bl b)
  | .int i => some (.int i)
  | .str x => if x.length ≤ 65536 ∧ PyData.strOk x = true then some (.str x) else none
  | _ => none
theorem absD_ok {K : KZ} {x : V} {v : Val} (h : absD x = some v) (w : Wd) : RV K w v x := by
  cases x with
  | non => cases h; rfl
  | bl b => cases h; rfl
  | int i => cases h; rfl
  | str y =>
    simp only [absD] at h
    split at h
    · rename_i hy
      cases h
      exact ⟨rfl, Nat.le_trans hy.1 (by rw [sizeLine_eq]; omega), hy.2⟩
    · cases h
  | _ => cases h
def flatW : Val → Option V
  | .non => some .non
  | .bl b => some (.bl b)
  | .int i => some (.int i)
  | .str x => if x.length ≤ 65536 ∧ PyData.strOk x = true then some (.str x) else none
  | _ => none
theorem flatW_ok {K : KZ} {v : Val} {x : V} (h : flatW v = some x) (w : Wd) : RV K w v x := by
  cases v with
  | non => cases h; rfl
  | bl b => cases h; rfl
  | int i => cases h; rfl
  | str y =>
    simp only [flatW] at h
    split at h
    · rename_i hy
      cases h
      exact ⟨rfl, Nat.le_trans hy.1 (by rw [sizeLine_eq]; omega), hy.2⟩
    · cases h
  | _ => cases h
def flatWs : List Val → Option (List V)
  | [] => some []
  | v :: vs => match flatW v, flatWs vs with
    | some x, some xs => some (x :: xs)
    | _, _ => none
theorem flatWs_ok {K : KZ} (w : Wd) : ∀ {vs : List Val} {xs : List V}, flatWs vs = some xs → RVs K w vs xs
  | [], xs, h => by cases h; exact RVs.nil
  | v :: vs, xs, h => by
    unfold flatWs at h
    split at h
    · rename_i e1 e2
      cases h
      exact .cons (flatW_ok e1 w) (flatWs_ok w e2)
    · cases h
def tupB (K : PySem.W.Frag) (x : V) (vs : List Val) : Bool := match x, flatWs vs with
  | .ref a, some xs => (match K.lookup a with
    | some o => decide (o.cls = .type "tuple") && (match o.data with
      | .seq its _ => decide (its.size ≤ sizeLine) && (decide (vs.length ≤ 1000) && He.relAll xs its.toList)
      | _ => false)
    | none => false)
  | _, _ => false
theorem tupB_ok {K : KZ} {x : V} {vs : List Val} (h : tupB K.K x vs = true) (w : Wd) : RV K w (.tup vs) x := by
  unfold tupB at h
  split at h
  · rename_i a xs e2
    split at h
    · rename_i o eo
      rw [Bool.and_eq_true, decide_eq_true_eq] at
                                                  h
      obtain ⟨c1, c2⟩ := h
      split at c2
      · rename_i its n ed
        simp only [Bool.and_eq_true, decide_eq_true_eq] at c2
        exact ⟨a, xs, rfl, .inr ⟨o, its, n, eo, c1, ed, c2.1, He.relAll_ok c2.2.2⟩, Nat.le_trans c2.2.1 (by rw [sizeLine_eq]; omega), flatWs_ok w e2⟩
      · cases c2
    · cases h
  · cases h
def pick {α : Type} (us ws dd : List α) (t : α) : Src → Option α
  | .pos i => us[i]?
  | .kw i => ws[i]?
  | .dfl j _ => dd[j]?
  | .rest _ => some t
def picks {α : Type} (us ws dd : List α) (t : α) : List Src → Option (List α)
  | [] => some []
  | s :: r => match pick us ws dd t s with
    | none => none
    | some v => (picks us ws dd t r).map (v :: ·)
def isTp : Val → Bool
  | .tup _ => true
  | _ => false
def dflOk (dd : List V) : List Src → Bool
  | [] => true
  | .dfl j v :: r => (isTp v || (match (dd[j]?).bind absD with
    | some u => sameV u v
    | none => false)) && dflOk dd r
  | _ :: r => dflOk dd r
where sameV : Val → Val → Bool
  | .non, .non => true
  | .bl a, .bl b => a == b
  | .int i, .int j => decide (i = j)
  | .str x, .str y => decide (x = y)
  | _, _ => false
theorem sameV_eq {u v : Val} (h : dflOk.sameV u v = true) : u = v := by
  cases u <;> cases v <;> first | (cases h; done) | rfl | skip
  · exact congrArg Val.bl (eq_of_beq h)
  · exact congrArg Val.int (of_decide_eq_true h)
  · exact congrArg Val.str (of_decide_eq_true h)
def noRest : List Src → Bool
  | [] => true
  | .rest _ :: _ => false
  | _ :: r => noRest r
def restAt (i : Nat) : List Src → Bool
  | [] => true
  | .rest j :: r => decide (j = i) && restAt i r
  | _ :: r => restAt i r
theorem picks_vals {us ws dd : List Value} {xs zs dv : List V} {t : Value} {y : V} (r1 : Vals xs us) (r2 : Vals zs ws) (r3 : Vals dv dd) (r4 : RelV y t) : ∀ {tp : List Src} {args : List Value}, picks us ws dd t tp = some args → ∃ vs, picks xs zs dv y tp = some vs ∧ Vals vs args
  | [], args, h => by
    cases h
    exact ⟨[], rfl, .nil⟩
  | s :: r, args, h => by
    unfold picks at h
    cases e : pick us ws dd t s with
    | none => rw [e] at h; cases
                                 h
    | some u =>
      rw [e] at h
      obtain ⟨rest, h1, rfl⟩ := Option.map_eq_some_iff.mp h
      obtain ⟨vs, e2, rv⟩ := picks_vals r1 r2 r3 r4 h1
      have back : ∀ {as : List Value} {bs : List V} {i : Nat}, Vals bs as → as[i]? = some u → ∃ b, bs[i]? = some b ∧ RelV b u := by
        intro as bs i rr hi
        have hl : i < as.length := (List.getElem?_eq_some_iff.mp hi).1
        have hl2 : i < bs.length := by rw [rr.length]; exact hl
        obtain ⟨u', hu, ru⟩ := rr.get (List.getElem?_eq_getElem hl2)
        rw [hi] at hu
        cases hu
        exact ⟨_, List.getElem?_eq_getElem hl2, ru⟩
      obtain ⟨b, hb, rb⟩ : ∃ b, pick xs zs dv y s = some b ∧ RelV b u := by
        cases s with
        | pos i => exact back r1 e
        | kw i => exact back r2 e
        | dfl j v => exact back r3 e
        | rest i => cases e; exact ⟨y, rfl, r4⟩
      refine ⟨b :: vs, ?_, .cons rb rv⟩
      unfold picks
      rw [hb, e2]; rfl
def dflK (K : PySem.W.Frag) (dd : List V) : List Src → Bool
  | [] => true
  | .dfl j (.tup vs) :: r => (match dd[j]? with
    | some x => tupB K x vs
    | none => false) && dflK K dd r
  | _ :: r => dflK K dd r
theorem picks_rel {K : KZ} {w : Wd} {va ka : List Val} {xs zs dv : List V} {y : V} (r1 : RVs K w va xs) (r2 : RVs K w ka zs) : ∀ {tp : List Src} {args : List Val} {vs : List V}, dflOk dv tp = true → dflK K.K dv tp = true → (∀ i, Src.rest i ∈ tp → RV K w (.tup (va.drop i)) y) → srcs va ka tp = some args → picks xs zs dv y tp = some vs → RVs K w args vs
  | [], args, vs, hd, hk, hr, h1, h2 => by
    cases h1; cases h2; exact RVs.nil
  | s :: r, args, vs, hd, hk, hr, h1, h2 => by
    unfold picks at h2
    cases e : pick xs zs dv y s with
    | none => rw [e] at h2; cases
                                  h2
    | some x =>
      rw [e] at h2
      obtain ⟨vr, e2, rfl⟩ := Option.map_eq_some_iff.mp h2
      have hr' : ∀ i, Src.rest i ∈ r → RV K w (.tup (va.drop i)) y := fun i hi => hr i (List.mem_cons_of_mem _ hi)
      cases s with
      | pos i =>
        unfold srcs at h1
        split at h1
        · rename_i v ev
          obtain ⟨ar, e3, rfl⟩ := Option.map_eq_some_iff.mp h1
          obtain ⟨x', hx, rx⟩ := r1.get ev
          have e' : xs[i]? = some x := e
          rw [hx] at e'
          cases e'
          exact .cons rx (picks_rel (tp := r) r1 r2 (show dflOk dv r = true from hd) (show dflK K.K dv r = true from hk) hr' e3 e2)
        · cases h1
      | kw i =>
        unfold srcs at h1
        split at h1
        · rename_i v ev
          obtain ⟨ar, e3, rfl⟩ := Option.map_eq_some_iff.mp h1
          obtain ⟨x', hx, rx⟩ := r2.get ev
          have e' : zs[i]? = some x := e
          rw [hx] at e'
          cases e'
          exact .cons rx (picks_rel (tp := r) r1 r2 (show dflOk dv r = true from hd) (show dflK K.K dv r = true from hk) hr' e3 e2)
        · cases h1
      | dfl j v =>
        unfold srcs at h1
        obtain ⟨ar, e3, rfl⟩ := Option.map_eq_some_iff.mp h1
        unfold dflOk at hd
        rw [Bool.and_eq_true] at hd
        obtain ⟨hd1, hd2⟩ := hd
        have e' : dv[j]? = some x := e
        rw [e'] at hd1
        by_cases ht : isTp v = true
        · cases v with
          | tup us =>
            unfold dflK at hk
            rw [e', Bool.and_eq_true] at hk
            exact .cons (tupB_ok hk.1 w) (picks_rel (tp := r) r1 r2 hd2 hk.2 hr' e3 e2)
          | _ => cases ht
        · have hk2 : dflK K.K dv r = true := by
            cases v with
            | tup us => exact absurd rfl ht
            | _ => exact hk
          have ht2 : isTp v = false := by cases hh : isTp v with
            | false => rfl
            | true => exact absurd hh ht
          rw [ht2, Bool.false_or] at hd1
          replace hd1 : (match absD x with | some u => dflOk.sameV u v | none => false) = true := hd1
          cases e4 : absD x with
          | none => rw [e4] at hd1; cases hd1
          | some u =>
            rw [e4] at hd1
            have := sameV_eq hd1
            subst this
            exact .cons (absD_ok e4 w) (picks_rel (tp := r) r1 r2 hd2 hk2 hr' e3 e2)
      | rest i =>
        unfold srcs at h1
        split at h1
        · obtain ⟨ar, e3, rfl⟩ := Option.map_eq_some_iff.mp h1
          cases e
          exact .cons (hr i (by simp)) (picks_rel (tp := r) r1 r2 (show dflOk dv r = true from hd) (show dflK K.K dv r = true from hk) hr' e3 e2)
        · cases h1
def Asks {α : Type} (D : Addr) (r : Sem α) : List (Str × Value) → Sem α → Prop
  | [], t => t = r
  | p :: l, t => ∃ (β γ : Type) (f : Option Value → Sem β) (g : β → Sem γ) (h : γ → Sem α) (b : β), t = nsGet D p.1 >>= f >>= g >>= h ∧ f (some p.2) = pure b ∧ Asks D r l (g b >>= h)
theorem Asks.run {α : Type} {K : PySem.W.Frag} {M : Model} {A : Around} {D : Addr} {r : Sem α} {Q : α → Shared → Prop} {E : Value → Shared → Prop} {s : Shared} (X : K.In s.heap) (hr : wpAny M A r Q E s) : ∀ {l : List (Str × Value)} {t : Sem α}, (∀ q ∈ l, PySem.W.nsIn K D q.1 = some (some q.2)) → Asks D r l t → wpAny M A t Q E s
  | [], t, _, h => by cases (show t = r from h); exact hr
  | p :: l, t, hl, h => by
    obtain ⟨β, γ, f, g, hh, b, rfl, e1, e3⟩ := h
    have ih := Asks.run X hr (fun q hq => hl q (List.mem_cons_of_mem _ hq)) e3
    rw [bind_assoc]
    refine wpAny_bind (wpAny_bind ((PySem.W.looks_nsIn X (hl p (List.mem_cons_self ..))).here ?_))
    rw [e1]
    exact wpAny_pure ih
structure Shp where
  n : Nat
  kn : List Str
  tp : List Src
structure Sig where
  name : Str
  qual : Str
  params : Arguments
  scope : Scope
  ps : List Str
  dvs : List V
  kws : List (Str × V)
  star : Option Nat
def Sig.fd (g : Sig) (body : List Stmt) (dV kV doc pm : Value) (an : Option Addr) (cdv ct : Value) : FuncData := PySem.W.fnOf g.name g.qual g.params body g.scope dV kV doc pm an cdv ct
def lacks (g : Sig) (kn : List Str) : List (Str × V) := g.kws.filter fun q => !kn.contains q.1
def pars (g : Sig) (h : Shp) (us ws dd : List Value) (t : Value) : List (Str × Value) := g.ps.zip ((picks us ws dd t h.tp).getD [])
def ends (g : Sig) (h : Shp) (us ws dd : List Value) : Sem (List (Str × Value)) := match g.star with
  | none => pure (pars g h us ws dd .none)
  | some i => newTuple (us.drop i) >>= fun t => pure (pars g h us ws dd t)
def kwdV (g : Sig) (D : Addr) (kV : Value) : Value := if g.kws.isEmpty then kV else .ref D
def ShpOk (g : Sig) (h : Shp) : Prop :=
  ∀ (body : List Stmt) (T D : Addr) (kV doc pm : Value) (an : Option Addr) (cdv ct : Value) (us its mv ws : List Value), us.length = h.n → its.length = g.dvs.length → mv.length = (lacks g h.kn).length → ws.length = h.kn.length →
    (g.dvs = [] → Asks D (ends g h us ws (its ++ mv)) (((lacks g h.kn).map (·.1)).zip mv) (bindArgs (g.fd body .none (kwdV g D kV) doc pm an cdv ct) ⟨us, h.kn.zip ws⟩)) ∧
    (g.dvs ≠ [] → ∃ kk : Option (Array Value) → Sem (List (Str × Value)), bindArgs (g.fd body (.ref T) (kwdV g D kV) doc pm an cdv ct) ⟨us, h.kn.zip ws⟩ = (seqItems? (.ref T) >>= kk) ∧
      Asks D (ends g h us ws (its ++ mv)) (((lacks g h.kn).map (·.1)).zip mv) (kk (some its.toArray)))
def inB (n k d : Nat) : List Src → Bool
  | [] => true
  | .pos i :: r => decide (i < n) && inB n k d r
  | .kw i :: r => decide (i < k) && inB n k d r
  | .dfl j _ :: r => decide (j < d) && inB n k d r
  | .rest _ :: r => inB n k d r
theorem inB_some {α : Type} {us ws dd : List α} {t : α} : ∀ {tp : List Src}, inB us.length ws.length dd.length tp = true → ∃ args, picks us ws dd t tp = some args ∧ args.length = tp.length
  | [], _ => ⟨[], rfl, rfl⟩
  | s :: r, h => by
    have go : ∀ {v : α}, pick us ws dd t s = some v → inB us.length ws.length dd.length r = true → ∃ args, picks us ws dd t (s :: r) = some args ∧ args.length = (s :: r).length := by
      intro v hv hr
      obtain ⟨args, e, l⟩ := inB_some (t := t) hr
      refine ⟨v :: args, ?_, by simp [l]⟩
      unfold picks
      rw [hv, e]; rfl
    cases s with
    | pos i =>
      unfold inB at h
      rw [Bool.and_eq_true, decide_eq_true_eq] at
                                                  h
      exact go (List.getElem?_eq_getElem h.1) h.2
    | kw i =>
      unfold inB at h
      rw [Bool.and_eq_true, decide_eq_true_eq] at
                                                  h
      exact go (List.getElem?_eq_getElem h.1) h.2
    | dfl j v =>
      unfold inB at h
      rw [Bool.and_eq_true, decide_eq_true_eq] at
                                                  h
      exact go (List.getElem?_eq_getElem h.1) h.2
    | rest i => exact go rfl h
def shpB (g : Sig) (h : Shp) : Bool := inB h.n h.kn.length (g.dvs.length + (lacks g h.kn).length) h.tp && decide (h.tp.length = g.ps.length) && dflOk (g.dvs ++ (lacks g h.kn).map (·.2)) h.tp && decide (h.n ≤ 1000) && (match g.star with
  | none => noRest h.tp
  | some i => restAt i h.tp)
theorem noRest_no : ∀ {tp : List Src}, noRest tp = true → ∀ i, Src.rest i ∉ tp
  | [], _, _, h => by cases h
  | s :: r, h, i, hm => by
    rcases List.mem_cons.mp hm with e | hm2
    · subst e; cases h
    · cases s with
      | rest j => cases h
      | _ => exact noRest_no (tp := r) h i hm2
theorem restAt_of {k : Nat} : ∀ {tp : List Src}, restAt k tp = true → ∀ i, Src.rest i ∈ tp → i = k
  | [], _, _, h => by cases h
  | s :: r, h, i, hm => by
    rcases List.mem_cons.mp hm with e | hm2
    · subst e
      unfold restAt at h
      rw [Bool.and_eq_true, decide_eq_true_eq] at
                                                  h
      exact h.1
    · cases s with
      | rest j =>
        unfold restAt at h
        rw [Bool.and_eq_true] at h
        exact restAt_of h.2 i hm2
      | _ => exact restAt_of (tp := r) h i hm2
section
variable {P : Program} {w : World} {K : PySem.W.Frag} {mg : Str → Option Value} {base : Heap} {Bz : Zs}
def Gd (K : KZ) (h : Shp) (xs zs : List V) (H : Hp) : List V → Hp → Prop := fun vs H2 => ∀ wd st va ka args, RS K wd st H → RVs K wd va xs → RVs K wd ka zs → srcs va ka h.tp = some args → ∃ wd', Le wd wd' ∧ RS K wd' st H2 ∧ RVs K wd' args vs
theorem shp_bnd {g : Sig} {h : Shp} (so : ShpOk g h) (sb : shpB g h = true) (sd : dflK K (g.dvs ++ (lacks g h.kn).map (·.2)) h.tp = true) {body : List Stmt} {dV kV doc pm : Value} {an : Option Addr} {cdv ct : Value} (hD : DflV K dV g.dvs) (hK : KwdV K kV g.kws)
    {A : Around} {outer : List PySem.Env} {s : Shared} {H : Hp} {us ws : List Value} {xs zs : List V} {E : XK} (e0 : Env0 P w K mg base A outer s H) (rx : Vals xs us) (rz : Vals zs ws) (ln : us.length = h.n) (lk : ws.length = h.kn.length) :
    StX.Bnd (L2.CX P w) P w K mg base (g.fd body dV kV doc pm an cdv ct) ⟨us, h.kn.zip ws⟩ g.ps A outer s H E (Gd ⟨K, Bz⟩ h xs zs H) := by
  intro A' Ex Q hq
  have KX : K.In s.heap := e0.mod.kin.keeps fun b o e => (e0.bs b o
                                                                    e).1
  unfold shpB at sb
  simp only [Bool.and_eq_true, decide_eq_true_eq] at sb
  obtain ⟨⟨⟨⟨b1, b2⟩, b3⟩, b4⟩, b5⟩ := sb
  -- the keyword-only defaults
  obtain ⟨D, mv, hDk, hml, rmv, hks⟩ : ∃ (D : Addr) (mv : List Value), kV = kwdV g D kV ∧ mv.length = (lacks g h.kn).length ∧ Vals ((lacks g h.kn).map (·.2)) mv ∧ ∀ q ∈ ((lacks g h.kn).map (·.1)).zip mv, PySem.W.nsIn K D q.1 = some (some q.2) := by
    rcases hK with e | ⟨D, rfl, hq⟩
    · have e2 : lacks g h.kn = [] := by unfold lacks; rw [e]; rfl
      refine ⟨0, [], ?_, by rw [e2]; rfl, by rw [e2]; exact .nil, by rw [e2]; intro q hq; cases hq⟩
      unfold kwdV
      rw [e]; rfl
    · obtain ⟨mv, h1, h2, h3⟩ := kwd_vals (ms := lacks g h.kn) fun q hm => hq q (List.mem_filter.mp hm).1
      refine ⟨D, mv, ?_, h1, h2, h3⟩
      unfold kwdV
      split <;> rfl
  -- the defaults
  obtain ⟨its, hil, rit, hrun⟩ : ∃ (its : List Value), its.length = g.dvs.length ∧ Vals g.dvs its ∧ (wpAny (model P w) A' (ends g h us ws (its ++ mv)) Q Ex s → wpAny (model P w) A' (bindArgs (g.fd body dV kV doc pm an cdv ct) ⟨us, h.kn.zip ws⟩) Q Ex s) := by
    rcases hD with ⟨e, rfl⟩ | ⟨e, T, o, its, m, rfl, lT, oT, rT⟩
    · refine ⟨[], by rw [e]; rfl, by rw [e]; exact .nil, fun hh => ?_⟩
      have e2 := (so body 0 D kV doc pm an cdv ct us [] mv ws ln (by rw [e]; rfl) hml lk).1 e
      rw [← hDk] at e2
      exact Asks.run KX hh hks e2
    · refine ⟨its, rT.length.symm, rT, fun hh => ?_⟩
      obtain ⟨kk, e1, e2⟩ := (so body T D kV doc pm an cdv ct us its mv ws ln rT.length.symm hml lk).2 e
      rw [← hDk] at e1
      rw [e1]
      exact wpAny_bind (wpAny_seqItems (KX _ _ lT) oT (Asks.run KX hh hks e2))
  refine hrun ?_
  have rdd : Vals (g.dvs ++ (lacks g h.kn).map (·.2)) (its ++ mv) := rit.append rmv
  have hin : inB us.length ws.length (its ++ mv).length h.tp = true := by
    rw [ln, lk, List.length_append, hil, hml]; exact b1
  unfold ends
  cases hst : g.star with
  | none =>
    rw [hst] at b5
    obtain ⟨args, ea, la⟩ := inB_some (t := Value.none) hin
    obtain ⟨vs, ev, rv⟩ := picks_vals rx rz rdd (show RelV V.non Value.none from rfl) ea
    refine wpAny_pure ?_
    unfold pars
    rw [ea]
    refine hq s H vs args e0 (Un.kept fun _ _ e => e) rfl (fun _ _ z => z) rv (by rw [rv.length, la, b2]) ?_
    intro wd st va ka ar hS r1 r2 hs
    exact ⟨wd, Le.refl _, hS, picks_rel r1 r2 b3 sd (fun i hi => absurd hi (noRest_no b5 i)) hs ev⟩
  | some i =>
    rw [hst] at b5
    have hn : H s.heap.objs.size = none := e0.hok.fresh (Nat.le_refl
                                                                     _)
    have hz : (us.drop i).length ≤ sizeLine := by rw [List.length_drop, ln, sizeLine_eq]; omega
    refine wpAny_bind (wpAny_newTuple (wpAny_pure ?_) hz)
    obtain ⟨args, ea, la⟩ := inB_some (t := Value.ref s.heap.objs.size) hin
    obtain ⟨vs, ev, rv⟩ := picks_vals rx rz rdd (show RelV (V.ref s.heap.objs.size) (Value.ref s.heap.objs.size) from rfl) ea
    unfold pars
    rw [ea]
    have new : ObjOk P w (upd H s.heap.objs.size (.tup (xs.drop i))) (s.heap.push ({ cls := .type "tuple", data := .seq (us.drop i).toArray } : Obj)) s.heap.objs.size (.tup (xs.drop i)) := ⟨by rw [(rx.drop i).length]; exact hz, us.drop i, rx.drop i, ⟨_, Heap.get?_push_size _ rfl, rfl, _, rfl⟩⟩
    have un := StX.un_laid (fs := frs outer) (s := s) (o := ({ cls := .type "tuple", data := .seq (us.drop i).toArray } : Obj)) (u := .tup (xs.drop i)) hn
    refine hq _ _ vs args (StX.env0_laid e0 new) un rfl (fun e s' => StX.cxUp outer s H _ _ E e s' un (fun b o q => Heap.get?_push_of_some _ q) rfl) rv (by rw [rv.length, la, b2]) ?_
    intro wd st va ka ar hS r1 r2 hs
    have le := RS.freeze_le (o := HO.tup (xs.drop i)) hS hn
    refine ⟨_, le, RS.freeze hS hn, picks_rel (RVs.mono le _ r1) (RVs.mono le _ r2) b3 sd (fun j hj => ?_) hs ev⟩
    have ej := restAt_of b5 j hj
    subst ej
    exact ⟨_, xs.drop j, rfl, .inl (.inl upd_same), by rw [List.length_drop, r1.length, rx.length, ln, sizeLine_eq]; omega, (RVs.mono le _ r1).drop j⟩
end
end Mp
end
section
set_option Elab.async false
set_option linter.all false
set_option maxRecDepth 100000
set_option maxHeartbeats
                         1000000
namespace Mp
open PySem L2 PySem.Spec PyProof.Rows
section
variable {P : Prog} {fa : Str → Addr} {prog : Program} {w : World} {K : PySem.W.Frag} {mg : Str → Option Value} {base : Heap} {d k : Nat} {Bz : Zs}
theorem cx_ok {Φ : Cal} (L : Link P Φ fa prog w K mg base k Bz) {N ps : List Str} {qual : Str} {scope : Scope} {f : Addr} {cdv : Value} {A : Around} {outer : List PySem.Env} {s : Shared} {H : Hp} {E : XK} (S : FnScope N ps scope) (hr : Room (k + 2) (A.deeper (envOfC qual scope s.heap.objs.size f cdv))) :
    OkX P Φ fa k N ⟨scope, true, false⟩ (fun c d _ H => E c d H) (cxOf (L2.CX prog w) prog w K mg base N qual scope f cdv A outer s H E) Bz := by
  refine ⟨⟨rfl, rfl, S.nd, fun _ _ => rfl, rfl, ?_, ?_, hr, L⟩, fun z => nomatch z⟩
  · exact takes_of (X := cxOf (L2.CX prog w) prog w K mg base N qual scope f cdv A outer s H E) rfl rfl rfl rfl
  · exact passes_of (X := cxOf (L2.CX prog w) prog w K mg base N qual scope f cdv A outer s H E) rfl
theorem re_start {K : KZ} {wd : Wd} {args : List Val} {vs : List V} {N : List Str} {n : Nat} (r : RVs K wd args vs) (hn : n = N.length) : RE K wd (args.map some ++ List.replicate (n - args.length) none) (L2.start N vs) := by
  subst hn
  have hl := r.length
  refine ⟨by unfold L2.start; simp [hl], fun i v e => ?_⟩
  by_cases hi : i < args.length
  · rw [List.getElem?_append_left (by simpa using hi), List.getElem?_map] at e
    cases e1 : args[i]? with
    | none => rw [e1] at e; cases e
    | some u =>
      rw [e1] at e
      have e' : u = v := by simpa using e
      subst e'
      obtain ⟨x, hx, rx⟩ := r.get e1
      refine ⟨x, ?_, rx⟩
      unfold L2.start
      rw [List.getElem?_append_left (by rw [List.length_map, ← hl]; exact hi), List.getElem?_map, hx]; rfl
  · rw [List.getElem?_append_right (by simpa using hi), List.getElem?_replicate] at e
    split at e <;> cases e
theorem call_body (L : Link P (call P d) fa prog w K mg base k Bz) {g : Sig} {N : List Str} {nm : Str} {F : MFun} {body : List Stmt} {fd : FuncData} (hF : P.fn nm = some F) (FD : FunD K g.name g.qual g.params body g.scope g.dvs g.kws (fa nm) fd)
    (S : FnScope N g.ps g.scope) (hns : F.ns = N.length) (hck : ckSs P N F.body ⟨g.scope, true, false⟩ body = true) {h : Shp} (so : ShpOk g h) (sb : shpB g h = true) (sd : dflK K (g.dvs ++ (lacks g h.kn).map (·.2)) h.tp = true) : CallOk prog w K mg base (k + 3) (fa nm) h.n h.kn (spS ⟨K, Bz⟩ (call P (d + 1)) nm h.n h.kn h.tp) := by
  obtain ⟨oc, od, dV, kV, doc, pm, an, cdv, ct, osl, rfl, lk, hcd, hD, hK⟩ := FD.ex
  intro A outer s H us ws xs zs Q E hr e0 rx rz hsp
  obtain ⟨wd, st, va, ka, args, hS, rv, rk, ln, lkn, hsrc, hpost⟩ := hsp
  have ln' : us.length = h.n := by rw [← rx.length, ← rv.length]; exact ln
  have lk' : ws.length = h.kn.length := by rw [← rz.length, ← rk.length]; exact lkn
  refine StX.run_bnd lk hcd S hr e0 (shp_bnd (Bz := Bz) so sb sd hD hK e0 rx rz ln' lk') fun s2 H2 vs hg hr' => ?_
  obtain ⟨wd', le, hS', ra⟩ := hg wd st va ka args hS rv rk hsrc
  refine ⟨_, sndSs F.body _ _ _ _ (cx_ok L S hr') body hck, wd', args.map some ++ List.replicate (F.ns - args.length) none, st, re_start ra hns, hS', ?_⟩
  have hp := Post.mono le hpost
  have e1 : call P (d + 1) nm args st = runF P (call P d) F args st := by
    show (match P.fn nm with | some F => runF P (call P d) F args st | none => .stuck) = _
    rw [hF]
  rw [e1] at hp
  unfold runF at hp
  split at hp
  · refine (hp.seq.imp fun w3 f st3 H3 l3 s3 h3 => ?_).impB fun c d H q σ => q
    cases f with
    | next env => exact fun σ' _ => h3 w3 H3 (Le.refl _) s3 _ rfl
    | ret v => exact fun x r => h3 w3 H3 (Le.refl _) s3 x r
    | brk env => exact h3.elim
    | cont env => exact h3.elim
  · exact hp.elim
structure LinkS (P : Prog) (fa : Str → Addr) (prog : Program) (K : PySem.W.Frag) (mg : Str → Option Value) (Bz : Zs) : Prop where
  kp : ∀ f n kn tp, P.bind f n kn = some tp → PySem.W.keepIn K (.ref (fa f)) = true
  pb : ∀ c f g, P.prop c f = some g → P.bind g 1 [] = some [.pos 0]
  gf : ∀ f, P.isg f = true → mg f = some (.ref (fa f))
  gc : ∀ c, P.isc c = true → mg c = some (.ref (cA K c)) ∧ PySem.W.keepIn K (.ref (cA K c)) = true ∧ bty c = none
  cl : ∀ c, P.isc c = true → Cls K (cA K c)
  mkC : ∀ c g, P.meth c "__init__" = some g → P.isc c = true → PySem.W.makesIn K (cA K c) = true ∧ PySem.W.findIn K (.ref (cA K c)) "__init__" = some (some (.ref (fa g))) ∧ PySem.W.isFn K (.ref (fa g)) = true
  me : ∀ c m g, P.meth c m = some g → P.isc c = true → Meth K (cA K c) m (fa g)
  pr : ∀ c f g, P.prop c f = some g → ∃ p, PropOf K (cA K c) f p (fa g)
  co : ∀ c f v, P.con c f = some v → ∃ x u, Con K (cA K c) f x u ∧ ∀ w, RV ⟨K, Bz⟩ w v x
  na : ∀ c f, P.fl c f = true → NoAttr K (cA K c) f
  ty : ∀ c, P.isc c = true → InsTy K (cA K c)
  isa : ∀ n t b, P.sub n t = some b → PySem.W.kitOne K (tyVal K n) (tyVal K t) = some b
  gl : ∀ x v, P.glob x = some v → ∃ y u, mg x = some u ∧ RelV y u ∧ ∀ w, RV ⟨K, Bz⟩ w v y
  bi : ∀ f ∈ biNames, mg (Str.ofString f) = none
  ne : ∀ c g, P.meth c "__eq__" = some g → P.isc c = true → PySem.W.findIn K (.ref (cA K c)) "__ne__" = some (some (.builtin "object.__ne__"))
  cb : ∀ n t b, P.sub n t = some b → bty n ≠ none ∨ P.isc n = true
  ex : ∀ c fs, P.exc c = some fs → ErrD prog K mg c fs
  xs : ∀ c t b, P.xsub c t = some b → PySem.W.kitOne K (.ref (cA K c)) (.ref (cA K t)) = some b
  gk : P.gots = true → GotD prog K mg
  ga : P.alls = true → AllD K mg
  st : ∀ c a f, P.stat c a = some f → P.isc c = true → StatOf K (cA K c) a (fa f)
theorem LinkS.link {Φ : Cal} (S : LinkS P fa prog K mg Bz) (h : ∀ f n kn tp, P.bind f n kn = some tp → CallOk prog w K mg base k (fa f) n kn (spS ⟨K, Bz⟩ Φ f n kn tp)) : Link P Φ fa prog w K mg base k Bz where
  fn f n kn tp e := ⟨h f n kn tp e, S.kp f n kn tp e⟩
  pf c f g e := h g 1 [] [.pos 0] (S.pb c f g e)
  gf := S.gf
  gc := S.gc
  cl := S.cl
  mkC := S.mkC
  me := S.me
  pr := S.pr
  co := S.co
  na := S.na
  ty := S.ty
  isa := S.isa
  gl := S.gl
  bi := S.bi
  ne := S.ne
  cb := S.cb
  ex := S.ex
  xs := S.xs
  gk := S.gk
  ga := S.ga
  st := S.st
theorem links (S : LinkS P fa prog K mg Bz) (B : ∀ d k, Link P (call P d) fa prog w K mg base k Bz → ∀ f n kn tp, P.bind f n kn = some tp → CallOk prog w K mg base (k + 3) (fa f) n kn (spS ⟨K, Bz⟩ (call P (d + 1)) f n kn tp)) : ∀ d, Link P (call P d) fa prog w K mg base (3 * d) Bz
  | 0 => S.link fun f n kn tp e A outer s H us ws xs zs Q E hr e0 rx rz hsp => by
    obtain ⟨wd, st, va, ka, args, hS, rv, rk, ln, lkn, hsrc, hpost⟩ := hsp
    exact hpost.elim
  | d + 1 => S.link fun f n kn tp e => B d (3 * d) (links S B d) f n kn tp e
end
end Mp
end
section
set_option Elab.async false
set_option linter.all false
set_option maxRecDepth 100000
set_option maxHeartbeats
                         1000000
namespace Mp
open PySem L2 PySem.Spec PyProof.Rows
inductive At where
  | glo (x : Str)
  | meth (c m : Str)
  | prop (c f : Str)
  | stat (c a : Str)
def propAt (K : PySem.W.Frag) (c f : Str) : Addr := match PySem.W.findIn K (.ref (He.ga K c)) f with
  | some (some (.ref p)) => p
  | _ => 0
def getAt (K : PySem.W.Frag) (c f : Str) : Addr := match PySem.W.recIn K (propAt K c f) "property" with
  | some (.ref g :: _) => g
  | _ => 0
def statAt (K : PySem.W.Frag) (C : Addr) (a : Str) : Addr × Addr := match PySem.W.findCls K (.ref C) (.type "type") a with
  | some (.get _ (.ref p) _ _) => (p, match PySem.W.recIn K p "staticmethod" with
    | some (.ref g :: _) => g
    | _ => 0)
  | _ => (0, 0)
def At.addr (K : PySem.W.Frag) : At → Addr
  | .glo x => He.ga K x
  | .meth c m => He.ma K (He.ga K c) m
  | .prop c f => getAt K c f
  | .stat c a => (statAt K (He.ga K c) a).2
def kwAt (K : PySem.W.Frag) (a : At) : Addr := match K.lookup (a.addr K) with
  | some o => (match o.data
                            with
    | .func z => (match z.kwdefaults with
      | .ref D => D
      | _ => 0)
    | _ => 0)
  | none => 0
structure Row where
  nm : Str
  at_ : At
  name : Str
  qual : Str
  params : Arguments
  body : List Stmt
  scope : Scope
  dfl : List He.Dv
  kwd : List (Str × He.Dv)
  ps : List Str
  star : Option Nat
  N : List Str
  ms : List MS
def Row.sg (K : PySem.W.Frag) (r : Row) : Sig := ⟨r.name, r.qual, r.params, r.scope, r.ps, r.dfl.map (He.Dv.v K), r.kwd.map fun q => (q.1, q.2.v K), r.star⟩
structure Tab where
  rows : List Row
  gfn : List Str
  cls : List Str
  meths : List ((Str × Str) × Str)
  props : List ((Str × Str) × Str)
  cons : List ((Str × Str) × Val)
  fls : List (Str × Str)
  globs : List (Str × Val)
  subs : List ((Str × Str) × Bool)
  shapes : List (Str × Shp)
  fuel : Nat
  excs : List (Str × List Str) := []
  xsubs : List ((Str × Str) × Bool) := []
  gots : Bool := false
  alls : Bool := false
  lams : List ME := []
  file : Str := Str.empty
  stats : List ((Str × Str) × Str) := []
def Tab.row (T : Tab) (nm : Str) : Option Row := T.rows.find? fun r => r.nm == nm
def Tab.fa (T : Tab) (K : PySem.W.Frag) (nm : Str) : Addr := match T.row nm with
  | some r => r.at_.addr K
  | none => 0
def Tab.shp (T : Tab) (f : Str) (n : Nat) (kn : List Str) : Option (Str × Shp) := T.shapes.find? fun s => s.1 == f && (s.2.n == n && s.2.kn == kn)
def lamOwnB (N : List Str) (sc scope : Scope) (pa : Option Str) : Bool := decide (scope.kind = .function) && !scope.isCoroutine && !scope.isGenerator && scope.names.all (fun y => !decide (y.2 = .cell) && (!decide (y.2 = .local) || decide (pa = some y.1)) && (!decide (y.2 = .free) || decide (sc.names.lookup y.1 = some .cell) || decide (sc.names.lookup y.1 = some .free))) &&
  (match pa with
    | none => true
    | some a => decide (scope.names.lookup a = some .local) && !decide (a ∈ N))
theorem lamOwn_by {N : List Str} {sc scope : Scope} {pa : Option Str} (h : lamOwnB N sc scope pa = true) : LamOwn N sc scope pa := by
  unfold lamOwnB at h
  simp only [Bool.and_eq_true, Bool.or_eq_true, Bool.not_eq_true', decide_eq_true_eq, decide_eq_false_iff_not, List.all_eq_true] at
                                                                                                                                    h
  obtain ⟨⟨⟨⟨h1, h2⟩, h3⟩, h4⟩, h5⟩ := h
  refine ⟨h1, h2, h3, fun y hy => ⟨(h4 y hy).1.1, fun e => ?_⟩, fun a e => ?_, fun y hy e => ?_⟩
  · rcases (h4 y hy).1.2 with z | z
    · exact absurd e z
    · exact z
  · subst e
    simp only [Bool.and_eq_true, Bool.not_eq_true', decide_eq_true_eq, decide_eq_false_iff_not] at h5
    exact h5
  · rcases (h4 y hy).2 with (z | z) | z
    · exact absurd e z
    · exact .inl z
    · exact .inr z
def Prog.bare (P : Prog) : Prog := { P with gots := false, alls := false, lam := fun _ _ _ _ => .stuck, lck := fun _ _ _ _ => false }
def Tab.prog0 (T : Tab) : Prog where
  fn nm := (T.row nm).map fun r => ⟨r.ps.length, r.N.length, r.ms⟩
  glob x := T.globs.lookup x
  meth c m := T.meths.lookup (c, m)
  prop c f := T.props.lookup (c, f)
  con c f := T.cons.lookup (c, f)
  stat c a := T.stats.lookup (c, a)
  bind f n kn := (T.shp f n kn).map (·.2.tp)
  sub a b := T.subs.lookup (a, b)
  fl c f := T.fls.contains (c, f)
  isg f := T.gfn.contains f
  isc c := T.cls.contains c
  fuel := T.fuel
  exc c := T.excs.lookup c
  xsub c t := T.xsubs.lookup (c, t)
  gots := false
  alls := false
  lam _ _ _ _ := .stuck
  lck _ _ _ _ := false
def Tab.lamE (T : Tab) (Φ : Cal) (i : Nat) (env : Env) (st : Store) : R Val := match T.lams[i]? with
  | some m => evalE T.prog0 Φ m env st
  | none => .stuck
def Tab.lamB (T : Tab) (i : Nat) (params : Arguments) (body : Expr) (scope : Scope) : Bool := match T.lams[i]?, T.row "law", lamP params with
  | some m, some r, some pa => lamOwnB r.N r.scope scope pa && ck T.prog0 r.N m false ⟨scope, false, false⟩ body
  | _, _, _ => false
def Tab.prog (T : Tab) : Prog := { T.prog0 with gots := T.gots, alls := T.alls, lam := T.lamE, lck := T.lamB }
def fnAt (K : PySem.W.Frag) (a : Addr) : He.FnW := match K.lookup a with
  | some o => (match o.data
                            with
    | .func z => some (z.name, z.qualname, z.params, z.body, z.scope, z.globals, z.closure, z.builtins)
    | _ => none)
  | none => none
def Row.val (r : Row) : He.FnW := some (r.name, r.qual, r.params, .stmts r.body, r.scope, mainGlobals, [], builtinsNs)
def Row.ok (K : PySem.W.Frag) (r : Row) : Bool := PySem.W.keepIn K (.ref (r.at_.addr K)) && match K.lookup (r.at_.addr K) with
  | some o => (match o.data
                            with
    | .func z => He.dflB K z.defaults (r.sg K).dvs && (He.kwdB K z.kwdefaults (r.sg K).kws && PySem.W.codeIn K z.code r.qual)
    | _ => false)
  | none => false
theorem Row.funD {K : PySem.W.Frag} {r : Row} (e : fnAt K (r.at_.addr K) = r.val) (c : r.ok K = true) : ∃ fd, FunD K (r.sg K).name (r.sg K).qual (r.sg K).params r.body (r.sg K).scope (r.sg K).dvs (r.sg K).kws (r.at_.addr K) fd := by
  unfold Row.ok at c
  rw [Bool.and_eq_true] at c
  obtain ⟨kp, c2⟩ := c
  unfold fnAt at e
  cases q : K.lookup (r.at_.addr K) with
  | none => rw [q] at c2; cases c2
  | some o =>
    obtain ⟨oc, od, dt, osl⟩ := o
    rw [q] at c2 e
    cases dt with
    | func z =>
      obtain ⟨z1, z2, z3, z4, z5, z6, z7, z8, z9, z10, z11, z12, z13, z14, z15⟩ := z
      have e2 : (some (z1, z2, z3, z4, z5, z6, z7, z15) : He.FnW) = some (r.name, r.qual, r.params, .stmts r.body, r.scope, mainGlobals, [], builtinsNs) := e
      injection e2 with e3
      simp only [Prod.mk.injEq] at e3
      obtain ⟨rfl, rfl, rfl, rfl, rfl, rfl, rfl, rfl⟩ := e3
      simp only [Bool.and_eq_true] at c2
      exact ⟨_, ⟨oc, od, z8, z9, z10, z11, z12, z13, z14, osl, rfl, q, c2.2.2, He.dflB_ok c2.1, He.kwdB_ok c2.2.1⟩, kp⟩
    | _ => cases c2
def globB (K : PySem.W.Frag) (x : Str) (v : Val) : Bool := match PySem.W.nsIn K mainGlobals x with
  | some (some u) => (match v with
    | .tup vs => (match u, flatWs vs with
      | .ref a, some xs => (match K.lookup a with
        | some o => decide (o.cls = .type "tuple") && (match o.data with
          | .seq its _ => decide (its.size ≤ sizeLine) && (decide (vs.length ≤ 1000) && He.relAll xs its.toList)
          | _ => false)
        | none => false)
      | _, _ => false)
    | v => (match flatW v with
      | some y => He.relB y u
      | none => false))
  | _ => false
theorem globB_ok {K : PySem.W.Frag} {Bz : Zs} {h : Heap} {mg : Str → Option Value} (X : K.In h) (G : h.Ns mainGlobals mg) {x : Str} {v : Val} (c : globB K x v = true) : ∃ y u, mg x = some u ∧ RelV y u ∧ ∀ w, RV ⟨K, Bz⟩ w v y := by
  unfold globB at c
  split at c
  · rename_i u e
    have hm := PySem.W.mg_of X G e
    split at c
    · rename_i vs
      split at c
      · rename_i a xs e2
        split at c
        · rename_i o eo
          rw [Bool.and_eq_true, decide_eq_true_eq] at c
          obtain ⟨c1, c2⟩ := c
          split at c2
          · rename_i its n ed
            simp only [Bool.and_eq_true, decide_eq_true_eq] at c2
            exact ⟨.ref a, .ref a, hm, rfl, fun w => ⟨a, xs, rfl, .inr ⟨o, its, n, eo, c1, ed, c2.1, He.relAll_ok c2.2.2⟩, Nat.le_trans c2.2.1 (by rw [sizeLine_eq]; omega), flatWs_ok w e2⟩⟩
          · cases c2
        · cases c
      · cases c
    · rename_i hv
      split at c
      · rename_i y ey
        exact ⟨y, u, hm, He.relB_ok c, fun w => flatW_ok ey w⟩
      · cases c
  · cases c
def conB (K : PySem.W.Frag) (c f : Str) (v : Val) : Bool := match PySem.W.findIn K (.ref (He.ga K c)) f with
  | some (some u) => (match flatW v with
    | some y => He.relB y u && (He.eqO (some (PySem.W.specialIn K u "__get__" |>.getD (some u))) (some none) && ((PySem.W.specialIn K u "__get__").isSome && !PySem.W.copiedNames.contains f))
    | none => false)
  | _ => false
theorem conB_ok {K : PySem.W.Frag} {Bz : Zs} {c f : Str} {v : Val} (h : conB K c f v = true) : ∃ x u, Con K (He.ga K c) f x u ∧ ∀ w, RV ⟨K, Bz⟩ w v x := by
  unfold conB at h
  split at h
  · rename_i u e
    split at h
    · rename_i y ey
      simp only [Bool.and_eq_true, Bool.not_eq_true'] at
                                                         h
      obtain ⟨h1, h2, h3, h4⟩ := h
      have h5 := He.eqO_ok h2
      obtain ⟨z, hz⟩ := Option.isSome_iff_exists.mp h3
      rw [hz] at h5
      have h6 : z = none := Option.some.inj h5
      subst h6
      exact ⟨y, u, ⟨e, He.relB_ok h1, hz, h4⟩, fun w => flatW_ok ey w⟩
    · cases h
  · cases h
def clsB (K : PySem.W.Frag) (c : Str) : Bool := (He.Fa.cls c).ok K && ((He.Fa.glo c).ok K && ((He.Fa.keep c).ok K &&
  (He.eqO (PySem.W.findIn K (.ref (He.ga K c)) "__class__") (some (some (.builtin "object.__class__"))) && (He.eqO (PySem.W.specialIn K (.builtin "object.__class__") "__get__") (some (some (.builtin "getset_descriptor.__get__"))) &&
    (decide (PySem.W.takesIn K (.builtin "object.__class__") = some true) && decide (PySem.W.mroIn K (He.ga K c) (.type "object") = some true))))))
theorem clsB_ok {K : PySem.W.Frag} {h : Heap} {mg : Str → Option Value} (X : K.In h) (G : h.Ns mainGlobals mg) {c : Str} (hb : clsB K c = true) : Cls K (cA K c) ∧ mg c = some (.ref (cA K c)) ∧ PySem.W.keepIn K (.ref (cA K c)) = true ∧ InsTy K (cA K c) := by
  unfold clsB at hb
  simp only [Bool.and_eq_true] at hb
  obtain ⟨h1, h2, h3, h4, h5, h6, h7⟩ := hb
  exact ⟨He.cls_ok h1, He.glo_ok X G h2, He.keep_ok h3, He.eqO_ok h4, He.eqO_ok h5, of_decide_eq_true h6, of_decide_eq_true h7⟩
def methB (T : Tab) (K : PySem.W.Frag) (c m g : Str) : Bool := He.eqO (PySem.W.findIn K (.ref (He.ga K c)) m) (some (some (.ref (T.fa K g)))) && (PySem.W.isFn K (.ref (T.fa K g)) && (PySem.W.keepIn K (.ref (T.fa K g)) && ((!(m == ("__init__" : Str)) || PySem.W.makesIn K (He.ga K c)) && (!(m == ("__eq__" : Str)) || He.eqO (PySem.W.findIn K (.ref (He.ga K c)) "__ne__") (some (some (.builtin "object.__ne__")))))))
def propB (T : Tab) (K : PySem.W.Frag) (c f g : Str) : Bool := He.eqO (PySem.W.findIn K (.ref (He.ga K c)) f) (some (some (.ref (propAt K c f)))) && (He.eqO (PySem.W.specialIn K (.ref (propAt K c f)) "__get__") (some (some (.builtin "property.__get__"))) &&
  (decide (PySem.W.takesIn K (.ref (propAt K c f)) = some true) && (match PySem.W.recIn K (propAt K c f) "property" with
    | some (v :: _) => decide (v = .ref (T.fa K g))
    | _ => false)))
def basesX : List (String × String × String × List Value) := [("ValueError", "ValueError.__new__", "ValueError.__init__", [.type "ValueError", .type "Exception", .type "BaseException", .type "object"]), ("IndexError", "IndexError.__new__", "IndexError.__init__", [.type "IndexError", .type "LookupError", .type "Exception", .type "BaseException", .type "object"]), ("LookupError", "LookupError.__new__", "LookupError.__init__", [.type "LookupError", .type "Exception", .type "BaseException", .type "object"])]
theorem basesX_ok : ∀ b ∈ basesX, BaseX b.1 b.2.1 b.2.2.1 b.2.2.2 := by
  intro b hb
  simp only [basesX, List.mem_cons, List.not_mem_nil, or_false] at hb
  rcases hb with rfl | rfl |
                             rfl
  · exact baseX_VE
  · exact baseX_IE
  · exact baseX_LE
def oexB (K : PySem.W.Frag) (C : Addr) (newId : String) (bmB : List Value) : Bool := (match K.lookup C with
    | some ⟨.type "type", _, .cls cd, sl⟩ => (match cd.mro, sl.toList
                                                                      with
      | .ref C' :: bm, [_, _, _, _, some (.builtin n), _] => decide (C' = C) && decide (n = newId) && !cd.hasDel && cd.hasDict && refsT bmB bm
      | _, _ => false)
    | _ => false) && He.eqO (PySem.W.findIn K (.ref C) "__setattr__") (some (some (.builtin "object.__setattr__"))) && decide (PySem.W.subIn K (.ref C) (.type "BaseException") = some true) && decide (PySem.W.typeIn K (.ref C) = some (.type "type")) && PySem.W.keepIn K (.ref C)
theorem oexB_ok {K : PySem.W.Frag} {C : Addr} {newId : String} {bmB : List Value} (h : oexB K C newId bmB = true) : OexG K C newId bmB := by
  unfold oexB at h
  simp only [Bool.and_eq_true, decide_eq_true_eq] at
                                                     h
  obtain ⟨⟨⟨⟨h1, h2⟩, h3⟩, h4⟩, h5⟩ := h
  refine ⟨?_, He.eqO_ok h2, h3, h4, h5⟩
  split at h1
  · rename_i dd cd sl ho
    split at h1
    · rename_i C' bm k0 k1 k2 k3 n k5 hm
                                         hs
      simp only [Bool.and_eq_true, Bool.not_eq_true', decide_eq_true_eq] at h1
      obtain ⟨⟨⟨⟨rfl, rfl⟩, hdel⟩, hdict⟩, hb⟩ := h1
      obtain ⟨nm, bs, mro, ns, qn, hd, sn, sub, ab, col, del⟩ :=
                                                                 cd
      dsimp only at hm hdel hdict
      subst hm hdel hdict
      have hsl : sl = #[k0, k1, k2, k3, some (.builtin n), k5] :=
                                                                  by
        obtain ⟨l⟩ := sl
        simp only at hs
        rw [hs]
      subst hsl
      exact ⟨nm, qn, ns, bs, bm, sn, sub, ab, col, dd, k0, k1, k2, k3, k5, ho, hb⟩
    · cases h1
  · cases h1
def initTB (c : Str) : List Str → List Str → List Stmt → Bool
  | [], [sf], [.Expr (.Call (.Attribute (.Call (.Name s0 _) [] [] _) i0 p2) [.Constant (.str _) _ _] [] p4) _, .Assign [.Attribute (.Name s1 _) f1 _] (.Constant (.str c1) _ _) _] =>
    decide (s0 = "super") && decide (i0 = "__init__") && decide (s1 = sf) && decide (f1 = "code") && decide (c1 = c) && (p2.endLine == p4.line) && !(sf == ("__debug__" : Str)) && !(sf == ("__classdict__" : Str))
  | [f], [sf, par], [.Expr (.Call (.Attribute (.Call (.Name s0 _) [] [] _) i0 p2) [.Constant (.str _) _ _] [] p4) _, .Assign [.Attribute (.Name s1 _) f1 _] (.Constant (.str c1) _ _) _, .Assign [.Attribute (.Name s2 _) f2 _] (.Name v2 _) _] =>
    decide (s0 = "super") && decide (i0 = "__init__") && decide (s1 = sf) && decide (f1 = "code") && decide (c1 = c) && (p2.endLine == p4.line) && !(sf == ("__debug__" : Str)) && !(sf == ("__classdict__" : Str)) && decide (s2 = sf) && decide (f2 = f) && decide (v2 = par) && !(par == ("__debug__" : Str)) && !(par == ("__classdict__" : Str)) && decide (sf ≠ par)
  | _, _, _ => false
theorem initTB_ok {c : Str} {fs ps : List Str} {body : List Stmt} (h : initTB c fs ps body = true) : InitT c fs ps body := by
  unfold initTB at h
  split at h
  · simp only [Bool.and_eq_true, Bool.not_eq_true', decide_eq_true_eq] at h
    obtain ⟨⟨⟨⟨⟨⟨⟨rfl, rfl⟩, rfl⟩, rfl⟩, rfl⟩, h1⟩, h2⟩, h3⟩ := h
    exact .none h1 h2 h3
  · simp only [Bool.and_eq_true, Bool.not_eq_true', decide_eq_true_eq] at h
    obtain ⟨⟨⟨⟨⟨⟨⟨⟨⟨⟨⟨⟨⟨rfl, rfl⟩, rfl⟩, rfl⟩, rfl⟩, h1⟩, h2⟩, h3⟩, rfl⟩, rfl⟩, rfl⟩, h4⟩, h5⟩, h6⟩ := h
    exact .one h1 h2 h3 h4 h5 h6
  · cases h
def barePs (p : Arguments) : Option (List Str) := match p with
  | { posonlyargs := [], args := as, vararg := none, kwonlyargs := [], kw_defaults := [], kwarg := none, defaults := [] } => some (as.map (·.arg))
  | _ => none
def fnO (K : PySem.W.Frag) (f : Addr) : Option FuncData := match K.lookup f with
  | some o => (match o.data
                            with
    | .func fd => some fd
    | _ => none)
  | none => none
theorem fnO_ok {K : PySem.W.Frag} {f : Addr} {fd : FuncData} (h : fnO K f = some fd) : ∃ oc od osl, K.lookup f = some ⟨oc, od, .func fd, osl⟩ := by
  unfold fnO at h
  split at h
  · rename_i o e
    obtain ⟨oc, od, dt, osl⟩ := o
    split at h
    · rename_i fd' ed
      cases h
      simp only at ed
      subst ed
      exact ⟨oc, od, osl, e⟩
    · cases h
  · cases h
def cellIn (K : PySem.W.Frag) (c : Addr) : Option Value := match K.lookup c with
  | some o => (match o.data
                            with
    | .cell (some v) => some v
    | _ => none)
  | none => none
theorem cellIn_ok {K : PySem.W.Frag} {c : Addr} {v : Value} (h : cellIn K c = some v) : ∃ cl cld csl, K.lookup c = some ⟨cl, cld, .cell (some v), csl⟩ := by
  unfold cellIn at h
  split at h
  · rename_i o e
    obtain ⟨oc, od, dt, osl⟩ := o
    split at h
    · rename_i v' ed
      cases h
      simp only at ed
      subst ed
      exact ⟨oc, od, osl, e⟩
    · cases h
  · cases h
def fieldsIn (K : PySem.W.Frag) (c : Addr) : Option (Array Value) := match K.lookup c with
  | some o => (match o.data
                            with
    | .fields vs => some vs
    | _ => none)
  | none => none
theorem fieldsIn_ok {K : PySem.W.Frag} {c : Addr} {v : Array Value} (h : fieldsIn K c = some v) : ∃ cl cld csl, K.lookup c = some ⟨cl, cld, .fields v, csl⟩ := by
  unfold fieldsIn at h
  split at h
  · rename_i o e
    obtain ⟨oc, od, dt, osl⟩ := o
    split at h
    · rename_i v' ed
      cases h
      simp only at ed
      subst ed
      exact ⟨oc, od, osl, e⟩
    · cases h
  · cases h
def initSB (scope : Scope) (ps : List Str) : Bool := decide (scope.kind = .function) && !scope.isCoroutine && !scope.isGenerator && scope.names.all (fun x => !decide (x.2 = .cell) && (!decide (x.2 = .free) || decide (x.1 = "__class__"))) && ps.all (fun x => decide (scope.names.lookup x = some .local)) &&
  decide (scope.names.lookup ("__class__" : Str) = some .free) && decide (scope.names.lookup ("super" : Str) = some .globalImplicit)
def initFB (file : Str) (K : PySem.W.Frag) (C : Addr) (initId : String) (c : Str) (fs : List Str) : Bool := match PySem.W.findIn K (.ref C) "__init__" with
  | some (some (.ref f)) => (match fnO K f with
    | some fd => (match fd.body, barePs fd.params, fd.closure, fd.code with
      | .stmts body, some ps, [(cn, cc)], .ref cda => decide (cn = "__class__") && initTB c fs ps body && initSB fd.scope ps && decide (fd.globals = mainGlobals) && decide (fd.builtins = builtinsNs) && decide (fd.defaults = .none) && decide (cellIn K cc = some (.ref C)) && PySem.W.codeIn K fd.code fd.qualname &&
        (match fieldsIn K cda with
          | some vs => (match vs[2]? with
            | some (Value.str y _) => file == y
            | _ => false)
          | none => false) && He.eqO (PySem.W.nsIn K mainGlobals "super") (some none) && He.eqO (PySem.W.nsIn K cStatics "thirdparty.any") (some none) && decide (PySem.W.mroIn K C (.ref C) = some true) && He.eqO (PySem.W.ks_superIn K C C "__init__") (some (some (.builtin initId))) && decide (PySem.W.typeIn K (.ref f) = some (.type "function"))
      | _, _, _, _ => false)
    | none => false)
  | _ => false
def exB (file : Str) (K : PySem.W.Frag) (c : Str) (fs : List Str) : Bool :=
  (basesX.any fun b => oexB K (He.ga K c) b.2.1 b.2.2.2 && decide (PySem.W.subIn K (.ref (He.ga K c)) (.type b.1) = some true) && initFB file K (He.ga K c) b.2.2.1 c fs) && (("code" : Str) :: fs).all (fun g => He.eqO (PySem.W.findIn K (.ref (He.ga K c)) g) (some none)) && (He.Fa.glo c).ok K && PySem.W.keepIn K (.ref (He.ga K c)) &&
  He.eqO (PySem.W.findIn K (.ref (He.ga K c)) "__getattribute__") (some (some (.builtin "BaseException.__getattribute__"))) && He.eqO (PySem.W.findIn K (.ref (He.ga K c)) "__getattr__") (some none) && decide (PySem.W.subIn K (.ref (He.ga K c)) (.type "BaseException") = some true) && PySem.W.hasDictIn K (He.ga K c) &&
  He.eqO (PySem.W.findIn K (.ref (He.ga K c)) "__class__") (some (some (.builtin "object.__class__"))) && He.eqO (PySem.W.specialIn K (.builtin "object.__class__") "__get__") (some (some (.builtin "getset_descriptor.__get__"))) && decide (PySem.W.takesIn K (.builtin "object.__class__") = some true) && decide (PySem.W.mroIn K (He.ga K c) (.type "object") = some true) &&
  decide (PySem.W.exmAny K (.ref (He.ga K c)) [.ref (He.ga K "SheetError"), .ref (He.ga K "SheetMissing"), .ref (He.ga K "NothingLeft")] = some true)
def MainOk (prog : Program) (file : Str) : Prop := prog.main.file = file ∧ (prog.main.scope.names.lookup ("super" : Str)).isSome = false
theorem binds_bare {K : PySem.W.Frag} {fd : FuncData} {ps : List Str} (h : barePs fd.params = some ps) (hd : fd.defaults = .none) (nd : ps.Nodup) (hl : ps.length ≤ 2) : L2.Binds K fd ps [] := by
  unfold barePs at h
  split at h
  · rename_i as e
    cases h
    refine .all fun us hu => ?_
    obtain ⟨z1, z2, z3, z4, z5, z6, z7, z8, z9, z10, z11, z12, z13, z14, z15⟩ := fd
    simp only at e hd
    subst e
    subst hd
    match as, us, hu, nd, hl with
    | [], [], _, _, _ => rfl
    | [a], [u], _, _, _ =>
      have e : seqItems? Value.none = pure none := rfl
      simp [bindArgs, e]
    | [a, b], [u, v], _, nd, _ =>
      have e : seqItems? Value.none = pure none := rfl
      have n1 : ¬ a.arg = b.arg := by simpa using nd
      have n2 : ¬ b.arg = a.arg := fun z => n1 z.symm
      have n3 : (b.arg == a.arg) = false := by simpa using n2
      simp [bindArgs, e, List.lookup, n3]
  · cases h
theorem exB_ok {prog : Program} {K : PySem.W.Frag} {h : Heap} {mg : Str → Option Value} {file c : Str} {fs : List Str} (X : K.In h) (G : h.Ns mainGlobals mg) (M : MainOk prog file) (hx : exB file K c fs = true) : ErrD prog K mg c fs := by
  unfold exB at hx
  simp only [Bool.and_eq_true, decide_eq_true_eq] at hx
  obtain ⟨⟨⟨⟨⟨⟨⟨⟨⟨⟨⟨⟨h1, h2⟩, h3⟩, h4⟩, h5⟩, h6⟩, h7⟩, h8⟩, h9⟩, h10⟩, h11⟩, h12⟩, h13⟩ := hx
  refine ⟨⟨?_, fun g hg => He.eqO_ok (List.all_eq_true.mp h2 g hg)⟩, He.glo_ok X G h3, h4, ⟨He.eqO_ok h5, He.eqO_ok h6, h7, h8, He.eqO_ok h9, He.eqO_ok h10, h11, h12⟩, h13⟩
  obtain ⟨b, hb, hq⟩ := List.any_eq_true.mp h1
  simp only [Bool.and_eq_true, decide_eq_true_eq] at hq
  obtain ⟨⟨q1, q2⟩, q3⟩ := hq
  unfold initFB at q3
  split at q3
  · rename_i f ef
    split at q3
    · rename_i fd efd
      split at q3
      · rename_i body ps cn cc cda e1 e2 e3 e4
        simp only [Bool.and_eq_true, decide_eq_true_eq] at q3
        obtain ⟨⟨⟨⟨⟨⟨⟨⟨⟨⟨⟨⟨⟨rfl, t1⟩, t2⟩, t3⟩, t4⟩, td⟩, t5⟩, t6⟩, t7⟩, t8⟩, t9⟩, t10⟩, t11⟩, t12⟩ := q3
        have T := initTB_ok t1
        unfold initSB at t2
        simp only [Bool.and_eq_true, Bool.or_eq_true, Bool.not_eq_true', decide_eq_true_eq, decide_eq_false_iff_not, List.all_eq_true] at t2
        obtain ⟨⟨⟨⟨⟨⟨s1, s2⟩, s3⟩, s4⟩, s5⟩, s6⟩, s7⟩ := t2
        have hcode : ∃ cda oc od vs osl file tf, fd.code = .ref cda ∧ K.lookup cda = some ⟨oc, od, .fields vs, osl⟩ ∧ vs[2]? = some (.str file tf) ∧ ((prog.main.file : Str) == file) = true := by
          split at t7
          · rename_i vs ev
            split at t7
            · rename_i y tf ey
              obtain ⟨oc, od, osl, eo⟩ := fieldsIn_ok ev
              exact ⟨cda, oc, od, vs, osl, y, tf, e4, eo, ey, by rw [M.1]; exact t7⟩
            · cases t7
          · cases t7
        obtain ⟨cl, cld, csl, ec⟩ := cellIn_ok t5
        have hnd : ps.Nodup ∧ ps.length ≤ 2 := by
          cases T with
          | none => exact ⟨by simp, by simp⟩
          | one _ _ _ _ _ h => exact ⟨by simpa using h, by simp⟩
        refine ⟨b.1, b.2.1, b.2.2.1, b.2.2.2, f, fd, body, ps, basesX_ok b hb, oexB_ok q1, ⟨fnO_ok efd, e1, t3, t4, ⟨cc, cl, cld, csl, e3, ec⟩, hcode, t6, s1, s2, s3, fun x hx => (s4 x hx).1, s5, fun y hy => ?_, s6, s7, ?_, He.eqO_ok t8, M.2, He.eqO_ok t9, t10, He.eqO_ok t11⟩, q2, T, ef, t12, binds_bare e2 td hnd.1 hnd.2⟩
        · rcases (s4 _ (PySem.mem_of_lookup hy)).2 with z | z
          · exact absurd rfl z
          · exact z
        · unfold barePs at e2
          split at e2
          · rename_i as e5
            cases e2
            rw [e5]
            cases as <;> rfl
          · cases e2
      · cases q3
    · cases q3
  · cases q3
def gotK (K : PySem.W.Frag) : Bool := (fieldL.all fun q => q.1.all fun c => (He.Fa.glo c).ok K && !(c == ("__debug__" : Str))) && (["SheetError", "SheetMissing", "NothingLeft"] : List Str).all fun c => (He.Fa.glo c).ok K
def dflB (T : Tab) (K : PySem.W.Frag) (q : Str × Shp) : Bool := match T.row q.1 with
  | some r => dflK K ((r.sg K).dvs ++ (lacks (r.sg K) q.2.kn).map (·.2)) q.2.tp
  | none => true
def statB (T : Tab) (K : PySem.W.Frag) (c a f : Str) : Bool := PySem.W.readsIn K (He.ga K c) (.type "type") && (He.eqO (PySem.W.specialIn K (.ref (He.ga K c)) "__getattribute__") (some (some (.builtin "type.__getattribute__"))) &&
  ((match PySem.W.findCls K (.ref (He.ga K c)) (.type "type") a with
    | some (.get (.builtin b) (.ref p) .none (.ref C)) => decide (b = "staticmethod.__get__") && (decide (C = He.ga K c) && (match PySem.W.recIn K p "staticmethod" with
      | some (.ref g :: _) => decide (g = T.fa K f)
      | _ => false))
    | _ => false)))
theorem statB_ok {T : Tab} {K : PySem.W.Frag} {c a f : Str} (h : statB T K c a f = true) : StatOf K (cA K c) a (T.fa K f) := by
  unfold statB at h
  simp only [Bool.and_eq_true] at
                                  h
  obtain ⟨h1, h2, h3⟩ := h
  refine ⟨h1, He.eqO_ok h2, ?_⟩
  split at h3
  · rename_i b p C e
    simp only [Bool.and_eq_true, decide_eq_true_eq] at
                                                       h3
    obtain ⟨rfl, rfl, h5⟩ := h3
    split at h5
    · rename_i g rest e2
      have := of_decide_eq_true h5
      subst this
      exact ⟨p, rest, e, e2⟩
    · cases h5
  · cases h3
def Tab.okK (T : Tab) (K : PySem.W.Frag) : Bool := T.rows.all (·.ok K) && (T.gfn.all (fun f => He.eqO (PySem.W.nsIn K mainGlobals f) (some (some (.ref (T.fa K f))))) && (T.cls.all (clsB K) && (T.meths.all (fun q => methB T K q.1.1 q.1.2 q.2) && (T.props.all (fun q => propB T K q.1.1 q.1.2 q.2) &&
  (T.cons.all (fun q => conB K q.1.1 q.1.2 q.2) && (T.fls.all (fun q => He.eqO (PySem.W.findIn K (.ref (He.ga K q.1)) q.2) (some none)) && (T.globs.all (fun q => globB K q.1 q.2) && (T.subs.all (fun q => decide (PySem.W.kitOne K (tyVal K q.1.1) (tyVal K q.1.2) = some q.2)) &&
    (biNames.all (fun x => He.eqO (PySem.W.nsIn K mainGlobals (Str.ofString x)) (some none)) && (T.excs.all (fun q => exB T.file K q.1 q.2) && (T.xsubs.all (fun q => decide (PySem.W.kitOne K (.ref (He.ga K q.1.1)) (.ref (He.ga K q.1.2)) = some q.2)) && ((!T.gots || gotK K) && (T.shapes.all (dflB T K) && T.stats.all (fun q => statB T K q.1.1 q.1.2 q.2))))))))))))))
def Tab.okT (T : Tab) : Bool := T.cls.all (fun c => (bty c).isNone) && (T.props.all (fun q => match T.prog.bind q.2 1 [] with
  | some [.pos 0] => true
  | _ => false) && (T.subs.all (fun q => (bty q.1.1).isSome || T.cls.contains q.1.1) && (T.gfn.all (fun f => (T.row f).isSome) && T.shapes.all fun q => (T.row q.1).isSome && (T.lams.isEmpty || !(q.1 == ("law" : Str))))))
def obsK (T : Tab) (K : PySem.W.Frag) : Bool × List He.FnW := (T.okK K, T.rows.map fun r => fnAt K (r.at_.addr K))
def valT (T : Tab) : Bool × List He.FnW := (true, T.rows.map Row.val)
def Says (T : Tab) (K : PySem.W.Frag) : Prop := obsK T K = valT T
def frB {α : Type} (n : Nat) (k : Nat → α) : α := match n with
  | 0 => k 0
  | m + 1 => k (m + 1)
def newB : List Addr → Nat → List Addr → (List Addr → Nat → List Addr) → List Addr
  | [], mask, acc, k => k acc mask
  | a :: r, mask, acc, k => match Nat.beq (Nat.land (Nat.shiftRight mask a) 1) 0 with
    | true => frB (Nat.lor mask (Nat.shiftLeft 1 a)) fun mask' => newB r mask' (a :: acc) k
    | false => newB r mask acc k
def refsB (g : Addr → Option Obj) (a : Addr) : List Addr := match g a with
  | some o => He.refsD o
  | none => []
def reachB (g : Addr → Option Obj) : Nat → List Addr → Nat → List Addr → List Addr
  | 0, _, _, all => all
  | n + 1, front, mask, all => newB (front.flatMap (refsB g)) mask [] fun new mask' => match new with
    | [] => all
    | _ => reachB g n new mask' (all ++ new)
def bitsG (g : Addr → Option Obj) (n : Nat) : List Addr := reachB g n [mainGlobals] (Nat.lor (Nat.shiftLeft 1 mainGlobals) (Nat.shiftLeft 1 cStatics)) [mainGlobals, cStatics]
def obsG (n : Nat) (T : Tab) (g : Addr → Option Obj) : Bool × List He.FnW := obsK T (He.frG g (bitsG g n))
def hookT (n : Nat) (T : Tab) : PySem.W.Hook where
  α := Bool × List He.FnW
  obs := fun s => obsG n T s.heap.get?
  val := fun _ => valT T
  says := fun _ h => ∃ K : PySem.W.Frag, K.In h ∧ Says T K
  of := fun _ _ e => ⟨_, He.frG_in, e⟩
  keeps := fun _ _ _ ⟨K, hK, c⟩ k => ⟨K, PySem.W.Frag.In.keeps hK k,
                                                                     c⟩
theorem obsG_eq {n : Nat} {T : Tab} {g : Addr → Option Obj} {s : Shared} (h : ∀ a, g a = s.heap.get? a) : obsG n T g = (hookT n T).obs s := by
  rw [show g = s.heap.get? from funext h]
  rfl
def lawTab (K : PySem.W.Frag) : Addr × Addr := match fnO K (He.ga K "law") with
  | some fd => (match fd.code with
    | .ref c => (match fieldsIn K c with
      | some vs => (match vs[11]? with
        | some (Value.ref P) => (c, P)
        | _ => (0, 0))
      | none => (0, 0))
    | _ => (0, 0))
  | none => (0, 0)
def dropA (P : Addr) : List Addr → List Addr
  | [] => []
  | a :: r => match Nat.beq a P with
    | true => dropA P r
    | false => a :: dropA P r
theorem drop_no {P : Addr} : ∀ l : List Addr, P ∉ dropA P l
  | [], h => by cases h
  | a :: r, h => by
    unfold dropA at h
    split at h
    · exact drop_no r h
    · rename_i e
      rcases List.mem_cons.mp h with z |
                                         z
      · rw [← z, Nat.beq_refl] at e; cases e
      · exact drop_no r z
def lawT (g : Addr → Option Obj) (n : Nat) : Addr := (lawTab (He.frG g (bitsG g n))).2
def frL (g : Addr → Option Obj) (n : Nat) : PySem.W.Frag := frB (lawT g n) fun P => He.frG g (dropA P (bitsG g n))
theorem frB_eq {α : Type} (n : Nat) (k : Nat → α) : frB n k = k n := by cases n <;> rfl
def codeB (K : PySem.W.Frag) (c P : Addr) : Bool := match K.lookup c with
  | some o => decide (o.cls = .type "code") && (match o.data with
    | .fields vs => decide (vs[11]? = some (.ref P)) && decide (vs.getD 11 .none = .ref P) && (match vs.getD 18 .none, vs.getD 7 .none, vs.getD 9 .none, vs.getD 10 .none with
      | .str _ _, .int _ _, .bool _, .int _ _ => true
      | _, _, _, _ => false)
    | _ => false) && !Nat.beq c P
  | none => false
def emptyT (o : Option Obj) : Bool := match o with
  | some ⟨.none, none, .fields vs, sl⟩ => decide (vs = #[]) && decide (sl = #[])
  | _ => false
def tabB (g : Addr → Option Obj) (K : PySem.W.Frag) : Bool := emptyT (g (lawTab K).2) && codeB K (lawTab K).1 (lawTab K).2 && (match fnO K (He.ga K "law") with
  | some fd => decide (fd.code = .ref (lawTab K).1)
  | none => false)
theorem codeB_ok {K : PySem.W.Frag} {h : Heap} {c P : Addr} (X : K.In h) (e : codeB K c P = true) : PySem.W.CodeHd h c P := by
  unfold codeB at e
  split at e
  · rename_i o ho
    simp only [Bool.and_eq_true, decide_eq_true_eq, Bool.not_eq_true'] at e
    obtain ⟨⟨h1, h2⟩, h3⟩ := e
    split at h2
    · rename_i vs hd
      simp only [Bool.and_eq_true, decide_eq_true_eq] at
                                                         h2
      obtain ⟨⟨h4, h5⟩, h6⟩ := h2
      split at h6
      · rename_i file tf fl tg inF tx tt e1 e2 e3 e4
        exact ⟨o, vs, file, tf, fl, tg, inF, tx, tt, X _ _ ho, h1, hd, h4, h5, e1, e2, e3, e4, fun z => by rw [z, Nat.beq_refl] at h3; cases h3⟩
      · cases h6
    · cases h2
  · cases e
theorem emptyT_ok {o : Option Obj} (e : emptyT o = true) : o = some { cls := .none, data := .fields #[] } := by
  unfold emptyT at e
  split at e
  · rename_i vs sl
    simp only [Bool.and_eq_true, decide_eq_true_eq] at e
    rw [e.1, e.2]
  · cases e
structure SaysL (T : Tab) (K : PySem.W.Frag) (h : Heap) : Prop where
  says : Says T K
  none : K.lookup (lawTab K).2 = none
  at_ : h.get? (lawTab K).2 = some { cls := .none, data := .fields #[] }
  code : PySem.W.CodeHd h (lawTab K).1 (lawTab K).2
  own : ∃ fd, fnO K (He.ga K "law") = some fd ∧ fd.code = .ref (lawTab K).1
def obsL (n : Nat) (T : Tab) (g : Addr → Option Obj) : Bool × List He.FnW := let K := frL g n; (tabB g K && (K.lookup (lawTab K).2).isNone && T.okK K, T.rows.map fun r => fnAt K (r.at_.addr K))
theorem obsL_ok {n : Nat} {T : Tab} {h : Heap} (e : obsL n T h.get? = valT T) : ∃ K : PySem.W.Frag, K.In h ∧ SaysL T K h := by
  have X : (frL h.get? n).In h := by
    unfold frL
    rw [frB_eq]
    exact He.frG_in
  have e1 : (tabB h.get? (frL h.get? n) && ((frL h.get? n).lookup (lawTab (frL h.get? n)).2).isNone && T.okK (frL h.get? n)) = true := congrArg (fun z : Bool × List He.FnW => z.1) e
  have e2 : (T.rows.map fun r => fnAt (frL h.get? n) (r.at_.addr (frL h.get? n))) = T.rows.map Row.val := congrArg (fun z : Bool × List He.FnW => z.2) e
  simp only [Bool.and_eq_true, Option.isNone_iff_eq_none] at e1
  obtain ⟨⟨h1, h2⟩, h3⟩ := e1
  unfold tabB at h1
  rw [Bool.and_eq_true, Bool.and_eq_true] at h1
  obtain ⟨⟨g1, g2⟩, g3⟩ := h1
  have own : ∃ fd, fnO (frL h.get? n) (He.ga (frL h.get? n) "law") = some fd ∧ fd.code = .ref (lawTab (frL h.get? n)).1 := by
    split at g3
    · rename_i fd efd
      exact ⟨fd, efd, of_decide_eq_true g3⟩
    · cases g3
  have sy : Says T (frL h.get? n) := by
    show (T.okK _, _) = (true, _)
    rw [h3, e2]
  exact ⟨_, X, sy, h2, emptyT_ok g1, codeB_ok X g2, own⟩
def hookL (n : Nat) (T : Tab) : PySem.W.Hook where
  α := Bool × List He.FnW
  obs := fun s => obsL n T s.heap.get?
  val := fun _ => valT T
  says := fun _ h => ∃ K : PySem.W.Frag, K.In h ∧ SaysL T K h
  of := fun _ _ e => obsL_ok e
  keeps := fun _ _ _ ⟨K, hK, c⟩ k => ⟨K, PySem.W.Frag.In.keeps hK k, c.says, c.none, k _ _ c.at_, c.code.keeps k, c.own⟩
theorem obsL_eq {n : Nat} {T : Tab} {g : Addr → Option Obj} {s : Shared} (h : ∀ a, g a = s.heap.get? a) : obsL n T g = (hookL n T).obs s := by
  rw [show g = s.heap.get? from funext h]
  rfl
end Mp
end
section
set_option Elab.async false
set_option linter.all false
set_option maxRecDepth 100000
set_option maxHeartbeats
                         1000000
namespace Mp
open PySem L2 PySem.Spec PyProof.Rows
section
variable {T : Tab} {K : PySem.W.Frag} {h : Heap} {mg : Str → Option Value}
theorem all_at {α : Type} {l : List α} {p : α → Bool} (h : l.all p = true) {a : α} (m : a ∈ l) : p a = true := List.all_eq_true.mp h a m
theorem mem_look {α β : Type} [BEq α] [LawfulBEq α] : ∀ {l : List (α × β)} {a : α} {b : β}, l.lookup a = some b → (a, b) ∈ l
  | (c, d) :: r, a, b, e => by
    rw [List.lookup_cons] at e
    cases q : a == c with
    | true =>
      rw [q] at e
      have : d = b := Option.some.inj e
      rw [eq_of_beq q, this]
      exact List.mem_cons_self ..
    | false =>
      rw [q] at e
      exact List.mem_cons_of_mem _ (mem_look e)
theorem tab_link {prog : Program} {Bz : Zs} (X : K.In h) (G : h.Ns mainGlobals mg) (ok : T.okK K = true) (okT : T.okT = true) (M : T.excs ≠ [] → MainOk prog T.file) (gd : T.gots = true → GotD prog K mg) (ga : T.alls = true → AllD K mg) : LinkS T.prog (T.fa K) prog K mg Bz := by
  unfold Tab.okK at ok
  simp only [Bool.and_eq_true] at
                                  ok
  obtain ⟨k1, k2, k3, k4, k5, k6, k7, k8, k9, k10, k11, k12, k13⟩ := ok
  unfold Tab.okT at okT
  simp only [Bool.and_eq_true] at okT
  obtain ⟨t1, t2, t3, t4, t5⟩ := okT
  have isc : ∀ {c : Str}, T.prog.isc c = true → c ∈ T.cls := fun {c} e => by
    have e' : T.cls.contains c = true := e
    simpa using e'
  refine ⟨fun f n kn tp e => ?_, fun c f g e => ?_, fun f e => ?_, fun c e => ?_, fun c e => ?_, fun c g e hc => ?_, fun c m g e hc => ?_, fun c f g e => ?_, fun c f v e => ?_, fun c f e => ?_, fun c e => ?_, fun n t b e => ?_, fun x v e => ?_, fun f hf => ?_, fun c g e hc => ?_, fun n t b e => ?_, fun c fs e => ?_, fun c t b e => ?_, gd, ga, fun c a f e hc => ?_⟩
  · obtain ⟨q, hq, rfl⟩ := Option.map_eq_some_iff.mp e
    have hm := List.mem_of_find?_eq_some hq
    have hp := List.find?_some hq
    simp only [Bool.and_eq_true] at
                                    hp
    have hr := all_at t5 hm
    rw [Bool.and_eq_true] at hr
    obtain ⟨r, er⟩ := Option.isSome_iff_exists.mp hr.1
    have ef : q.1 = f := eq_of_beq hp.1
    rw [ef] at er
    have hk := all_at k1 (List.mem_of_find?_eq_some er)
    unfold Tab.fa
    rw [er]
    unfold Row.ok at hk
    rw [Bool.and_eq_true] at hk
    exact hk.1
  · have := all_at t2 (mem_look e)
    simp only at this
    split at this
    · rename_i e2; exact e2
    · cases this
  · have e' : T.gfn.contains f = true := e
    have hm : f ∈ T.gfn := by simpa using e'
    exact PySem.W.mg_of X G (He.eqO_ok (all_at k2 hm))
  · obtain ⟨_, h2, h3, _⟩ := clsB_ok X G (all_at k3 (isc e))
    have h4 := all_at t1 (isc e)
    refine ⟨h2, h3, ?_⟩
    cases hb : bty c with
    | none => rfl
    | some _ => rw [hb] at h4; cases h4
  · exact (clsB_ok X G (all_at k3 (isc e))).1
  · have := all_at k4 (mem_look e)
    unfold methB at this
    simp only [Bool.and_eq_true, Bool.or_eq_true, Bool.not_eq_true'] at this
    obtain ⟨a1, a2, a3, a4, _⟩ := this
    refine ⟨?_, He.eqO_ok a1, a2⟩
    rcases a4 with a4 | a4
    · exact absurd a4 (by decide)
    · exact a4
  · have := all_at k4 (mem_look e)
    unfold methB at this
    simp only [Bool.and_eq_true] at this
    exact ⟨He.eqO_ok this.1, this.2.1, this.2.2.1⟩
  · have := all_at k5 (mem_look e)
    unfold propB at this
    simp only [Bool.and_eq_true, decide_eq_true_eq] at this
    obtain ⟨a1, a2, a3, a4⟩ := this
    refine ⟨propAt K c f, He.eqO_ok a1, He.eqO_ok a2, a3, ?_⟩
    split at a4
    · rename_i v rest er
      have := of_decide_eq_true a4
      subst this
      exact ⟨rest, er⟩
    · cases a4
  · exact conB_ok (all_at k6 (mem_look e))
  · have e' : T.fls.contains (c, f) = true := e
    have hm : (c, f) ∈ T.fls := by simpa using e'
    exact He.eqO_ok (all_at k7 hm)
  · exact (clsB_ok X G (all_at k3 (isc e))).2.2.2
  · exact of_decide_eq_true (all_at k9 (mem_look e))
  · exact globB_ok X G (all_at k8 (mem_look e))
  · exact PySem.W.mg_none_of X G (He.eqO_ok (all_at k10 hf))
  · have := all_at k4 (mem_look e)
    unfold methB at this
    simp only [Bool.and_eq_true, Bool.or_eq_true, Bool.not_eq_true'] at this
    obtain ⟨_, _, _, _, a5⟩ := this
    rcases a5 with a5 | a5
    · exact absurd a5 (by decide)
    · exact He.eqO_ok a5
  · have := all_at t3 (mem_look e)
    simp only [Bool.or_eq_true] at this
    rcases this with a | a
    · left
      intro z
      rw [z] at a; cases a
    · exact .inr a
  · have hm := mem_look e
    have h11 := all_at k11 hm
    simp only at h11
    exact exB_ok X G (M fun z => by rw [z] at hm; cases hm) h11
  · exact of_decide_eq_true (all_at k12 (mem_look e))
  · exact statB_ok (all_at k13.2.2 (mem_look e))
def Tab.lamRow (T : Tab) (r : Row) : Bool := (r.nm == ("law" : Str)) && !T.lams.isEmpty
structure RowOk (T : Tab) (r : Row) : Prop where
  sc : FnScope r.N r.ps r.scope
  ck : ckSs T.prog r.N r.ms ⟨r.scope, true, T.lamRow r⟩ r.body = true
structure ShapeOk (T : Tab) (q : Str × Shp) : Prop where
  ok : ∀ K r, T.row q.1 = some r → ShpOk (r.sg K) q.2 ∧ shpB (r.sg K) q.2 = true
theorem says_fact (c : Says T K) : T.okK K = true := congrArg (fun z : Bool × List He.FnW => z.1) c
theorem says_row (c : Says T K) {r : Row} (hr : r ∈ T.rows) : ∃ fd, FunD K (r.sg K).name (r.sg K).qual (r.sg K).params r.body (r.sg K).scope (r.sg K).dvs (r.sg K).kws (r.at_.addr K) fd := by
  obtain ⟨i, hi⟩ := List.getElem?_of_mem hr
  have e : T.rows.map (fun r => fnAt K (r.at_.addr K)) = T.rows.map Row.val := congrArg (fun z : Bool × List He.FnW => z.2) c
  have e2 : (T.rows.map fun r => fnAt K (r.at_.addr K))[i]? = (T.rows.map Row.val)[i]? := by rw [e]
  rw [List.getElem?_map, List.getElem?_map, hi] at e2
  have ok := says_fact c
  unfold Tab.okK at ok
  rw [Bool.and_eq_true] at ok
  exact Row.funD (Option.some.inj e2) (all_at ok.1 hr)
theorem tab_calls {P : Program} {w : World} {base : Heap} {Bz : Zs} (X : K.In h) (G : h.Ns mainGlobals mg) (c : Says T K) (okT : T.okT = true) (hr : ∀ r ∈ T.rows, RowOk T r) (hs : ∀ q ∈ T.shapes, ShapeOk T q) (M : T.excs ≠ [] → MainOk P T.file) (gd : T.gots = true → GotD P K mg) (ga : T.alls = true → AllD K mg) : ∀ d, Link T.prog (call T.prog d) (T.fa K) P w K mg base (3 * d) Bz := by
  refine links (tab_link X G (says_fact c) okT M gd ga) fun d k L f n kn tp e => ?_
  obtain ⟨q, hq, rfl⟩ := Option.map_eq_some_iff.mp e
  have hm := List.mem_of_find?_eq_some hq
  have hp := List.find?_some hq
  simp only [Bool.and_eq_true, beq_iff_eq] at hp
  obtain ⟨rfl, rfl, rfl⟩ := hp
  unfold Tab.okT at okT
  simp only [Bool.and_eq_true] at okT
  have hq2 := all_at okT.2.2.2.2 hm
  rw [Bool.and_eq_true] at hq2
  obtain ⟨r, er⟩ := Option.isSome_iff_exists.mp hq2.1
  have hnl : T.lamRow r = false := by
    have en : r.nm = q.1 := eq_of_beq (List.find?_some (p := fun r : Row => r.nm == q.1) (show T.rows.find? (fun r => r.nm == q.1) = some r from er))
    unfold Tab.lamRow
    rw [en]
    have h2 := hq2.2
    cases h3 : T.lams.isEmpty with
    | true => simp
    | false =>
      rw [h3] at h2
      simp only [Bool.false_or, Bool.not_eq_true'] at h2
      rw [h2]; rfl
  obtain ⟨so, sb⟩ := (hs q hm).ok K r er
  have hrm := List.mem_of_find?_eq_some er
  obtain ⟨fd, FD⟩ := says_row c hrm
  obtain ⟨sc, ck⟩ := hr r hrm
  rw [hnl] at ck
  have ea : T.fa K q.1 = r.at_.addr K := by unfold Tab.fa; rw [er]
  rw [← ea] at FD
  have hF : T.prog.fn q.1 = some ⟨r.ps.length, r.N.length, r.ms⟩ := by
    show (T.row q.1).map _ = _
    rw [er]; rfl
  have sd : dflK K ((r.sg K).dvs ++ (lacks (r.sg K) q.2.kn).map (·.2)) q.2.tp = true := by
    have ok := says_fact c
    unfold Tab.okK at ok
    simp only [Bool.and_eq_true] at
                                    ok
    have h13 := all_at ok.2.2.2.2.2.2.2.2.2.2.2.2.2.1 hm
    unfold dflB at h13
    rw [er] at h13
    exact h13
  exact call_body (g := r.sg K) L hF FD sc rfl ck so sb sd
def Bz0 : Zs := ⟨[], fun _ _ _ _ _ _ _ => False⟩
def spLaw (T : Tab) (K : PySem.W.Frag) (d : Nat) (nm : Str) : Sp := fun vs H Q E => ∃ wd st va, RS ⟨K, Bz0⟩ wd st H ∧ RVs ⟨K, Bz0⟩ wd va vs ∧ va.length = 1 ∧ Post ⟨K, Bz0⟩ wd (call T.prog (d + 1) nm va st) (AV ⟨K, Bz0⟩ Q) E
theorem law_fn {P : Program} {w : World} {base : Heap} {d : Nat} {nm x : Str} {r : Row} {fd : FuncData} (L : Link T.prog (call T.prog d) (T.fa K) P w K mg base (3 * d) Bz0) (hnl : T.lamRow r = false) (er : T.row nm = some r) (ro : RowOk T r) (hps : r.ps = [x])
    (FD : FunD K (r.sg K).name (r.sg K).qual (r.sg K).params r.body (r.sg K).scope (r.sg K).dvs (r.sg K).kws (r.at_.addr K) fd) : FnOk P w K mg base (L2.CX P w) (3 * d + 3) (r.at_.addr K) fd [x] (spLaw T K d nm) := by
  have S : FnScope r.N [x] r.scope := by rw [← hps]; exact ro.sc
  refine FD.ok S (fun vs H Q E ⟨wd, st, va, hS, rv, l1, q⟩ => by rw [← rv.length, l1]; rfl) fun cdv A outer s H vs Q E hr hsp => ?_
  obtain ⟨wd, st, va, hS, rv, l1, hp⟩ := hsp
  refine ⟨_, sndSs r.ms _ _ _ _ (cx_ok L S hr) r.body (by have ck := ro.ck; rw [hnl] at ck; exact ck), wd, va.map some ++ List.replicate (r.N.length - va.length) none, st, re_start rv rfl, hS, ?_⟩
  have e1 : call T.prog (d + 1) nm va st = runF T.prog (call T.prog d) ⟨r.ps.length, r.N.length, r.ms⟩ va st := by
    show (match (T.row nm).map _ with | some F => runF T.prog (call T.prog d) F va st | none => .stuck) = _
    rw [er]; rfl
  rw [e1] at hp
  unfold runF at hp
  split at hp
  · refine (hp.seq.imp fun w3 f st3 H3 l3 s3 h3 => ?_).impB fun c d H q σ => q
    cases f with
    | next env => exact fun σ' _ => h3 w3 H3 (Le.refl _) s3 _ rfl
    | ret v => exact fun x r => h3 w3 H3 (Le.refl _) s3 x r
    | brk env => exact h3.elim
    | cont env => exact h3.elim
  · exact hp.elim
theorem law_sp {d : Nat} {nm : Str} {H : Hp} {a : Addr} {ns : List Int} (hz : ns.length ≤ sizeLine) (hS : SqL K H a (ns.map V.int)) {st' : Store} (h : call T.prog (d + 1) nm [.scr ns] [] = .ok (.bl true) st') :
    spLaw T K d nm [.ref a] H (fun v _ => v = .bl true) fun _ _ _ => False := by
  refine ⟨⟨H, [], fun _ => none⟩, [], [.scr ns], ⟨fun _ _ e => e, rfl, fun i p s e => (by simp at e), List.nodup_nil, fun i p e => (by simp at e), fun p o e => (by cases e), fun i p e => (by simp at e), fun p n => absurd rfl n, fun q hq => (by cases hq), fun q hq => (by cases hq)⟩, .cons ⟨a, rfl, hS, hz⟩ .nil, rfl, ?_⟩
  rw [h]
  exact fun w' H' l s x r => r
def spLaw0 (T : Tab) (K : PySem.W.Frag) (d : Nat) (nm : Str) : Sp := fun vs H Q _ => spLaw T K d nm vs H Q fun _ _ _ => False
theorem law_fn0 {P : Program} {w : World} {base : Heap} {d k : Nat} {nm x : Str} {f : Addr} {fd : FuncData} (F : FnOk P w K mg base (L2.CX P w) k f fd [x] (spLaw T K d nm)) : FnOk P w K mg base (fun _ _ _ _ _ _ => False) k f fd [x] (spLaw0 T K d nm) := by
  refine ⟨fun vs H Q E h => F.len vs H Q _ h, fun A outer s H args us vs Q E hr he hb hv hs => codeAny_mono (F.run A outer s H args us vs Q (fun _ _ _ => False) hr he hb hv hs) fun r s' hq => ?_⟩
  cases r with
  | error e =>
    obtain ⟨_, _, _, _, _, _, _, _, _, _, _, _, z⟩ := hq
    exact z.elim
  | ok fl =>
    cases fl with
    | ret u => exact hq
    | next => exact hq
    | brk => exact hq
    | cont => exact hq
theorem law_facts {P : Program} {w : World} {d : Nat} {nm x : Str} {r : Mp.Row} {f : Addr} (X : K.In h) (G : h.Ns mainGlobals mg) (c : Says T K) (okT : T.okT = true) (hr : ∀ r ∈ T.rows, RowOk T r) (hs : ∀ q ∈ T.shapes, ShapeOk T q) (M : T.excs ≠ [] → MainOk P T.file) (gd : T.gots = true → GotD P K mg) (ga : T.alls = true → AllD K mg) (hnl : T.lamRow r = false)
    (er : T.row nm = some r) (hat : r.at_ = .glo nm) (hg : T.gfn.contains nm = true) (hps : r.ps = [x]) (hd : r.dfl = []) (hmg : mg nm = some (.ref f)) (hb : ∀ (dV kV doc pm : Value) (an : Option Addr) (cdv ct : Value) (u : Value), bindArgs (PySem.W.fnOf r.name r.qual r.params r.body r.scope .none kV doc pm an cdv ct) ⟨[u], []⟩ = pure [(x, u)])
    (law : ∀ ns : List Int, ns.length ≤ 63 → ∃ st', call T.prog (d + 1) nm [.scr ns] [] = .ok (.bl true) st') :
    ∃ (fd : FuncData) (sp : Sp), (∀ (s : Shared) (u : Value), BindsTo s fd ⟨[u], []⟩ [(x, u)]) ∧ (∀ (H : Hp) (a : Addr) (ns : List Int), ns.length ≤ 63 → Only H → SqL K H a (ns.map V.int) → sp [.ref a] H (fun v _ => v = .bl true) fun _ _ _ => False) ∧
      ∀ base : Heap, K.In base → base.Ns mainGlobals mg → FnOk P w K mg base (fun _ _ _ _ _ _ => False) (3 * d + 3) f fd [x] sp := by
  have hrm := List.mem_of_find?_eq_some er
  obtain ⟨fd, FD⟩ := says_row c hrm
  have L := fun base => tab_calls (P := P) (w := w) (base := base) (Bz := Bz0) X G c okT hr hs M gd ga d
  have ef : f = r.at_.addr K := by
    have e1 := (tab_link (prog := P) (Bz := Bz0) X G (says_fact c) okT M gd ga).gf nm hg
    rw [hmg] at e1
    have e2 : f = T.fa K nm := by
      injection e1 with e1
      injection e1
    rw [e2]
    unfold Tab.fa
    rw [er]
  subst ef
  refine ⟨fd, spLaw0 T K d nm, ?_, fun H a ns hl _ hS => ?_, fun base _ _ => law_fn0 (law_fn (L base) hnl er (hr r hrm) hps FD)⟩
  · obtain ⟨oc, od, dV, kV, doc, pm, an, cdv, ct, osl, rfl, lk, hcd, hD, hK⟩ := FD.ex
    rcases hD with ⟨_, rfl⟩ | ⟨e,
                                  _⟩
    · exact fun s u => .of_eq (hb .none kV doc pm an cdv ct u)
    · exact absurd (by show r.dfl.map _ = []; rw [hd]; rfl) e
  · obtain ⟨st', e⟩ := law ns hl
    exact law_sp (Nat.le_trans hl (by rw [sizeLine_eq]; omega)) hS e
end
end Mp
end
section
set_option Elab.async false
set_option linter.all false
set_option maxRecDepth 100000
set_option maxHeartbeats
                         1000000
namespace Mp
open PySem L2 PySem.Spec PyProof.Rows
structure DefT (T : Tab) (nm : Str) (p : List Str → Str → Scope → List Stmt → Prop) : Prop where
  ex : ∃ r e, T.row nm = some r ∧ r.at_ = .glo nm ∧ T.gfn.contains nm = true ∧ barePs r.params = some [e] ∧ r.ps = [e] ∧ r.dfl = [] ∧ p r.N e r.scope r.body
structure GotTab (T : Tab) : Prop where
  f : DefT T "_law_field" fun N ef scope body => FieldT ef fieldL body ∧ N[0]? = some ef ∧ (ef == ("__debug__" : Str)) = false ∧ (ef == ("__classdict__" : Str)) = false ∧ scope.names.lookup ("isinstance" : Str) = some .globalImplicit ∧ ∀ q ∈ fieldL, ∀ c ∈ q.1, scope.names.lookup c = some .globalImplicit
  g : DefT T "_law_got" fun N ask scope body => GotT N scope ask body
def AllTab (T : Tab) : Prop := DefT T "_law_all_got" fun N asks scope body => AllT N scope asks body
def okNB (x : Str) : Bool := !(x == ("__debug__" : Str)) && !(x == ("__classdict__" : Str))
theorem okNB_ok {x : Str} (h : okNB x = true) : okN x := by
  unfold okNB at h
  simp only [Bool.and_eq_true, Bool.not_eq_true'] at
                                                     h
  exact h
def namesTB : List Str → List Expr → Bool
  | [], [] => true
  | c :: cs, .Name x _ :: es => decide (x = c) && namesTB cs es
  | _, _ => false
theorem namesTB_ok : ∀ {cs : List Str} {es : List Expr}, namesTB cs es = true → NamesT cs es
  | [], [], _ => .nil
  | [], _ :: _, h => by cases h
  | c :: cs, e :: es, h => by
    cases e <;> first | (cases h; done) | skip
    rename_i x p
    replace h : (decide (x = c) && namesTB cs es) = true := h
    rw [Bool.and_eq_true, decide_eq_true_eq] at
                                                h
    obtain ⟨rfl, h2⟩ := h
    exact .cons (namesTB_ok h2)
  | _ :: _, [], h => by cases h
def isTB (e : Str) (cs : List Str) (t : Expr) : Bool := match t with
  | .Call (.Name f _) [.Name x _, .Name c _] [] _ => decide (f = "isinstance") && decide (x = e) && decide (cs = [c])
  | .Call (.Name f _) [.Name x _, .Tuple es _ _] [] _ => decide (f = "isinstance") && decide (x = e) && namesTB cs es
  | _ => false
theorem isTB_ok {e : Str} {cs : List Str} {t : Expr} (h : isTB e cs t = true) : IsT e cs t := by
  unfold isTB at h
  split at h
  · simp only [Bool.and_eq_true, decide_eq_true_eq] at
                                                       h
    obtain ⟨⟨rfl, rfl⟩, rfl⟩ := h
    exact .one
  · simp only [Bool.and_eq_true, decide_eq_true_eq] at
                                                       h
    obtain ⟨⟨rfl, rfl⟩, h3⟩ := h
    exact .many (namesTB_ok h3)
  · cases h
def fieldTB (e : Str) : List (List Str × Str) → List Stmt → Bool
  | [], _ => false
  | (cs, f) :: l, [] => false
  | (cs, f) :: l, s :: body => match l, s, body with
    | [], .Return (some (.IfExp t (.Attribute (.Name x _) g _) (.Constant .none _ _) _)) _, [] => isTB e cs t && decide (x = e) && decide (g = f)
    | p :: l', .If t [.Return (some (.Attribute (.Name x _) g _)) _] [] _, body => isTB e cs t && decide (x = e) && decide (g = f) && fieldTB e (p :: l') body
    | _, _, _ => false
theorem fieldTB_ok {e : Str} : ∀ {l : List (List Str × Str)} {body : List Stmt}, fieldTB e l body = true → FieldT e l body
  | [], _, h => by unfold fieldTB at h; cases h
  | (cs, f) :: l, [], h => by unfold fieldTB at h; cases h
  | (cs, f) :: l, s :: body, h => by
    unfold fieldTB at h
    split at h
    · simp only [Bool.and_eq_true, decide_eq_true_eq] at
                                                         h
      obtain ⟨⟨h1, rfl⟩, rfl⟩ := h
      exact .last (isTB_ok h1)
    · simp only [Bool.and_eq_true, decide_eq_true_eq] at
                                                         h
      obtain ⟨⟨⟨h1, rfl⟩, rfl⟩, h4⟩ := h
      exact .cons (isTB_ok h1) (fieldTB_ok h4)
    · cases h
def glB (scope : Scope) (x : Str) : Bool := decide (scope.names.lookup x = some .globalImplicit)
def gotTB (N : List Str) (scope : Scope) (ask : Str) (body : List Stmt) : Bool := match body with
  | [.Try [.Return (some (.Tuple [.Constant (.str z) _ _, .Call (.Name a1 _) [] [] _] _ _)) _] [.ExceptHandler (some (.Tuple [.Name x1 _, .Name x2 _, .Name x3 _] _ _)) (some e) [.Return (some (.Tuple [.Attribute (.Name e1 _) c1 _, .Call (.Name f1 _) [.Name e2 _] [] _] _ _)) _] _] [] [] _] =>
    decide (z = Str.empty) && decide (a1 = ask) && decide (x1 = "SheetError") && decide (x2 = "SheetMissing") && decide (x3 = "NothingLeft") && decide (e1 = e) && decide (c1 = "code") && decide (f1 = "_law_field") && decide (e2 = e) &&
    (decide (N[0]? = some ask) && decide (N[1]? = some e) && decide N.Nodup && decide (scope.names.lookup e = some .local) && decide (scope.names.lookup ask = some .local) && okNB ask && okNB e && glB scope "SheetError" && glB scope "SheetMissing" && glB scope "NothingLeft" && glB scope "_law_field")
  | _ => false
theorem gotTB_ok {N : List Str} {scope : Scope} {ask : Str} {body : List Stmt} (h : gotTB N scope ask body = true) : GotT N scope ask body := by
  unfold gotTB at h
  split at h
  · simp only [Bool.and_eq_true, decide_eq_true_eq, glB] at h
    obtain ⟨⟨⟨⟨⟨⟨⟨⟨⟨rfl, rfl⟩, rfl⟩, rfl⟩, rfl⟩, rfl⟩, rfl⟩, rfl⟩, rfl⟩, ⟨⟨⟨⟨⟨⟨⟨⟨⟨h1, h2⟩, h3⟩, h4⟩, h5⟩, h6⟩, h7⟩, h8⟩, h9⟩, h10⟩, h11⟩ := h
    exact .mk h1 h2 h3 h4 h5 (okNB_ok h6) (okNB_ok h7) h8 h9 h10 h11
  · cases h
def allTB (N : List Str) (scope : Scope) (asks : Str) (body : List Stmt) : Bool := match body with
  | [.Return (some (.ListComp (.Call (.Name g1 _) [.Name a1 _] [] _) [⟨.Name ask _, .Name s1 _, [], 0⟩] cs _)) _] =>
    decide (g1 = "_law_got") && decide (a1 = ask) && decide (s1 = asks) && decide (N[0]? = some asks) && decide (N[1]? = some ask) && decide N.Nodup && (decide (scope.names.lookup asks = some .local) || decide (scope.names.lookup asks = some .cell)) && okNB asks && okNB ask && blkC N scope cs [(ask, 1)] &&
    decide ((relS cs scope).names.lookup ask = some .local) && decide ((relS cs scope).names.lookup ("_law_got" : Str) = some .globalImplicit)
  | _ => false
theorem allTB_ok {N : List Str} {scope : Scope} {asks : Str} {body : List Stmt} (h : allTB N scope asks body = true) : AllT N scope asks body := by
  unfold allTB at h
  split at h
  · simp only [Bool.and_eq_true, Bool.or_eq_true, decide_eq_true_eq] at h
    obtain ⟨⟨⟨⟨⟨⟨⟨⟨⟨⟨⟨rfl, rfl⟩, rfl⟩, h1⟩, h2⟩, h3⟩, h4⟩, h5⟩, h6⟩, h7⟩, h8⟩, h9⟩ := h
    exact .mk h1 h2 h3 (h4.elim .inl fun z => .inr (.inl z)) (okNB_ok h5) (okNB_ok h6) (blkOk_by h7) (.inl h8) h8 h9
  · cases h
def defB (T : Tab) (nm : Str) (p : List Str → Str → Scope → List Stmt → Bool) : Bool := match T.row nm with
  | some r => (match r.at_, barePs r.params, r.dfl with
    | .glo x, some [e], [] => decide (x = nm) && T.gfn.contains nm && decide (r.ps = [e]) && p r.N e r.scope r.body
    | _, _, _ => false)
  | none => false
theorem defB_ok {T : Tab} {nm : Str} {p : List Str → Str → Scope → List Stmt → Bool} {p' : List Str → Str → Scope → List Stmt → Prop} (hp : ∀ N e s b, p N e s b = true → p' N e s b) (h : defB T nm p = true) : DefT T nm p' := by
  unfold defB at h
  split at h
  · rename_i r er
    split at h
    · rename_i x e e1 e2 e3
      simp only [Bool.and_eq_true, decide_eq_true_eq] at
                                                         h
      obtain ⟨⟨⟨rfl, h1⟩, h2⟩, h3⟩ := h
      exact ⟨r, e, er, e1, h1, e2, h2, e3, hp _ _ _ _ h3⟩
    · cases h
  · cases h
def gotTabB (T : Tab) : Bool := defB T "_law_field" (fun N e s b => fieldTB e fieldL b && decide (N[0]? = some e) && okNB e && glB s "isinstance" && fieldL.all fun q => q.1.all fun c => glB s c) && defB T "_law_got" fun N e s b => gotTB N s e b
theorem gotTab_by {T : Tab} (h : gotTabB T = true) : GotTab T := by
  unfold gotTabB at h
  rw [Bool.and_eq_true] at h
  refine ⟨defB_ok (fun N e s b h => ?_) h.1, defB_ok (fun N e s b h => gotTB_ok h) h.2⟩
  simp only [Bool.and_eq_true, decide_eq_true_eq, glB, List.all_eq_true] at h
  obtain ⟨⟨⟨⟨h1, h2⟩, h3⟩, h4⟩, h5⟩ := h
  exact ⟨fieldTB_ok h1, h2, (okNB_ok h3).1, (okNB_ok h3).2, h4, h5⟩
theorem allTab_by {T : Tab} (h : defB T "_law_all_got" (fun N e s b => allTB N s e b) = true) : AllTab T := defB_ok (fun N e s b h => allTB_ok h) h
section
variable {T : Tab} {K : PySem.W.Frag} {h : Heap} {mg : Str → Option Value}
theorem def1_of (X : K.In h) (G : h.Ns mainGlobals mg) (c : Says T K) (hr : ∀ r ∈ T.rows, RowOk T r) {nm : Str} {p : List Str → Str → Scope → List Stmt → Prop} (D : DefT T nm p) : ∃ g N e scope body, Def1 K mg nm g N e scope body ∧ p N e scope body := by
  obtain ⟨r, e, er, hat, hg, hb, hps, hd, hp⟩ := D.ex
  have hrm := List.mem_of_find?_eq_some er
  obtain ⟨fd, FD⟩ := says_row c hrm
  have kp := FD.kp
  obtain ⟨oc, od, dV, kV, doc, pm, an, cdv, ct, osl, rfl, lk, hcd, hD, hK⟩ := FD.ex
  have ok := says_fact c
  unfold Tab.okK at ok
  simp only [Bool.and_eq_true] at
                                  ok
  have e1 : mg nm = some (.ref (T.fa K nm)) := PySem.W.mg_of X G (He.eqO_ok (all_at ok.2.1 (by simpa using hg)))
  have e2 : T.fa K nm = r.at_.addr K := by unfold Tab.fa; rw [er]
  rw [e2] at e1
  have dN : dV = .none := by
    rcases hD with ⟨_, z⟩ | ⟨z, _⟩
    · exact z
    · exact absurd (by show r.dfl.map _ = []; rw [hd]; rfl) z
  subst dN
  have S := (hr r hrm).sc
  rw [hps] at S
  exact ⟨_, r.N, e, r.scope, r.body, ⟨⟨oc, od, _, _, _, _, _, _, _, _, _, _, osl, lk, hcd, binds_bare hb rfl (by simp) (by simp)⟩, S, e1, kp⟩, hp⟩
theorem gotD_of {prog : Program} (X : K.In h) (G : h.Ns mainGlobals mg) (c : Says T K) (hr : ∀ r ∈ T.rows, RowOk T r) (hg : T.gots = true) (D : GotTab T) : GotD prog K mg := by
  have ok := says_fact c
  unfold Tab.okK at ok
  simp only [Bool.and_eq_true, Bool.or_eq_true, Bool.not_eq_true'] at ok
  have k := ok.2.2.2.2.2.2.2.2.2.2.2.2
  have k2 : gotK K = true := k.1.elim (fun z => by rw [hg] at z; cases z) id
  unfold gotK at k2
  simp only [Bool.and_eq_true, List.all_eq_true, Bool.not_eq_true'] at k2
  refine ⟨?_, fun q hq c hc => ⟨He.glo_ok X G (k2.1 q hq c hc).1, (k2.1 q hq c hc).2⟩, ?_, He.glo_ok X G (k2.2 _ (by decide)), He.glo_ok X G (k2.2 _ (by decide)), He.glo_ok X G (k2.2 _ (by decide))⟩
  · obtain ⟨g, N, e, sc, b, d, p⟩ := def1_of X G c hr D.f
    exact ⟨g, N, e, sc, b, d, p⟩
  · exact def1_of X G c hr D.g
theorem allD_of (X : K.In h) (G : h.Ns mainGlobals mg) (c : Says T K) (hr : ∀ r ∈ T.rows, RowOk T r) (D : AllTab T) : AllD K mg := ⟨def1_of X G c hr D⟩
theorem link0 {Φ : Cal} {fa : Str → Addr} {prog : Program} {w : World} {base : Heap} {k : Nat} {Bz : Zs} (L : Link T.prog Φ fa prog w K mg base k Bz) : Link T.prog0 Φ fa prog w K mg base k Bz :=
  ⟨L.fn, L.pf, L.gf, L.gc, L.cl, L.mkC, L.me, L.pr, L.co, L.na, L.ty, L.isa, L.gl, L.bi, L.ne, L.cb, L.ex, L.xs, (fun z => nomatch z), (fun z => nomatch z), L.st⟩
def spLawL (T : Tab) (K : PySem.W.Frag) (d : Nat) (P : Addr) (q : Str) : Sp := fun vs H Q E => ∀ C, ∃ wd st va, RS ⟨K, ⟨[(P, q)], C⟩⟩ wd st H ∧ RVs ⟨K, ⟨[(P, q)], C⟩⟩ wd va vs ∧ va.length = 1 ∧ Post ⟨K, ⟨[(P, q)], C⟩⟩ wd (call T.prog (d + 1) "law" va st) (AV ⟨K, ⟨[(P, q)], C⟩⟩ Q) E
theorem lamD_of {d : Nat} {Bz : Zs} {r : Row} {X : Cx} {c Pt : Addr} (L : Link T.prog (call T.prog d) (T.fa K) X.prog X.w X.K X.mg X.base (3 * d) Bz) (er : T.row "law" = some r) (tb : LamX.TabB X.base X.mg c Pt) (hc : X.env.code = .ref c) (hT : Bz.T = [(Pt, X.env.qual ++ "<lambda>")]) (hC : Bz.C = cloC T.prog X.env.cells (X.env.qual ++ "<lambda>")) (hr : Room (3 * d + 6) X.A) :
    LamD T.prog (call T.prog d) (T.fa K) (3 * d) r.N ⟨r.scope, true, true⟩ X Bz := by
  refine ⟨⟨c, Pt, tb, hc, hT⟩, hC, hr, fun i params body scope hk W Y O => ?_, fun i params body scope hk => ?_⟩
  · replace hk : T.lamB i params body scope = true := hk
    unfold Tab.lamB at hk
    split at hk
    · rename_i m r' pa e1 e2 e3
      rw [er] at e2
      cases e2
      rw [Bool.and_eq_true] at hk
      have O2 : OkX T.prog0 (call T.prog d) (T.fa K) (3 * d) r.N ⟨scope, false, false⟩ W Y Bz := ⟨⟨O.calm, O.names, O.nd, O.fn, O.sco, O.tk, O.po, O.room, link0 O.lk⟩, fun z => nomatch z⟩
      have h1 := ((snd m) ⟨scope, false, false⟩ W Y Bz O2 body false hk.2).1 rfl
      refine h1.imp fun σ H Q ⟨w, env, st, hE, hS, h⟩ => ⟨w, env, st, hE, hS, ?_⟩
      replace h : Post ⟨Y.K, Bz⟩ w (T.lamE (call T.prog d) i env st) (AV ⟨Y.K, Bz⟩ Q) fun c d H' => W c d σ H' := h
      unfold Tab.lamE at h
      rw [e1] at h
      exact h
    · cases hk
  · replace hk : T.lamB i params body scope = true := hk
    unfold Tab.lamB at hk
    split at hk
    · rename_i m r' pa e1 e2 e3
      rw [er] at e2
      cases e2
      rw [Bool.and_eq_true] at hk
      exact ⟨pa, e3, lamOwn_by hk.1⟩
    · cases hk
theorem okL {P : Program} {w : World} {base : Heap} {d : Nat} {x : Str} {r : Row} {c Pt f : Addr} {cdv : Value} {A : Around} {outer : List PySem.Env} {s : Shared} {H : Hp} {E : XK} (L : ∀ Bz, Link T.prog (call T.prog d) (T.fa K) P w K mg base (3 * d) Bz) (er : T.row "law" = some r) (S : FnScope r.N [x] r.scope) (tb : LamX.TabB base mg c Pt) (hc : cdv = .ref c)
    (hr : Room (3 * d + 6) (A.deeper (envOfC r.qual r.scope s.heap.objs.size f cdv))) :
    OkX T.prog (call T.prog d) (T.fa K) (3 * d) r.N ⟨r.scope, true, true⟩ (fun c d _ H => E c d H) (cxOf (L2.CX P w) P w K mg base r.N r.qual r.scope f cdv A outer s H E) ⟨[(Pt, r.qual ++ ".<locals>." ++ "<lambda>")], cloC T.prog (envOfC r.qual r.scope s.heap.objs.size f cdv).cells (r.qual ++ ".<locals>." ++ "<lambda>")⟩ := by
  refine ⟨⟨rfl, rfl, S.nd, fun _ _ => rfl, rfl, ?_, ?_, hr.mono (by omega), L _⟩, fun _ => ?_⟩
  · exact takes_of (X := cxOf (L2.CX P w) P w K mg base r.N r.qual r.scope f cdv A outer s H E) rfl rfl rfl rfl
  · exact passes_of (X := cxOf (L2.CX P w) P w K mg base r.N r.qual r.scope f cdv A outer s H E) rfl
  · have h1 := lamD_of (X := cxOf (L2.CX P w) P w K mg base r.N r.qual r.scope f cdv A outer s H E) (c := c) (Pt := Pt) (L ⟨[(Pt, r.qual ++ ".<locals>." ++ "<lambda>")], cloC T.prog (envOfC r.qual r.scope s.heap.objs.size f cdv).cells (r.qual ++ ".<locals>." ++ "<lambda>")⟩) er
    have h2 := h1 tb hc
    have h3 := h2 rfl
    have h4 := h3 rfl
    exact h4 hr
theorem law_fnL {P : Program} {w : World} {base : Heap} {d : Nat} {x : Str} {r : Row} {fd : FuncData} {c Pt : Addr} (L : ∀ Bz, Link T.prog (call T.prog d) (T.fa K) P w K mg base (3 * d) Bz) (hnl : T.lamRow r = true) (er : T.row "law" = some r) (ro : RowOk T r) (hps : r.ps = [x])
    (FD : FunD K (r.sg K).name (r.sg K).qual (r.sg K).params r.body (r.sg K).scope (r.sg K).dvs (r.sg K).kws (r.at_.addr K) fd) (tb : LamX.TabB base mg c Pt) (hc : fd.code = .ref c) : FnOk P w K mg base (L2.CX P w) (3 * d + 7) (r.at_.addr K) fd [x] (spLawL T K d Pt (r.qual ++ ".<locals>." ++ "<lambda>")) := by
  have S : FnScope r.N [x] r.scope := by rw [← hps]; exact ro.sc
  have ck := ro.ck
  rw [hnl] at ck
  obtain ⟨oc, od, dV, kV, doc, pm, an, cdv, ct, osl, rfl, lk, hcd, _, _⟩ := FD.ex
  refine fn_of lk hcd S (fun vs H Q E hsp => ?_) fun A outer s H vs Q E hr hsp => ?_
  · obtain ⟨wd, st, va, hS, rv, l1, q⟩ := hsp fun _ _ _ _ _ _ _ => False
    rw [← rv.length, l1]; rfl
  · obtain ⟨wd, st, va, hS, rv, l1, hp⟩ := hsp (cloC T.prog (envOfC r.qual r.scope s.heap.objs.size (r.at_.addr K) cdv).cells (r.qual ++ ".<locals>." ++ "<lambda>"))
    have e1 : call T.prog (d + 1) "law" va st = runF T.prog (call T.prog d) ⟨r.ps.length, r.N.length, r.ms⟩ va st := by
      show (match (T.row "law").map _ with | some F => runF T.prog (call T.prog d) F va st | none => .stuck) = _
      rw [er]; rfl
    rw [e1] at hp
    unfold runF at hp
    split at hp
    · refine ⟨_, sndSs r.ms _ _ _ _ (okL L er S tb hc hr) r.body ck, wd, va.map some ++ List.replicate (r.N.length - va.length) none, st, re_start rv rfl, hS, ?_⟩
      refine (hp.seq.imp fun w3 f st3 H3 l3 s3 h3 => ?_).impB fun c d H q σ => q
      cases f with
      | next env => exact fun σ' _ => h3 w3 H3 (Le.refl _) s3 _ rfl
      | ret v => exact fun x r => h3 w3 H3 (Le.refl _) s3 x r
      | brk env => exact h3.elim
      | cont env => exact h3.elim
    · exact hp.elim
theorem law_spL {d : Nat} {H : Hp} {a P : Addr} {q : Str} {ns : List Int} (hz : ns.length ≤ sizeLine) (hP : H P = some (.tbl #[])) (hS : SqL K H a (ns.map V.int)) {st' : Store} (h : call T.prog (d + 1) "law" [.scr ns] [] = .ok (.bl true) st') :
    spLawL T K d P q [.ref a] H (fun v _ => v = .bl true) fun _ _ _ => False := fun C => by
  have hF : ∀ p o, p ≠ P → (if p = P then none else H p) = some o → H p = some o := fun p o n e => by rw [if_neg n] at e; exact e
  have hS2 : SqL K (fun p => if p = P then none else H p) a (ns.map V.int) := by
    rcases hS with s | s
    · refine .inl ?_
      have na : a ≠ P := fun z => by
        rw [z] at s
        rcases s with s | ⟨o, s⟩ <;> (rw [hP] at s; cases s)
      rcases s with s | ⟨o, s⟩
      · exact .inl (by show (if a = P then none else H a) = _; rw [if_neg na]; exact s)
      · exact .inr ⟨o, by show (if a = P then none else H a) = _; rw [if_neg na]; exact s⟩
    · exact .inr s
  refine ⟨⟨fun p => if p = P then none else H p, [], fun _ => none⟩, [], [.scr ns], ⟨fun p o e => ?_, rfl, fun i p s e => (by simp at e), List.nodup_nil, fun i p e => (by simp at e), fun p o e => (by cases e), fun i p e => (by simp at e), fun p n => absurd rfl n, fun z hz => ?_, fun z hz => ?_⟩, .cons ⟨a, rfl, hS2, hz⟩ .nil, rfl, ?_⟩
  · by_cases n : p = P
    · simp only [if_pos n] at e; cases e
    · exact hF p o n e
  · have ez : z = (P, q) := by simpa using hz
    subst ez
    refine ⟨#[], hP, trivial, fun pos cv hcv => ?_⟩
    have z : codeAmong pos [] = some cv := hcv
    simp [codeAmong] at z
  · have ez : z = (P, q) := by simpa using hz
    subst ez
    exact ⟨if_pos rfl, rfl⟩
  · rw [h]
    exact fun w' H' l s x r => r
def spLawL0 (T : Tab) (K : PySem.W.Frag) (d : Nat) (P : Addr) (q : Str) : Sp := fun vs H Q _ => spLawL T K d P q vs H Q fun _ _ _ => False
theorem law_fnL0 {P : Program} {w : World} {base : Heap} {d k : Nat} {x : Str} {f Pt : Addr} {q : Str} {fd : FuncData} (F : FnOk P w K mg base (L2.CX P w) k f fd [x] (spLawL T K d Pt q)) : FnOk P w K mg base (fun _ _ _ _ _ _ => False) k f fd [x] (spLawL0 T K d Pt q) := by
  refine ⟨fun vs H Q E h => F.len vs H Q _ h, fun A outer s H args us vs Q E hr he hb hv hs => codeAny_mono (F.run A outer s H args us vs Q (fun _ _ _ => False) hr he hb hv hs) fun r s' hq => ?_⟩
  cases r with
  | error e =>
    obtain ⟨_, _, _, _, _, _, _, _, _, _, _, _, z⟩ := hq
    exact z.elim
  | ok fl =>
    cases fl with
    | ret u => exact hq
    | next => exact hq
    | brk => exact hq
    | cont => exact hq
theorem law_factsL {l : PySem.W.OpenLaw} {w : World} {d n : Nat} {x : Str} {r : Mp.Row} {f : Addr} (hn : n ≤ 63) (X : K.In h) (G : h.Ns mainGlobals mg) (sl : SaysL T K h) (okT : T.okT = true) (hr : ∀ r ∈ T.rows, RowOk T r) (hs : ∀ q ∈ T.shapes, ShapeOk T q) (M : MainOk l.prog T.file) (gt : T.gots = true → GotTab T) (at_ : T.alls = true → AllTab T) (hnl : T.lamRow r = true)
    (er : T.row "law" = some r) (hat : r.at_ = .glo "law") (hg : T.gfn.contains "law" = true) (hps : r.ps = [x]) (hd : r.dfl = []) (hmg : mg "law" = some (.ref f)) (hb : ∀ (dV kV doc pm : Value) (an : Option Addr) (cdv ct : Value) (u : Value), bindArgs (PySem.W.fnOf r.name r.qual r.params r.body r.scope .none kV doc pm an cdv ct) ⟨[u], []⟩ = pure [(x, u)])
    (law : ∀ ns : List Int, ns.length ≤ 63 → ∃ st', call T.prog (d + 1) "law" [.scr ns] [] = .ok (.bl true) st') : LamX.LawAtS l w K (fun _ _ _ _ _ _ => False) (3 * d + 7) n x mg f h := by
  have c := sl.says
  have hrm := List.mem_of_find?_eq_some er
  obtain ⟨fd, FD⟩ := says_row c hrm
  have gd : T.gots = true → GotD l.prog K mg := fun z => gotD_of X G c hr z (gt z)
  have ga : T.alls = true → AllD K mg := fun z => allD_of X G c hr (at_ z)
  have L := fun base Bz => tab_calls (P := l.prog) (w := w) (base := base) (Bz := Bz) X G c okT hr hs (fun _ => M) gd ga d
  have ef : f = r.at_.addr K := by
    have e1 := (tab_link (prog := l.prog) (Bz := Bz0) X G (says_fact c) okT (fun _ => M) gd ga).gf "law" hg
    rw [hmg] at e1
    have e2 : f = T.fa K "law" := by
      injection e1 with e1
      injection e1
    rw [e2]
    unfold Tab.fa
    rw [er]
  subst ef
  have hc : fd.code = .ref (lawTab K).1 := by
    obtain ⟨fd', e1, e2⟩ := sl.own
    obtain ⟨oc, od, osl, e3⟩ := fnO_ok e1
    obtain ⟨oc', od', dV, kV, doc, pm, an, cdv, ct, osl', rfl, lk, _⟩ := FD.ex
    have ea : r.at_.addr K = He.ga K "law" := by rw [hat]; rfl
    rw [ea, e3] at lk
    injection lk with lk
    injection lk with _ _ lk _
    injection lk with lk
    rw [← lk]; exact e2
  refine ⟨fd, [((lawTab K).1, (lawTab K).2)], spLawL0 T K d (lawTab K).2 (r.qual ++ ".<locals>." ++ "<lambda>"), fun p hp => ?_, fun p hp => ?_, fun p hp => ?_, ?_, fun H a ns hl _ hT hS => ?_, fun base _ _ hT => ?_⟩
  · rw [List.mem_singleton] at hp; subst hp; exact sl.at_
  · rw [List.mem_singleton] at hp; subst hp; exact sl.none
  · rw [List.mem_singleton] at hp; subst hp; exact sl.code
  · obtain ⟨oc, od, dV, kV, doc, pm, an, cdv, ct, osl, rfl, lk, hcd, hD, hK⟩ := FD.ex
    rcases hD with ⟨_, rfl⟩ | ⟨e,
                                  _⟩
    · exact fun s u => .of_eq (hb .none kV doc pm an cdv ct u)
    · exact absurd (by show r.dfl.map _ = []; rw [hd]; rfl) e
  · obtain ⟨st', e⟩ := law ns (Nat.le_trans hl hn)
    exact law_spL (Nat.le_trans (Nat.le_trans hl hn) (by rw [sizeLine_eq]; omega)) (hT _ (List.mem_singleton.mpr rfl)) hS e
  · exact law_fnL0 (law_fnL (fun Bz => L base Bz) hnl er (hr r hrm) hps FD (hT _ (List.mem_singleton.mpr rfl)) hc)
end
end Mp
end
section
set_option Elab.async false
set_option linter.all false
set_option maxRecDepth 100000
set_option maxHeartbeats
                         1000000
namespace Mp
open PySem L2 PySem.Spec PyProof.Rows
inductive Chk where
  | row (r : Row)
  | gfn (f : Str)
  | cls (c : Str)
  | meth (c m g : Str)
  | prop (c f g : Str)
  | con (c f : Str) (v : Val)
  | fl (c f : Str)
  | glob (x : Str) (v : Val)
  | sub (a b : Str) (v : Bool)
  | bi (x : String)
  | exc (c : Str) (fs : List Str)
  | xsub (a b : Str) (v : Bool)
  | got
def Chk.ok (T : Tab) (K : PySem.W.Frag) : Chk → Bool
  | .row r => r.ok K
  | .gfn f => He.eqO (PySem.W.nsIn K mainGlobals f) (some (some (.ref (T.fa K f))))
  | .cls c => clsB K c
  | .meth c m g => methB T K c m g
  | .prop c f g => propB T K c f g
  | .con c f v => conB K c f v
  | .fl c f => He.eqO (PySem.W.findIn K (.ref (He.ga K c)) f) (some none)
  | .glob x v => globB K x v
  | .sub a b v => decide (PySem.W.kitOne K (tyVal K a) (tyVal K b) = some v)
  | .bi x => He.eqO (PySem.W.nsIn K mainGlobals (Str.ofString x)) (some none)
  | .exc c fs => exB T.file K c fs
  | .xsub a b v => decide (PySem.W.kitOne K (.ref (He.ga K a)) (.ref (He.ga K b)) = some v)
  | .got => (!T.gots || gotK K) && (T.shapes.all (dflB T K) && T.stats.all (fun q => statB T K q.1.1 q.1.2 q.2))
def Tab.checks (T : Tab) : List Chk := T.rows.map .row ++ (T.gfn.map .gfn ++ (T.cls.map .cls ++ (T.meths.map (fun q => .meth q.1.1 q.1.2 q.2) ++ (T.props.map (fun q => .prop q.1.1 q.1.2 q.2) ++
  (T.cons.map (fun q => .con q.1.1 q.1.2 q.2) ++ (T.fls.map (fun q => .fl q.1 q.2) ++ (T.globs.map (fun q => .glob q.1 q.2) ++ (T.subs.map (fun q => .sub q.1.1 q.1.2 q.2) ++ (biNames.map .bi ++ (T.excs.map (fun q => .exc q.1 q.2) ++ (T.xsubs.map (fun q => .xsub q.1.1 q.1.2 q.2) ++ [.got])))))))))))
theorem checks_all (T : Tab) (K : PySem.W.Frag) : T.checks.all (Chk.ok T K) = T.okK K := by
  unfold Tab.checks Tab.okK
  simp only [List.all_append, List.all_map, List.all_cons, List.all_nil, Bool.and_true]
  rfl
def ckPart (n : Nat) (T : Tab) (a m : Nat) (s : PySem.W.SharedT) : Bool := let K := He.frG (HandSHeadRun.getT s) (bitsG (HandSHeadRun.getT s) n); ((T.checks.drop a).take m).all (Chk.ok T K)
def rwPart (n : Nat) (T : Tab) (a m : Nat) (s : PySem.W.SharedT) : List He.FnW := let K := He.frG (HandSHeadRun.getT s) (bitsG (HandSHeadRun.getT s) n); ((T.rows.drop a).take m).map fun r => fnAt K (r.at_.addr K)
def rwVals (T : Tab) (a m : Nat) : List He.FnW := ((T.rows.drop a).take m).map Row.val
section
open PySem.W HandSHeadRun
def EndIs (r : OpenRow) (M : Nat) (w : World) (os : OsState) (s : SharedT) : Prop := endF (stepQ (denQ tabQ) r.prog w) M r.prog w os = some s
theorem of_map {α : Type} {r : OpenRow} {M : Nat} {w : World} {os : OsState} {s : SharedT} {f : SharedT → α} {v : α} (e : EndIs r M w os s) (h : (endF (stepQ (denQ tabQ) r.prog w) M r.prog w os).map f = some v) : f s = v := by
  rw [show endF (stepQ (denQ tabQ) r.prog w) M r.prog w os = some s from e] at h
  exact Option.some.inj h
def CkFrom (r : OpenRow) (M n : Nat) (T : Tab) (w : World) (a : Nat) : Prop := ∀ os s, EndIs r M w os s → ∀ K, K = He.frG (getT s) (bitsG (getT s) n) → (T.checks.drop a).all (Chk.ok T K) = true
def RwFrom (r : OpenRow) (M n : Nat) (T : Tab) (w : World) (a : Nat) : Prop := ∀ os s, EndIs r M w os s → ∀ K, K = He.frG (getT s) (bitsG (getT s) n) → ((T.rows.drop a).map fun r => fnAt K (r.at_.addr K)) = (T.rows.drop a).map Row.val
theorem ck_end {r : OpenRow} {M n : Nat} {T : Tab} {w : World} {a : Nat} (h : T.checks.length ≤ a) : CkFrom r M n T w a := fun os s e K hK => by
  rw [List.drop_eq_nil_of_le h]; rfl
theorem rw_end {r : OpenRow} {M n : Nat} {T : Tab} {w : World} {a : Nat} (h : T.rows.length ≤ a) : RwFrom r M n T w a := fun os s e K hK => by
  rw [List.drop_eq_nil_of_le h]; rfl
theorem ck_step {r : OpenRow} {M n : Nat} {T : Tab} {w : World} {a m : Nat} (h : ∀ os, (endF (stepQ (denQ tabQ) r.prog w) M r.prog w os).map (ckPart n T a m) = some true) (k : CkFrom r M n T w (a + m)) : CkFrom r M n T w a := fun os s e K hK => by
  have h1 := of_map e (h os)
  have h2 := k os s e K hK
  subst hK
  rw [← List.take_append_drop m (T.checks.drop a), List.all_append, List.drop_drop, h2, Bool.and_true]
  exact h1
theorem rw_step {r : OpenRow} {M n : Nat} {T : Tab} {w : World} {a m : Nat} (h : ∀ os, (endF (stepQ (denQ tabQ) r.prog w) M r.prog w os).map (rwPart n T a m) = some (rwVals T a m)) (k : RwFrom r M n T w (a + m)) : RwFrom r M n T w a := fun os s e K hK => by
  have h1 := of_map e (h os)
  have h2 := k os s e K hK
  subst hK
  rw [← List.take_append_drop m (T.rows.drop a), List.map_append, List.map_append, List.drop_drop, h2]
  exact congrArg (· ++ _) h1
theorem run_parts {r : OpenRow} {q : Program} {T : Tab} {n M : Nat} {loose : List Str} {w : World} (hL : ∀ os : OsState, (endF (stepQ (denQ tabQ) r.prog w) M r.prog w os).map (fun s => (looksF r.prog (boot_heap w.params) s.abs, seenQ q loose (importedModules r.prog.main.body) (fun s => xlAt q [] s && recOk r.toRowW.records s) s.abs)) = some (true, openGood q loose))
    (hc : CkFrom r M n T w 0) (hr : RwFrom r M n T w 0) : RunEq r q (hookT n T) (fun s => obsG n T (getT s)) M loose w := fun os => by
  have h := hL os
  obtain ⟨s, hs, hv⟩ := Option.map_eq_some_iff.mp h
  rw [hs]
  show some (_, _, obsG n T (getT s)) = _
  have h1 := hc os s hs _ rfl
  have h2 := hr os s hs _ rfl
  rw [List.drop_zero, checks_all] at h1
  rw [List.drop_zero] at h2
  obtain ⟨e1, e2⟩ := Prod.mk.inj hv
  rw [e1, e2]
  have e3 : obsG n T (getT s) = valT T := by
    unfold obsG obsK valT
    rw [h1, h2]
  rw [e3]
  rfl
end
end Mp
end
section
set_option Elab.async false
set_option linter.all false
set_option maxRecDepth 100000
set_option maxHeartbeats
                         1000000
namespace Mp
open PySem
section
variable (P : Prog) (Φ : Cal) (env : Env) (st : Store)
theorem E_var (i : Nat) : evalE P Φ (.var i) env st = match env[i]? with
    | some (some v) => .ok v st
    | _ => .stuck := rfl
theorem E_non : evalE P Φ .non env st = .ok .non st := rfl
theorem E_bl (b : Bool) : evalE P Φ (.bl b) env st = .ok (.bl b) st := rfl
theorem E_int (i : Int) : evalE P Φ (.int i) env st = .ok (.int i) st := rfl
theorem E_str (x : Str) : evalE P Φ (.str x) env st = .ok (.str x) st := rfl
theorem E_glob (x : Str) : evalE P Φ (.glob x) env st = R.of (P.glob x) st := rfl
theorem E_bin (op : Bop) (a b : ME) : evalE P Φ (.bin op a b) env st = (evalE P Φ a env st).then_ fun x st => (evalE P Φ b env st).then_ fun y st => R.of (binV st op x y) st := rfl
theorem E_neg (a : ME) : evalE P Φ (.neg a) env st = (evalE P Φ a env st).then_ fun x st => match x with
    | .int i => .ok (.int (-i)) st
    | _ => .stuck := rfl
theorem E_cmp (op : Cop) (a b : ME) : evalE P Φ (.cmp op a b) env st = (evalE P Φ a env st).then_ fun x st => (evalE P Φ b env st).then_ fun y st => R.of ((cmpV st op x y).map .bl) st := rfl
theorem E_chain (o1 o2 : Cop) (a b c : ME) : evalE P Φ (.chain o1 o2 a b c) env st = (evalE P Φ a env st).then_ fun x st => (evalE P Φ b env st).then_ fun y st => match cmpV st o1 x y with
    | none => .stuck
    | some false => .ok (.bl false) st
    | some true => (evalE P Φ c env st).then_ fun z st => R.of ((cmpV st o2 y z).map .bl) st := rfl
theorem E_and (es : List ME) : evalE P Φ (.and es) env st = andE P Φ es env st := rfl
theorem E_or (es : List ME) : evalE P Φ (.or es) env st = orE P Φ es env st := rfl
theorem E_not (a : ME) : evalE P Φ (.not a) env st = (evalE P Φ a env st).then_ fun x st => match x with
    | .bl b => .ok (.bl !b) st
    | _ => .stuck := rfl
theorem E_ite (c a b : ME) : evalE P Φ (.ite c a b) env st = (evalT P Φ c env st).then_ fun k st => match k with
    | true => evalE P Φ a env st
    | false => evalE P Φ b env st := rfl
theorem E_tup (es : List ME) : evalE P Φ (.tup es) env st = (evalEs P Φ es env st).then_ fun vs st => .ok (.tup vs) st := rfl
theorem E_lstF (es : List ME) : evalE P Φ (.lst false es) env st = (evalEs P Φ es env st).then_ fun vs st => .ok (.lst vs) st := rfl
theorem E_lstT (es : List ME) : evalE P Φ (.lst true es) env st = (evalEs P Φ es env st).then_ fun vs st => .ok (.ref st.length) (st ++ [.lst vs]) := rfl
theorem E_ix (a b : ME) : evalE P Φ (.ix a b) env st = (evalE P Φ a env st).then_ fun x st => (evalE P Φ b env st).then_ fun y st => R.of (ixV st x y) st := rfl
theorem E_slc (a : ME) (lo hi : List ME) : evalE P Φ (.slc a lo hi) env st = (evalE P Φ a env st).then_ fun x st => (evalEs P Φ lo env st).then_ fun l st => match partOf l with
    | none => .stuck
    | some l => (evalEs P Φ hi env st).then_ fun h st => match partOf h with
      | none => .stuck
      | some h => R.of (slcV st x l h) st := rfl
theorem E_attr (a : ME) (f : Str) : evalE P Φ (.attr a f) env st = (evalE P Φ a env st).then_ fun x st => attrM P Φ x f st := rfl
theorem E_call (m : Mode) (f : Str) (es : List ME) (kn : List Str) (ks : List ME) : evalE P Φ (.call m f es kn ks) env st = (evalEs P Φ es env st).then_ fun vs st => (evalEs P Φ ks env st).then_ fun zs st => callM P Φ m f kn vs zs st := rfl
theorem E_make (m : Mode) (f : Str) (es : List ME) (kn : List Str) (ks : List ME) : evalE P Φ (.make m f es kn ks) env st = (evalEs P Φ es env st).then_ fun vs st => (evalEs P Φ ks env st).then_ fun zs st => makeM P Φ m f kn vs zs st := rfl
theorem E_meth (m : Mode) (a : ME) (f : Str) (es : List ME) : evalE P Φ (.meth m a f es) env st = (evalE P Φ a env st).then_ fun x st => match methG P x f (es.length + 1) st with
    | none => .stuck
    | some g => (evalEs P Φ es env st).then_ fun vs st => callM P Φ m g [] (x :: vs) [] st := rfl
theorem E_methk (m : Mode) (a : ME) (f : Str) (es : List ME) (kn : List Str) (ks : List ME) : evalE P Φ (.methk m a f es kn ks) env st = (evalE P Φ a env st).then_ fun x st => match methK P x f (es.length + 1) kn st with
    | none => .stuck
    | some g => (evalEs P Φ es env st).then_ fun vs st => (evalEs P Φ ks env st).then_ fun zs st => callM P Φ m g kn (x :: vs) zs st := rfl
theorem E_bcall (f : String) (es : List ME) : evalE P Φ (.bcall f es) env st = (evalEs P Φ es env st).then_ fun vs st => R.of (bV st f vs) st := rfl
theorem E_bmeth (f : String) (a : ME) (es : List ME) : evalE P Φ (.bmeth f a es) env st = (evalE P Φ a env st).then_ fun x st => match bmTy st f x with
    | false => .stuck
    | true => (evalEs P Φ es env st).then_ fun vs st => match bmV st f x vs with
      | some (v, st') => .ok v st'
      | none => .stuck := rfl
theorem E_isin (a : ME) (ts : List Str) : evalE P Φ (.isin a ts) env st = (evalE P Φ a env st).then_ fun x st => R.of ((isTs P st x ts).map .bl) st := rfl
theorem E_comp (mu : Bool) (elt : ME) (tg : MT) (k : SrcK) (es ifs : List ME) : evalE P Φ (.comp mu elt tg k es ifs) env st = (srcE P Φ k es env st).then_ (compE P Φ mu tg elt ifs env) := rfl
theorem E_lam (i : Nat) : evalE P Φ (.lam i) env st = .ok (.clo i) st := rfl
theorem E_got (i : Nat) : evalE P Φ (.got i) env st = gotR P (P.lam Φ i env st) := rfl
theorem E_gotall (a : ME) : evalE P Φ (.gotall a) env st = (evalE P Φ a env st).then_ fun x st => match lstOf st x with
  | some xs => if xs.length ≤ sizeLine then (compL (gotF P fun i st => P.lam Φ i env st) (liveOf x xs) xs [] st).then_ fun ys st => .ok (.lst ys) st else .stuck
  | none => .stuck := rfl
theorem S_raise (c : Str) (es : List ME) : evalS P Φ (.raise_ c es) env st = (evalEs P Φ es env st).then_ fun vs st => raiseM P c vs st := rfl
theorem E_fstr (es : List ME) : evalE P Φ (.fstr es) env st = fmtL P Φ es Str.empty env st := rfl
theorem E_ladd (a b : ME) : evalE P Φ (.ladd a b) env st = (evalE P Φ a env st).then_ fun x st => (evalE P Φ b env st).then_ fun y st => match lstOf st x, lstOf st y with
    | some xs, some ys => if xs.length + ys.length ≤ sizeLine then .ok (.ref st.length) (st ++ [.lst (xs ++ ys)]) else .stuck
    | _, _ => .stuck := rfl
theorem E_dict (ks : List Str) (es : List ME) : evalE P Φ (.dict ks es) env st = (evalEs P Φ es env st).then_ fun vs st => .ok (.ref st.length) (st ++ [.ins dN ks vs]) := rfl
theorem E_dget (a : ME) (f : Str) : evalE P Φ (.dget a f) env st = (evalE P Φ a env st).then_ fun x st => R.of (dgetV st x f) st := rfl
theorem E_dictT : evalE P Φ .dictT env st = .ok (.ref st.length) (st ++ [.ins dT [] []]) := rfl
theorem E_dgetT (a : ME) (ks : List ME) : evalE P Φ (.dgetT a ks) env st = (evalE P Φ a env st).then_ fun x st => (evalEs P Φ ks env st).then_ fun ys st => R.of (dgetTV st x ys) st := rfl
theorem E_dgetL (a : ME) (ks : List ME) : evalE P Φ (.dgetL a ks) env st = (evalE P Φ a env st).then_ fun x st => match dctT st x with
    | none => .stuck
    | some _ => (evalEs P Φ ks env st).then_ fun ys st => R.of (dgetLV st x ys) (st ++ [.lst []]) := rfl
theorem E_dsetd (a : ME) (ks : List ME) : evalE P Φ (.dsetd a ks) env st = (evalE P Φ a env st).then_ fun x st => match dctT st x with
    | none => .stuck
    | some _ => (evalEs P Φ ks env st).then_ fun ys st => match dsetdV st x ys with
      | some (v, st') => .ok v st'
      | none => .stuck := rfl
theorem S_subaug (o i : ME) (op : Bop) (e : ME) : evalS P Φ (.subaug o i op e) env st = (evalE P Φ o env st).then_ fun x st => (evalE P Φ i env st).then_ fun y st => match subGet st x y with
    | none => .stuck
    | some a => (evalE P Φ e env st).then_ fun v st => match binJ op a v with
      | none => .stuck
      | some k => match setV st x y (.int k) with
        | some st' => .ok (.next env) st'
        | none => .stuck := rfl
theorem T_dget (a : ME) (f : Str) : evalT P Φ (.dget a f) env st = ((evalE P Φ a env st).then_ fun x st => R.of (dgetV st x f) st).then_ fun v st => R.of (truV st v) st := rfl
theorem S_dput (o : ME) (f : Str) (e : ME) : evalS P Φ (.dput o f e) env st = (evalE P Φ e env st).then_ fun v st => (evalE P Φ o env st).then_ fun x st => match dputV st x f v with
    | some st' => .ok (.next env) st'
    | none => .stuck := rfl
theorem S_dpar (i : Nat) (ks : List Str) (e : ME) : evalS P Φ (.dpar i ks e) env st = (evalE P Φ e env st).then_ fun v st => match v, env[i]? with
    | .tup vs, some (some x) => (match dputsV st x ks vs with
      | some st' => .ok (.next env) st'
      | none => .stuck)
    | _, _ => .stuck := rfl
theorem E_lcopy (a : ME) : evalE P Φ (.lcopy a) env st = (evalE P Φ a env st).then_ fun x st => match seqOf st x with
    | some xs => .ok (.ref st.length) (st ++ [.lst xs])
    | none => .stuck := rfl
theorem E_own1 (len : Bool) (a : ME) : evalE P Φ (.own1 len a) env st = (evalE P Φ a env st).then_ fun x st => own1M P Φ len x st := rfl
theorem E_own2 (ne : Bool) (a b : ME) : evalE P Φ (.own2 ne a b) env st = (evalE P Φ a env st).then_ fun x st => (evalE P Φ b env st).then_ fun y st => own2M P Φ ne x y st := rfl
theorem T_own2 (ne : Bool) (a b : ME) : evalT P Φ (.own2 ne a b) env st = asB ((evalE P Φ a env st).then_ fun x st => (evalE P Φ b env st).then_ fun y st => own2M P Φ ne x y st) := rfl
theorem E_ownL (ne : Bool) (a b : ME) : evalE P Φ (.ownL ne a b) env st = (evalE P Φ a env st).then_ fun x st => (evalE P Φ b env st).then_ fun y st => ownLM P Φ ne x y st := rfl
theorem T_ownL (ne : Bool) (a b : ME) : evalT P Φ (.ownL ne a b) env st = asB ((evalE P Φ a env st).then_ fun x st => (evalE P Φ b env st).then_ fun y st => ownLM P Φ ne x y st) := rfl
theorem E_comp2 (mu : Bool) (elt : ME) (tg tg1 : MT) (k k1 : SrcK) (es ifs es1 ifs1 : List ME) : evalE P Φ (.comp2 mu elt tg k es ifs tg1 k1 es1 ifs1) env st = (srcE P Φ k es env st).then_ fun p st => (comp2L (turn2F P Φ tg ifs tg1 k1 es1 elt ifs1 env) p.2 p.1 [] st).then_ (finC mu) := rfl
theorem Es_nil : evalEs P Φ [] env st = .ok [] st := rfl
theorem Es_cons (e : ME) (es : List ME) : evalEs P Φ (e :: es) env st = (evalE P Φ e env st).then_ fun v st => (evalEs P Φ es env st).then_ fun vs st => .ok (v :: vs) st := rfl
theorem and_one (e : ME) : andE P Φ [e] env st = evalE P Φ e env st := rfl
theorem and_two (e e' : ME) (es : List ME) : andE P Φ (e :: e' :: es) env st = (evalE P Φ e env st).then_ fun v st => match v with
    | .bl true => andE P Φ (e' :: es) env st
    | .bl false => .ok (.bl false) st
    | _ => .stuck := rfl
theorem or_one (e : ME) : orE P Φ [e] env st = evalE P Φ e env st := rfl
theorem or_two (e e' : ME) (es : List ME) : orE P Φ (e :: e' :: es) env st = (evalE P Φ e env st).then_ fun v st => match v with
    | .bl false => orE P Φ (e' :: es) env st
    | .bl true => .ok (.bl true) st
    | _ => .stuck := rfl
theorem fmt_nil (acc : Str) : fmtL P Φ [] acc env st = .ok (.str acc) st := rfl
theorem T_and (es : List ME) : evalT P Φ (.and es) env st = andT P Φ es env st := rfl
theorem T_or (es : List ME) : evalT P Φ (.or es) env st = orT P Φ es env st := rfl
theorem T_not (a : ME) : evalT P Φ (.not a) env st = (evalT P Φ a env st).then_ fun b st => .ok (!b) st := rfl
theorem T_cmp (op : Cop) (a b : ME) : evalT P Φ (.cmp op a b) env st = asB ((evalE P Φ a env st).then_ fun x st => (evalE P Φ b env st).then_ fun y st => R.of ((cmpV st op x y).map .bl) st) := rfl
theorem T_chain (o1 o2 : Cop) (a b c : ME) : evalT P Φ (.chain o1 o2 a b c) env st = asB ((evalE P Φ a env st).then_ fun x st => (evalE P Φ b env st).then_ fun y st => match cmpV st o1 x y with
    | none => .stuck
    | some false => .ok (.bl false) st
    | some true => (evalE P Φ c env st).then_ fun z st => R.of ((cmpV st o2 y z).map .bl) st) := rfl
theorem T_var (i : Nat) : evalT P Φ (.var i) env st = match env[i]? with
    | some (some v) => R.of (truV st v) st
    | _ => .stuck := rfl
theorem T_bl (b : Bool) : evalT P Φ (.bl b) env st = .ok b st := rfl
theorem T_attr (a : ME) (f : Str) : evalT P Φ (.attr a f) env st = ((evalE P Φ a env st).then_ fun x st => attrM P Φ x f st).then_ fun v st => R.of (truV st v) st := rfl
theorem T_call (m : Mode) (f : Str) (es : List ME) (kn : List Str) (ks : List ME) : evalT P Φ (.call m f es kn ks) env st = ((evalEs P Φ es env st).then_ fun vs st => (evalEs P Φ ks env st).then_ fun zs st => callM P Φ m f kn vs zs st).then_ fun v st => R.of (truV st v) st := rfl
theorem T_bcall (f : String) (es : List ME) : evalT P Φ (.bcall f es) env st = ((evalEs P Φ es env st).then_ fun vs st => R.of (bV st f vs) st).then_ fun v st => R.of (truV st v) st := rfl
theorem T_ix (a b : ME) : evalT P Φ (.ix a b) env st = ((evalE P Φ a env st).then_ fun x st => (evalE P Φ b env st).then_ fun y st => R.of (ixV st x y) st).then_ fun v st => R.of (truV st v) st := rfl
theorem T_isin (a : ME) (ts : List Str) : evalT P Φ (.isin a ts) env st = ((evalE P Φ a env st).then_ fun x st => R.of ((isTs P st x ts).map .bl) st).then_ fun v st => R.of (truV st v) st := rfl
theorem andT_one (e : ME) : andT P Φ [e] env st = evalT P Φ e env st := rfl
theorem andT_two (e e' : ME) (es : List ME) : andT P Φ (e :: e' :: es) env st = (evalT P Φ e env st).then_ fun b st => match b with
    | true => andT P Φ (e' :: es) env st
    | false => .ok false st := rfl
theorem orT_one (e : ME) : orT P Φ [e] env st = evalT P Φ e env st := rfl
theorem orT_two (e e' : ME) (es : List ME) : orT P Φ (e :: e' :: es) env st = (evalT P Φ e env st).then_ fun b st => match b with
    | false => orT P Φ (e' :: es) env st
    | true => .ok true st := rfl
theorem test_nil : testL P Φ [] env st = .ok true st := rfl
theorem test_one (e : ME) : testL P Φ [e] env st = evalT P Φ e env st := rfl
theorem S_expr (e : ME) : evalS P Φ (.expr e) env st = (evalE P Φ e env st).then_ fun _ st => .ok (.next env) st := rfl
theorem S_set (t : MT) (e : ME) : evalS P Φ (.set t e) env st = (evalE P Φ e env st).then_ fun v st => match bindT t v env with
    | some env' => .ok (.next env') st
    | none => .stuck := rfl
theorem S_sett (t : MT) (e : ME) : evalS P Φ (.sett t e) env st = (evalE P Φ e env st).then_ fun v st => match bindT t v env with
    | some env' => .ok (.next env') st
    | none => .stuck := rfl
theorem S_setc (i : Nat) (e : ME) : evalS P Φ (.setc i e) env st = (evalE P Φ e env st).then_ fun v st => if i < env.length then .ok (.next (env.set i (some v))) st else .stuck := rfl
theorem S_par (i j : Nat) (a b : ME) : evalS P Φ (.par i j a b) env st = (evalE P Φ a env st).then_ fun v st => (evalE P Φ b env st).then_ fun u st =>
    if i < env.length ∧ j < env.length then .ok (.next ((env.set i (some v)).set j (some u))) st else .stuck := rfl
theorem S_par3 (i j l : Nat) (es : List ME) : evalS P Φ (.par3 i j l es) env st = (evalEs P Φ es env st).then_ fun vs st => match vs with
    | [u, v, w] => if i < env.length ∧ j < env.length ∧ l < env.length then .ok (.next (((env.set i (some u)).set j (some v)).set l (some w))) st else .stuck
    | _ => .stuck := rfl
theorem S_fld (o e : ME) (f : Str) : evalS P Φ (.fld o f e) env st = (evalE P Φ e env st).then_ fun v st => (evalE P Φ o env st).then_ fun x st => match fldSet P st x f v with
    | some st' => .ok (.next env) st'
    | none => .stuck := rfl
theorem S_sub (o i e : ME) : evalS P Φ (.sub o i e) env st = (evalE P Φ e env st).then_ fun v st => (evalE P Φ o env st).then_ fun x st => (evalE P Φ i env st).then_ fun y st => match setV st x y v with
    | some st' => .ok (.next env) st'
    | none => .stuck := rfl
theorem S_ret (e : ME) : evalS P Φ (.ret e) env st = (evalE P Φ e env st).then_ fun v st => .ok (.ret v) st := rfl
theorem S_retN : evalS P Φ .retN env st = .ok (.ret .non) st := rfl
theorem S_ite (c : ME) (a b : List MS) : evalS P Φ (.ite c a b) env st = (evalT P Φ c env st).then_ fun k st => match k with
    | true => evalSs P Φ a env st
    | false => evalSs P Φ b env st := rfl
def forF (P : Prog) (Φ : Cal) (t : MT) (body : List MS) : Val → Env → Store → R Fl := fun x env st => match bindT t x env with
        | none => .stuck
        | some env' => evalSs P Φ body env' st
theorem S_for (t : MT) (k : SrcK) (es : List ME) (body : List MS) : evalS P Φ (.for_ t k es body) env st = (srcE P Φ k es env st).then_ fun p st => loopF (forF P Φ t body) p.2 p.1 env st := rfl
theorem S_pass : evalS P Φ .pass env st = .ok (.next env) st := rfl
theorem Ss_nil : evalSs P Φ [] env st = .ok (.next env) st := rfl
theorem Ss_cons (s : MS) (ss : List MS) : evalSs P Φ (s :: ss) env st = (evalS P Φ s env st).then_ fun f st => match f with
    | .next env' => evalSs P Φ ss env' st
    | f => .ok f st := rfl
end
mutual
def closed : Val → Bool
  | .ref _ => false
  | .clo _ => false
  | .tup xs => closeds xs
  | .lst xs => closeds xs
  | .ins _ _ vs => closeds vs
  | _ => true
def closeds : List Val → Bool
  | [] => true
  | x :: xs => closed x && closeds xs
end
mutual
theorem frz_closed (rd : Nat → Option Val) : ∀ v : Val, closed v = true → frzV rd v = some v
  | .non, _ => rfl
  | .bl _, _ => rfl
  | .int _, _ => rfl
  | .str _, _ => rfl
  | .tup xs, h => by
    show (frzVs rd xs).map Val.tup = _
    rw [frzs_closed rd xs h]; rfl
  | .lst xs, h => by
    show (frzVs rd xs).map Val.lst = _
    rw [frzs_closed rd xs h]; rfl
  | .ins c ns vs, h => by
    show (frzVs rd vs).map (Val.ins c ns) = _
    rw [frzs_closed rd vs h]; rfl
  | .scr _, _ => rfl
  | .clo _, h => by cases h
  | .ref _, h => by cases h
theorem frzs_closed (rd : Nat → Option Val) : ∀ vs : List Val, closeds vs = true → frzVs rd vs = some vs
  | [], _ => rfl
  | x :: xs, h => by
    replace h : (closed x && closeds xs) = true := h
    rw [Bool.and_eq_true] at h
    unfold frzVs
    rw [frz_closed rd x h.1, frzs_closed rd xs h.2]
end
theorem closeds_all {vs : List Val} : closeds vs = true ↔ ∀ v ∈ vs, closed v = true := by
  induction vs with
  | nil => exact ⟨fun _ v h => (by cases h), fun _ => rfl⟩
  | cons x xs ih =>
    show (closed x && closeds xs) = true ↔ _
    rw [Bool.and_eq_true, ih]
    constructor
    · intro ⟨h1, h2⟩ v hv
      rcases List.mem_cons.mp hv with e |
                                          hv
      · rw [e]; exact h1
      · exact h2 v hv
    · intro h
      exact ⟨h x (by simp), fun v hv => h v (List.mem_cons_of_mem _ hv)⟩
theorem at_last (st : Store) (o : SO) : (st ++ [o])[st.length]? = some o := by simp
theorem insOf_last (st : Store) (c : Str) (ns : List Str) (vs : List Val) : insOf (st ++ [.ins c ns vs]) (.ref st.length) = some (c, ns, vs) := by
  simp only [insOf, at_last]
theorem fldSet_last {P : Prog} (st : Store) (c : Str) (ns : List Str) (vs : List Val) (f : Str) (y : Val) (h : ns.length < 1000) (h1 : P.fl c f = true) (h2 : P.isc c = true) : fldSet P (st ++ [.ins c ns vs]) (.ref st.length) f y = some (st ++ [.ins c (putV ns vs f y).1 (putV ns vs f y).2]) := by
  simp only [fldSet, at_last, h, h1, h2, and_self, if_true]
  rw [List.set_append_right _ _ (Nat.le_refl _), Nat.sub_self]; rfl
theorem finish_new {st : Store} {c : Str} {ns : List Str} {vs : List Val} (h : closeds vs = true) : finish .pure st (.ok (.ref st.length) (st ++ [.ins c ns vs])) = .ok (.ins c ns vs) st := by
  show (if begins st (st ++ [.ins c ns vs]) = true then (match rdV (st ++ [.ins c ns vs]) st.length (.ref st.length) with | some y => R.ok y st | none => .stuck) else .stuck) = _
  rw [if_pos (begins_app _ _)]
  have e : rdV (st ++ [.ins c ns vs]) st.length (.ref st.length) = some (.ins c ns vs) := by
    show rdK (st ++ [.ins c ns vs]) st.length none 8 st.length = _
    unfold rdK
    rw [if_neg (Nat.lt_irrefl _), if_neg (by simp), at_last]
    show (frzVs _ vs).map (Val.ins c ns) = _
    rw [frzs_closed _ vs h]; rfl
  rw [e]
theorem make_new {P : Prog} {Φ : Cal} {c f : Str} {kn : List Str} {vs ks args us : List Val} {ns : List Str} {tp : List Src} {st : Store} (h1 : P.meth c "__init__" = some f) (h2 : P.isc c = true) (h3 : P.bind f (vs.length + 1) kn = some tp) (h4 : srcs (.ref st.length :: vs) ks tp = some args)
    (h5 : Φ f args (st ++ [.ins c [] []]) = .ok .non (st ++ [.ins c ns us])) (h6 : closeds us = true) : makeM P Φ .pure c kn vs ks st = .ok (.ins c ns us) st := by
  unfold makeM
  rw [h1]
  simp only [h2, if_true, h3, h4, h5, R.then_ok]
  exact finish_new h6
theorem make_err {P : Prog} {Φ : Cal} {c f : Str} {kn : List Str} {vs ks args us : List Val} {tp : List Src} {st st' : Store} {cc : Str} {ns : List Str} (h1 : P.meth c "__init__" = some f) (h2 : P.isc c = true) (h3 : P.bind f (vs.length + 1) kn = some tp) (h4 : srcs (.ref st.length :: vs) ks tp = some args)
    (h5 : Φ f args (st ++ [.ins c [] []]) = .err cc ns us st') : makeM P Φ .pure c kn vs ks st = .err cc ns us st' := by
  unfold makeM
  rw [h1]
  simp only [h2, if_true, h3, h4, h5]
  rfl
theorem all_same {P : Prog} {F : Nat → Store → R Val} {live : List (Nat × List Val)} {I : Store → Prop} {y : Val} (hl : ∀ st, I st → stillB st live = true) : ∀ (is : List Nat) (acc : List Val) (st : Store), I st → (∀ i ∈ is, ∀ st, I st → ∃ st', gotR P (F i st) = .ok y st' ∧ I st') → ∃ st', compL (gotF P F) live (is.map Val.clo) acc st = .ok (acc ++ List.replicate is.length y) st' ∧ I st'
  | [], acc, st, h, _ => ⟨st, by
    show (if stillB st live = true then R.ok acc st else .stuck) = _
    rw [if_pos (hl st h)]; simp, h⟩
  | i :: r, acc, st, h, hs => by
    obtain ⟨st1, e1, h1⟩ := hs i (by simp) st h
    obtain ⟨st2, e2, h2⟩ := all_same hl r (acc ++ [y]) st1 h1 fun j hj => hs j (List.mem_cons_of_mem _ hj)
    refine ⟨st2, ?_, h2⟩
    show (if stillB st live = true then (noErr ((gotR P (F i st)).then_ fun v st => .ok (some v) st)).then_ (fun o st' => match o with
      | some y => compL (gotF P F) live (r.map Val.clo) (acc ++ [y]) st'
      | none => compL (gotF P F) live (r.map Val.clo) acc st') else .stuck) = _
    rw [if_pos (hl st h), e1]
    show compL (gotF P F) live (r.map Val.clo) (acc ++ [y]) st1 = _
    rw [e2]
    simp [List.replicate_succ]
theorem call_raw {P : Prog} {Φ : Cal} {f : Str} {kn : List Str} {vs ks args : List Val} {tp : List Src} {st : Store} {r : R Val} (h1 : P.bind f vs.length kn = some tp) (h2 : srcs vs ks tp = some args) (h3 : Φ f args st = r) : callM P Φ .raw f kn vs ks st = r := by
  unfold callM
  rw [h1]
  simp only [h2, h3]
  rfl
theorem prop_get {P : Prog} {Φ : Cal} {f g : Str} {a : Val} {c : Str} {ns : List Str} {vs : List Val} {st : Store} {v : Val} (h1 : insOf st a = some (c, ns, vs)) (h2 : P.isc c = true) (h3 : P.prop c f = some g) (h4 : Φ g [a] st = .ok v st) (h5 : closed v = true) : attrM P Φ a f st = .ok v st := by
  unfold attrM
  rw [h1]
  simp only [h2, if_true, h3, h4]
  show noErr (if begins st st = true then (match rdV st st.length v with | some y => R.ok y st | none => .stuck) else .stuck) = _
  rw [if_pos (begins_refl st)]
  have e : rdV st st.length v = some v := frz_closed _ v h5
  rw [e]; rfl
inductive All2 {α β : Type} (r : α → β → Prop) : List α → List β → Prop
  | nil : All2 r [] []
  | cons {a : α} {b : β} {as : List α} {bs : List β} (h : r a b) (t : All2 r as bs) : All2 r (a :: as) (b :: bs)
theorem All2.len {α β : Type} {r : α → β → Prop} {as : List α} {bs : List β} (h : All2 r as bs) : as.length = bs.length := by
  induction h with
  | nil => rfl
  | cons _ _ ih => simp [ih]
theorem All2.right {α β : Type} {r : α → β → Prop} {as : List α} {bs : List β} (h : All2 r as bs) : ∀ b ∈ bs, ∃ a ∈ as, r a b := by
  induction h with
  | nil => intro b hb; cases hb
  | @cons a b as bs h t ih =>
    intro c hc
    rcases List.mem_cons.mp hc with e |
                                        hc
    · rw [e]; exact ⟨a, by simp, h⟩
    · obtain ⟨a', ha, hr⟩ := ih c hc
      exact ⟨a', List.mem_cons_of_mem _ ha, hr⟩
theorem loop_inv {step : Val → Env → Store → R Fl} {I : Env → Store → Prop} : ∀ {items : List Val}, (∀ x ∈ items, ∀ env st, I env st → ∃ env' st', step x env st = .ok (.next env') st' ∧ I env' st') → ∀ env st, I env st → ∃ env' st', loopF step [] items env st = .ok (.next env') st' ∧ I env' st'
  | [], _, env, st, h => ⟨env, st, rfl, h⟩
  | x :: r, hs, env, st, h => by
    obtain ⟨env1, st1, e, h1⟩ := hs x (by simp) env st h
    obtain ⟨env2, st2, e2, h2⟩ := loop_inv (fun y hy => hs y (List.mem_cons_of_mem _ hy)) env1 st1 h1
    refine ⟨env2, st2, ?_, h2⟩
    show (step x env st).then_ _ = _
    rw [e]
    exact e2
theorem comp_all {f : Val → Store → R (Option Val)} {I : Store → Prop} {R' : Val → Val → Prop} : ∀ {items : List Val}, (∀ x ∈ items, ∀ st, I st → ∃ y st', f x st = .ok (some y) st' ∧ R' x y ∧ I st') → ∀ acc st, I st →
    ∃ ys st', compL f [] items acc st = .ok (acc ++ ys) st' ∧ All2 R' items ys ∧ I st'
  | [], _, acc, st, h => ⟨[], st, by rw [List.append_nil]; rfl, .nil, h⟩
  | x :: r, hs, acc, st, h => by
    obtain ⟨y, st1, e, hr, h1⟩ := hs x (by simp) st h
    obtain ⟨ys, st2, e2, hr2, h2⟩ := comp_all (fun z hz => hs z (List.mem_cons_of_mem _ hz)) (acc ++ [y]) st1 h1
    refine ⟨y :: ys, st2, ?_, .cons hr hr2, h2⟩
    show (noErr (f x st)).then_ _ = _
    rw [e]
    show compL f [] r (acc ++ [y]) st1 = _
    rw [e2, List.append_assoc]; rfl
theorem comp_some {f : Val → Store → R (Option Val)} {I : Store → Prop} : ∀ {items : List Val}, (∀ x ∈ items, ∀ st, I st → ∃ o st', f x st = .ok o st' ∧ (o = none ∨ o = some x) ∧ I st') → ∀ acc st, I st →
    ∃ ys st', compL f [] items acc st = .ok (acc ++ ys) st' ∧ ys.Sublist items ∧ I st'
  | [], _, acc, st, h => ⟨[], st, by rw [List.append_nil]; rfl, .slnil, h⟩
  | x :: r, hs, acc, st, h => by
    obtain ⟨o, st1, e, ho, h1⟩ := hs x (by simp) st h
    rcases ho with rfl | rfl
    · obtain ⟨ys, st2, e2, hr2, h2⟩ := comp_some (fun z hz => hs z (List.mem_cons_of_mem _ hz)) acc st1 h1
      refine ⟨ys, st2, ?_, hr2.cons x, h2⟩
      show (noErr (f x st)).then_ _ = _
      rw [e]
      exact e2
    · obtain ⟨ys, st2, e2, hr2, h2⟩ := comp_some (fun z hz => hs z (List.mem_cons_of_mem _ hz)) (acc ++ [x]) st1 h1
      refine ⟨x :: ys, st2, ?_, hr2.cons₂ x, h2⟩
      show (noErr (f x st)).then_ _ = _
      rw [e]
      show compL f [] r (acc ++ [x]) st1 = _
      rw [e2, List.append_assoc]; rfl
theorem comp_pure {f : Val → Store → R (Option Val)} {g : Val → Option Val} {st : Store} : ∀ {items : List Val}, (∀ x ∈ items, f x st = .ok (g x) st) → ∀ acc, compL f [] items acc st = .ok (acc ++ items.filterMap g) st
  | [], _, acc => by simp; rfl
  | x :: r, hs, acc => by
    have e := hs x (by simp)
    have ih := fun acc => comp_pure (fun z hz => hs z (List.mem_cons_of_mem _ hz)) acc
    show (noErr (f x st)).then_ _ = _
    rw [e]
    cases hg : g x with
    | none =>
      show compL f [] r acc st = _
      rw [ih, List.filterMap_cons_none hg]
    | some y =>
      show compL f [] r (acc ++ [y]) st = _
      rw [ih, List.filterMap_cons_some hg, List.append_assoc]; rfl
theorem comp_ok {P : Prog} {Φ : Cal} {mt : MT} {melt : ME} {mifs : List ME} {env : Env} {items ys : List Val} {st st' : Store} (hl : items.length ≤ sizeLine) (h : compL (turnF P Φ mt melt mifs env) [] items [] st = .ok ys st') : compE P Φ false mt melt mifs env (items, []) st = .ok (.lst ys) st' := by
  unfold compE
  rw [if_pos hl]
  simp only [h, R.then_ok]
  rfl
end Mp
end
section
set_option Elab.async false
set_option linter.all false
set_option maxRecDepth 100000
set_option maxHeartbeats
                         1000000
namespace Mp
open PySem
theorem spec_ok {P : Prog} {Φ : Cal} {g : Str} {vs args : List Val} {tp : List Src} {st : Store} {v : Val} (h1 : P.bind g vs.length [] = some tp) (h2 : srcs vs [] tp = some args) (h3 : Φ g args st = .ok v st) (h4 : closed v = true) : specM P Φ g vs st = .ok v st := by
  unfold specM callM
  rw [h1]
  simp only [h2, h3]
  show noErr (if begins st st = true then (match rdV st st.length v with | some y => R.ok y st | none => .stuck) else .stuck) = _
  rw [if_pos (begins_refl st)]
  have e : rdV st st.length v = some v := frz_closed _ v h4
  rw [e]; rfl
theorem len_ok {P : Prog} {Φ : Cal} {g : Str} {a : Val} {c : Str} {ns : List Str} {us : List Val} {st : Store} {n : Int} (h1 : insOf st a = some (c, ns, us)) (h2 : P.isc c = true) (h3 : P.meth c "__len__" = some g) (h4 : P.bind g 1 [] = some [.pos 0]) (h5 : Φ g [a] st = .ok (.int n) st) (h6 : 0 ≤ n ∧ n < 9223372036854775808) : own1M P Φ true a st = .ok (.int n) st := by
  unfold own1M
  rw [h1]
  simp only [h2, if_true, show P.meth c (name1 true) = some g from h3]
  rw [spec_ok (vs := [a]) h4 rfl h5 rfl]
  show (if 0 ≤ n ∧ n < 9223372036854775808 then R.ok (Val.int n) st else .stuck) = _
  rw [if_pos h6]
theorem repr_ok {P : Prog} {Φ : Cal} {g : Str} {a : Val} {c : Str} {ns : List Str} {us : List Val} {st : Store} {z : Str} (h1 : insOf st a = some (c, ns, us)) (h2 : P.isc c = true) (h3 : P.meth c "__repr__" = some g) (h4 : P.bind g 1 [] = some [.pos 0]) (h5 : Φ g [a] st = .ok (.str z) st) : own1M P Φ false a st = .ok (.str z) st := by
  unfold own1M
  rw [h1]
  simp only [h2, if_true, show P.meth c (name1 false) = some g from h3]
  rw [spec_ok (vs := [a]) h4 rfl h5 rfl]
  rfl
theorem own_eq {P : Prog} {Φ : Cal} {g : Str} {a b : Val} {c : Str} {ns : List Str} {us : List Val} {st : Store} {z : Bool} (ne : Bool) (h1 : insOf st a = some (c, ns, us)) (h2 : P.isc c = true) (h0 : besideB P c st b = true) (h3 : P.meth c "__eq__" = some g) (h4 : P.bind g 2 [] = some [.pos 0, .pos 1]) (h5 : Φ g [a, b] st = .ok (.bl z) st) : own2M P Φ ne a b st = .ok (.bl (xor ne z)) st := by
  unfold own2M
  rw [h1]
  simp only [h2, h0, and_self, if_true, h3]
  rw [spec_ok (vs := [a, b]) h4 rfl h5 rfl]
  rfl
end Mp
end
section
set_option Elab.async false
set_option linter.all false
set_option maxRecDepth 100000
set_option maxHeartbeats
                         1000000
namespace Mp
open PySem
abbrev Cells := List (Nat × SO)
structure Holds (st0 st : Store) (cs : Cells) : Prop where
  pre : ∃ Z, st = st0 ++ Z
  nd : (cs.map (·.1)).Nodup
  lo : ∀ c ∈ cs, st0.length ≤ c.1
  at_ : ∀ c ∈ cs, st[c.1]? = some c.2
section
variable {st0 st : Store} {cs A B : Cells} {x : Nat} {o o' : SO}
theorem Holds.nil (st : Store) : Holds st st [] := ⟨⟨[], by simp⟩, by simp, fun c h => by simp at h, fun c h => by simp at h⟩
theorem Holds.get (h : Holds st0 st (A ++ (x, o) :: B)) : st[x]? = some o := h.at_ (x, o) (by simp)
theorem Holds.low (h : Holds st0 st (A ++ (x, o) :: B)) : st0.length ≤ x := h.lo (x, o) (by simp)
theorem Holds.mem (h : Holds st0 st cs) (m : (x, o) ∈ cs) : st[x]? = some o := h.at_ _ m
theorem set_pre {Z : List SO} (hx : st0.length ≤ x) (o : SO) : ∃ Y, (st0 ++ Z).set x o = st0 ++ Y := ⟨Z.set (x - st0.length) o, List.set_append_right _ _ hx⟩
theorem Holds.set (h : Holds st0 st (A ++ (x, o) :: B)) (o' : SO) : Holds st0 (st.set x o') (A ++ (x, o') :: B) := by
  have hx := h.low
  have hg := h.get
  obtain ⟨Z, e⟩ := h.pre
  have nd := h.nd
  rw [List.map_append, List.map_cons, List.nodup_append] at nd
  obtain ⟨n1, n2, n3⟩ := nd
  rw [List.nodup_cons] at n2
  have other : ∀ c ∈ A ++ B, c.1 ≠ x := fun c hc => by
    rcases List.mem_append.mp hc with hc |
                                           hc
    · exact n3 c.1 (List.mem_map_of_mem hc) x (by simp)
    · exact fun q => n2.1 (List.mem_map.mpr ⟨c, hc, q⟩)
  refine ⟨by rw [e]; exact set_pre hx o', ?_, fun c hc => ?_, fun c hc => ?_⟩
  · have := h.nd
    rw [List.map_append, List.map_cons] at this ⊢
    exact this
  · rcases List.mem_append.mp hc with q | q
    · exact h.lo c (List.mem_append_left _ q)
    · rcases List.mem_cons.mp q with rfl |
                                           q
      · exact hx
      · exact h.lo c (List.mem_append_right _ (List.mem_cons_of_mem _ q))
  · rcases List.mem_append.mp hc with q | q
    · rw [List.getElem?_set_ne (Ne.symm (other c (List.mem_append_left _ q)))]
      exact h.at_ c (List.mem_append_left _ q)
    · rcases List.mem_cons.mp q with rfl |
                                           q
      · exact List.getElem?_set_self (List.getElem?_eq_some_iff.mp hg).1
      · rw [List.getElem?_set_ne (Ne.symm (other c (List.mem_append_right _ q)))]
        exact h.at_ c (List.mem_append_right _ (List.mem_cons_of_mem _ q))
theorem Holds.push (h : Holds st0 st cs) (Z : List SO) : Holds st0 (st ++ Z) cs := by
  obtain ⟨Y, e⟩ := h.pre
  refine ⟨⟨Y ++ Z, by rw [e, List.append_assoc]⟩, h.nd, h.lo, fun c hc => ?_⟩
  have := h.at_ c hc
  rw [List.getElem?_append_left (List.getElem?_eq_some_iff.mp this).1]
  exact this
theorem Holds.new (h : Holds st0 st cs) (o : SO) : Holds st0 (st ++ [o]) ((st.length, o) :: cs) := by
  have hp := h.push [o]
  obtain ⟨Y, e⟩ := h.pre
  refine ⟨hp.pre, ?_, fun c hc => ?_, fun c hc => ?_⟩
  · rw [List.map_cons, List.nodup_cons]
    refine ⟨fun q => ?_, h.nd⟩
    obtain ⟨c, hc, e2⟩ := List.mem_map.mp q
    have := (List.getElem?_eq_some_iff.mp (h.at_ c hc)).1
    rw [e2] at this
    exact Nat.lt_irrefl _ this
  · rcases List.mem_cons.mp hc with rfl | q
    · show st0.length ≤ st.length
      rw [e, List.length_append]; omega
    · exact h.lo c q
  · rcases List.mem_cons.mp hc with rfl | q
    · simp
    · exact hp.at_ c q
theorem Holds.perm {cs' : Cells} (h : Holds st0 st cs) (p : cs.Perm cs') : Holds st0 st cs' := ⟨h.pre, (p.map _).nodup h.nd, fun c hc => h.lo c (p.mem_iff.mpr hc), fun c hc => h.at_ c (p.mem_iff.mpr hc)⟩
theorem Holds.sub {cs' : Cells} (h : Holds st0 st cs) (p : cs'.Sublist cs) : Holds st0 st cs' := ⟨h.pre, (p.map _).nodup h.nd, fun c hc => h.lo c (p.subset hc), fun c hc => h.at_ c (p.subset hc)⟩
theorem Holds.lt (h : Holds st0 st cs) {c : Nat × SO} (hc : c ∈ cs) : c.1 < st.length := (List.getElem?_eq_some_iff.mp (h.at_ c hc)).1
end
section
variable {P : Prog} {Φ : Cal} {st : Store} {x : Nat}
theorem lst_at {xs : List Val} (e : st[x]? = some (.lst xs)) : lstOf st (.ref x) = some xs := by
  unfold lstOf
  simp only [e]
theorem seq_at {xs : List Val} (e : st[x]? = some (.lst xs)) : seqOf st (.ref x) = some xs := lst_at e
theorem ins_at {c : Str} {ns : List Str} {vs : List Val} (e : st[x]? = some (.ins c ns vs)) : insOf st (.ref x) = some (c, ns, vs) := by
  unfold insOf
  simp only [e]
theorem attr_at {c f : Str} {ns : List Str} {vs : List Val} {v : Val} (e : st[x]? = some (.ins c ns vs)) (h1 : P.isc c = true) (h2 : P.prop c f = none) (h3 : fld ns vs f = some v) (h4 : P.fl c f = true) : attrM P Φ (.ref x) f st = .ok v st := by
  unfold attrM
  rw [ins_at e]
  simp only [h1, h2, h3, h4, if_true]
theorem fset_at {c f : Str} {ns : List Str} {vs : List Val} (e : st[x]? = some (.ins c ns vs)) (h1 : P.isc c = true) (h4 : P.fl c f = true) (hn : ns.length < 1000) (y : Val) : fldSet P st (.ref x) f y = some (st.set x (.ins c (putV ns vs f y).1 (putV ns vs f y).2)) := by
  unfold fldSet
  simp only [e]
  rw [if_pos ⟨hn, h4, h1⟩]
theorem meth_at {c f g : Str} {n : Nat} {ns : List Str} {vs : List Val} (e : st[x]? = some (.ins c ns vs)) (h1 : P.isc c = true) (h2 : fld ns vs f = none) (h3 : P.meth c f = some g) (h4 : (P.bind g n []).isSome = true) : methG P (.ref x) f n st = some g := by
  obtain ⟨tp, e4⟩ := Option.isSome_iff_exists.mp h4
  unfold methG
  rw [ins_at e]
  simp only [h1, h2, h3, e4]
theorem app_at {xs : List Val} (e : st[x]? = some (.lst xs)) (hl : xs.length ≤ 1000000) (v : Val) : bmV st "append" (.ref x) [v] = some (.non, st.set x (.lst (xs ++ [v]))) := by
  show appendV st (.ref x) [v] = _
  unfold appendV
  simp only [e]
  rw [if_pos (by show _ < (2 ^ 24 : Nat); omega)]
theorem ext_at {xs ys : List Val} {w : Val} (e : st[x]? = some (.lst xs)) (ew : lstOf st w = some ys) (hl : xs.length + ys.length ≤ 1000000) : bmV st "extend" (.ref x) [w] = some (.non, st.set x (.lst (xs ++ ys))) := by
  show extendV st (.ref x) [w] = _
  unfold extendV
  simp only [e, ew]
  rw [if_pos (by show _ ≤ (2 ^ 24 : Nat); omega)]
theorem aty_at {xs : List Val} {f : String} (e : st[x]? = some (.lst xs)) (hf : f = "append" ∨ f = "extend" ∨ f = "clear" ∨ f = "pop") : bmTy st f (.ref x) = true := by
  have : bmTy st f (.ref x) = ((decide (f = "append") || decide (f = "extend") || decide (f = "clear") || decide (f = "pop") || decide (f = "count")) && (lstOf st (.ref x)).isSome) := rfl
  rw [this, lst_at e]
  rcases hf with rfl | rfl | rfl | rfl <;> rfl
theorem pop0_at {y : Val} {xs : List Val} (e : st[x]? = some (.lst (y :: xs))) : bmV st "pop" (.ref x) [.int 0] = some (y, st.set x (.lst xs)) := by
  show popV st (.ref x) [.int 0] = _
  unfold popV
  simp only [e]
theorem len_at {xs : List Val} (e : st[x]? = some (.lst xs)) : bV st "len" [.ref x] = some (.int xs.length) := by
  show (seqOf st (.ref x)).map _ = _
  rw [seq_at e]; rfl
theorem tuple_at {xs : List Val} (e : st[x]? = some (.lst xs)) : bV st "tuple" [.ref x] = some (.tup xs) := by
  show (seqOf st (.ref x)).map _ = _
  rw [seq_at e]; rfl
theorem ix_at {xs : List Val} {i : Nat} {v : Val} (e : st[x]? = some (.lst xs)) (hi : xs[i]? = some v) : ixV st (.ref x) (.int (i : Int)) = some v := by
  show (match seqOf st (.ref x) with | some xs => L2.atI xs (i : Int) | none => none) = _
  rw [seq_at e]
  exact L2.atI_nat hi
theorem setV_at {xs : List Val} {i : Nat} (e : st[x]? = some (.lst xs)) (hi : i < xs.length) (v : Val) : setV st (.ref x) (.int (i : Int)) v = some (st.set x (.lst (xs.set i v))) := by
  unfold setV
  simp only [e]
  have : L2.ixN xs.length (i : Int) = some i := by
    unfold L2.ixN
    rw [if_pos (by omega), if_pos (by omega)];
                                               simp
  rw [this]; rfl
theorem subGet_at {xs : List Val} {i : Nat} {a : Int} (e : st[x]? = some (.lst xs)) (hi : xs[i]? = some (.int a)) : subGet st (.ref x) (.int (i : Int)) = some a := by
  unfold subGet
  simp only [e, L2.atI_nat hi]
theorem app_st {env : Env} {st1 : Store} {o e : ME} {xs : List Val} {v : Val} (ho : evalE P Φ o env st = .ok (.ref x) st) (e0 : st[x]? = some (.lst xs)) (he : evalE P Φ e env st = .ok v st1) (e1 : st1[x]? = some (.lst xs)) (hl : xs.length ≤ 1000000) : evalS P Φ (.expr (.bmeth "append" o [e])) env st = .ok (.next env) (st1.set x (.lst (xs ++ [v]))) := by
  rw [S_expr, E_bmeth, ho]
  simp only [R.then_ok, aty_at e0 (.inl rfl), Es_cons, Es_nil, he, app_at e1 hl]
end
end Mp
end
section
set_option Elab.async false
set_option linter.all false
set_option maxRecDepth 100000
set_option maxHeartbeats 0
namespace L_k07
open PySem PySem.Spec PyProof.Rows L2 Mp
def top (i : Nat) : Stmt := PySem.Challenge.pw_sheetsums_k07_books_refused.main.body.getD i (.Pass ⟨0, 0, 0, 0⟩)
def inC (i j : Nat) : Stmt := match top i with
  | .ClassDef _ _ _ b _ _ _ _ _ _ _ => b.getD j (.Pass ⟨0, 0, 0, 0⟩)
  | _ => .Pass ⟨0, 0, 0, 0⟩
abbrev s_law : Stmt := top 40
def b_law_3_0 : MS := .set (.v 6) (.comp false (.cmp .eq (.call .raw "_law_take" [(.var 1), (.int 4)] [] []) (.int 0)) (.v 7) .seq [(.var 2)] [])
def b_law_3_1 : MS := .set (.v 8) (.call .raw "_law_part" [(.var 1), (.ix (.var 6) (.int 0)), (.lst false [(.non), (.int 3), (.str "0 0"), (.var 3), (.tup [(.int 0), (.int 0)]), (.lst false []), (.scall .raw "Book.plain" "Book" "plain" [(.int 5)] [] [])]), (.make .pure "Level" [] [] [])] [] [])
def b_law_3_2 : MS := .set (.v 9) (.call .raw "_law_part" [(.var 1), (.ix (.var 6) (.int 1)), (.lst false [(.int 0), (.int 41), (.neg (.int 5)), (.non), (.bl true), (.str "9"), (.lst false [(.int 9)]), (.bin .pow (.int 10) (.int 20))]), (.int 9)] [] [])
def b_law_3_3 : MS := .sett (.t [(.v 10), (.v 11)]) (.tup [(.call .raw "_law_part" [(.var 1), (.ix (.var 6) (.int 2)), (.var 4), (.int 1)] [] []), (.call .raw "_law_part" [(.var 1), (.ix (.var 6) (.int 3)), (.var 4), (.int 2)] [] [])])
def b_law_3_4 : MS := .set (.v 12) (.call .raw "_law_part" [(.var 1), (.ix (.var 6) (.int 4)), (.lst false [(.lst false []), (.lst false [(.int 1), (.int 1), (.int 1)]), (.lst false [(.int 3)]), (.lst false [(.int 0)]), (.int 1), (.non), (.lst false [(.bl true)]), (.str "1"), (.lst false [(.int 1), (.non)])]), (.lst false [(.int 1), (.int 2)])] [] [])
def b_law_3_5 : MS := .sett (.t [(.v 13), (.v 14)]) (.tup [(.call .raw "_law_part" [(.var 1), (.ix (.var 6) (.int 5)), (.var 4), (.int 0)] [] []), (.call .raw "_law_part" [(.var 1), (.ix (.var 6) (.int 6)), (.var 4), (.int 2)] [] [])])
def b_law_3_6 : MS := .set (.v 15) (.call .raw "_law_part" [(.var 1), (.ix (.var 6) (.int 7)), (.lst false [(.bin .mul (.lst false [(.var 3)]) (.int 4)), (.lst false [(.var 3), (.int 5)]), (.str ""), (.non), (.lst false [(.make .pure "Box" [(.int 0)] [] [])]), (.lst false [(.var 3), (.make .pure "Box" [(.int 1)] [] [])]), (.int 0), (.lst false [(.make .pure "Level" [] [] [])]), (.lst false [(.scall .raw "Book.plain" "Book" "plain" [(.int 5)] [] [])])]), (.lst false [(.var 3), (.make .pure "Box" [(.int 0)] [] [])])] [] [])
def b_law_3_7 : MS := .set (.v 16) (.got 0)
def b_law_3_8 : MS := .setc 17 (.comp false (.ix (.var 2) (.var 18)) (.v 18) .range1 [(.int 8)] [(.ix (.var 6) (.var 18))])
def b_law_3_9 : MS := .ite (.cmp .ne (.var 16) (.ite (.cmp .ne (.var 17) (.lst false [])) (.tup [(.str "BadBook"), (.ix (.var 17) (.int 0))]) (.tup [(.str ""), (.lst false [(.int 1), (.int 2)])]))) [.ret (.bl false)] []
def b_law_3b : List MS := [b_law_3_0, b_law_3_1, b_law_3_2, b_law_3_3, b_law_3_4, b_law_3_5, b_law_3_6, b_law_3_7, b_law_3_8, b_law_3_9]
def b_law_0 : MS := .set (.v 1) (.call .raw "_law_bag" [(.var 0)] [] [])
def b_law_1 : MS := .set (.v 2) (.lst false [(.str "levels"), (.str "height"), (.str "top"), (.str "bottom"), (.str "kinds"), (.str "lead"), (.str "hold"), (.str "boxes")])
def b_law_2 : MS := .sett (.t [(.v 3), (.v 4)]) (.tup [(.make .pure "Box" [] [] []), (.lst false [(.int 3), (.neg (.int 1)), (.non), (.bl true), (.str "1"), (.lst false [(.int 1)]), (.bin .pow (.int 10) (.int 9))])])
def b_law_3 : MS := .for_ (.v 5) .range1 [(.int 5)] b_law_3b
def b_law_4 : MS := .set (.v 19) (.make .pure "Level" [] [] [])
def b_law_5 : MS := .set (.v 20) (.lst false [(.lam 1), (.lam 2), (.lam 3)])
def b_law_6 : MS := .ret (.cmp .eq (.gotall (.var 20)) (.bin .mul (.lst false [(.tup [(.str "BadBook"), (.str "levels")])]) (.int 3)))
def b_law : List MS := [b_law_0, b_law_1, b_law_2, b_law_3, b_law_4, b_law_5, b_law_6]
def r_law : Mp.Row := { nm := "law", at_ := .glo "law", name := "law", qual := "law", params := defArgs s_law, body := defBody s_law, scope := defScope s_law, dfl := [], kwd := [], ps := ["_law_script"], star := none, N := ["_law_script", "_law_bag_here", "_law_words", "_law_one", "_law_odd", "_law_turn", "_law_bad", "_law_part_here", "_law_level", "_law_height", "_law_top_z", "_law_bottom_z", "_law_kinds_z", "_law_lead_z", "_law_hold_z", "_law_boxes_z", "_law_found", "_law_due", "_law_k", "_law_five", "_law_asks"], ms := b_law }
abbrev s__law_bag : Stmt := top 33
def b__law_bag_0 : MS := .set (.v 1) (.int 5790)
def b__law_bag_1 : MS := .for_ (.v 2) .seq [(.slc (.var 0) [] [(.int 63)])] [.set (.v 1) (.bin .mod (.bcall "int" [(.bin .add (.bin .add (.bin .mul (.var 1) (.int 40503)) (.bin .mod (.bcall "int" [(.var 2)]) (.int 2147483629))) (.int 7))]) (.int 2147483579))]
def b__law_bag_2 : MS := .ret (.lst true [(.bcall "list" [(.slc (.var 0) [] [(.int 63)])]), (.int 0), (.int 0), (.var 1), (.int 0)])
def b__law_bag : List MS := [b__law_bag_0, b__law_bag_1, b__law_bag_2]
def r__law_bag : Mp.Row := { nm := "_law_bag", at_ := .glo "_law_bag", name := "_law_bag", qual := "_law_bag", params := defArgs s__law_bag, body := defBody s__law_bag, scope := defScope s__law_bag, dfl := [], kwd := [], ps := ["_law_script"], star := none, N := ["_law_script", "_law_seed", "_law_cell"], ms := b__law_bag }
abbrev s_Box_init : Stmt := inC 28 0
def b_Box_init_0 : MS := .ite (.and [(.cmp .notn (.var 1) (.non)), (.not (.call .raw "is_within" [(.var 1), (.int 0), (.int 1)] [] []))]) [.never] []
def b_Box_init_1 : MS := .ite (.or [(.not (.call .raw "is_spots" [(.var 2)] [] [])), (.not (.call .raw "is_spots" [(.var 3)] [] [])), (.not (.isin (.var 4) ["bool"]))]) [.never] []
def b_Box_init_2 : MS := .fld (.var 0) "source" (.var 1)
def b_Box_init_3 : MS := .fld (.var 0) "prints" (.var 2)
def b_Box_init_4 : MS := .fld (.var 0) "clears" (.var 3)
def b_Box_init_5 : MS := .fld (.var 0) "early" (.var 4)
def b_Box_init : List MS := [b_Box_init_0, b_Box_init_1, b_Box_init_2, b_Box_init_3, b_Box_init_4, b_Box_init_5]
def r_Box_init : Mp.Row := { nm := "Box.__init__", at_ := .meth "Box" "__init__", name := "__init__", qual := "Box.__init__", params := defArgs s_Box_init, body := defBody s_Box_init, scope := defScope s_Box_init, dfl := [(.non)], kwd := [("prints", (.str "")), ("clears", (.str "")), ("early", (.bl false))], ps := ["self", "source", "prints", "clears", "early"], star := none, N := ["self", "source", "prints", "clears", "early"], ms := b_Box_init }
abbrev s__law_take : Stmt := top 34
def b__law_take_0 : MS := .ite (.and [(.cmp .eq (.ix (.var 0) (.int 2)) (.int 0)), (.cmp .lt (.ix (.var 0) (.int 1)) (.bcall "len" [(.ix (.var 0) (.int 0))]))]) [.set (.v 2) (.ix (.ix (.var 0) (.int 0)) (.ix (.var 0) (.int 1))), .sub (.var 0) (.int 1) (.bin .add (.ix (.var 0) (.int 1)) (.int 1)), .ite (.cmp .ge (.var 2) (.bin .pow (.int 10) (.int 18))) [.sub (.var 0) (.int 2) (.var 2)] [.sub (.var 0) (.int 3) (.bin .mod (.bcall "int" [(.bin .add (.bin .add (.bin .mul (.ix (.var 0) (.int 3)) (.int 28657)) (.bin .mod (.bcall "int" [(.var 2)]) (.int 2147483563))) (.int 13))]) (.int 2147483549))]] []
def b__law_take_1 : MS := .ite (.cmp .gt (.ix (.var 0) (.int 2)) (.int 0)) [.set (.v 3) (.bin .mod (.bcall "int" [(.ix (.var 0) (.int 2))]) (.var 1)), .sub (.var 0) (.int 2) (.bin .fdiv (.bcall "int" [(.ix (.var 0) (.int 2))]) (.var 1)), .ret (.var 3)] []
def b__law_take_2 : MS := .sub (.var 0) (.int 4) (.bin .add (.ix (.var 0) (.int 4)) (.int 1))
def b__law_take_3 : MS := .set (.v 4) (.bin .mod (.bcall "int" [(.bin .add (.ix (.var 0) (.int 3)) (.bin .mul (.ix (.var 0) (.int 4)) (.int 6007)))]) (.int 2147483549))
def b__law_take_4 : MS := .sub (.var 0) (.int 3) (.bin .mod (.bcall "int" [(.bin .add (.bin .add (.bin .pow (.var 4) (.int 3)) (.bin .mul (.int 50021) (.var 4))) (.int 977))]) (.int 2147483549))
def b__law_take_5 : MS := .ret (.bin .mod (.bcall "int" [(.bin .add (.bin .fdiv (.ix (.var 0) (.int 3)) (.int 59)) (.bin .mul (.bin .mod (.bcall "int" [(.ix (.var 0) (.int 3))]) (.int 7919)) (.int 37)))]) (.var 1))
def b__law_take : List MS := [b__law_take_0, b__law_take_1, b__law_take_2, b__law_take_3, b__law_take_4, b__law_take_5]
def r__law_take : Mp.Row := { nm := "_law_take", at_ := .glo "_law_take", name := "_law_take", qual := "_law_take", params := defArgs s__law_take, body := defBody s__law_take, scope := defScope s__law_take, dfl := [], kwd := [], ps := ["_law_bag_here", "_law_many"], star := none, N := ["_law_bag_here", "_law_many", "_law_cell", "_law_digit", "_law_step"], ms := b__law_take }
abbrev s__law_part : Stmt := top 39
def b__law_part_0 : MS := .set (.v 4) (.call .raw "_law_pick" [(.var 0), (.var 2)] [] [])
def b__law_part_1 : MS := .ret (.ite (.var 1) (.var 4) (.var 3))
def b__law_part : List MS := [b__law_part_0, b__law_part_1]
def r__law_part : Mp.Row := { nm := "_law_part", at_ := .glo "_law_part", name := "_law_part", qual := "_law_part", params := defArgs s__law_part, body := defBody s__law_part, scope := defScope s__law_part, dfl := [], kwd := [], ps := ["_law_bag_here", "_law_bad", "_law_odd", "_law_good"], star := none, N := ["_law_bag_here", "_law_bad", "_law_odd", "_law_good", "_law_value"], ms := b__law_part }
abbrev s_Book_plain : Stmt := inC 31 4
def b_Book_plain_0 : MS := .ret (.make .pure "Book" [(.var 0), (.make .pure "Level" [] [] [])] ["boxes"] [(.var 1)])
def b_Book_plain : List MS := [b_Book_plain_0]
def r_Book_plain : Mp.Row := { nm := "Book.plain", at_ := .stat "Book" "plain", name := "plain", qual := "Book.plain", params := defArgs s_Book_plain, body := defBody s_Book_plain, scope := defScope s_Book_plain, dfl := [], kwd := [("boxes", (.adr fun K => match PySem.W.nsIn K (kwAt K (.stat "Book" "plain")) "boxes" with | some (some (.ref a)) => a | _ => 0))], ps := ["height", "boxes"], star := none, N := ["height", "boxes"], ms := b_Book_plain }
abbrev s_Level_init : Stmt := inC 27 0
def b_Level_init_0 : MS := .ite (.or [(.not (.call .raw "is_within" [(.var 1), (.int 0), (.glob "MOST_LINES")] [] [])), (.not (.call .raw "is_within" [(.var 2), (.int 0), (.glob "MOST_LINES")] [] []))]) [.never] []
def b_Level_init_1 : MS := .ite (.or [(.not (.isin (.var 3) ["bool"])), (.not (.isin (.var 4) ["bool"]))]) [.never] []
def b_Level_init_2 : MS := .fld (.var 0) "head" (.var 1)
def b_Level_init_3 : MS := .fld (.var 0) "foot" (.var 2)
def b_Level_init_4 : MS := .fld (.var 0) "again" (.var 3)
def b_Level_init_5 : MS := .fld (.var 0) "fresh" (.var 4)
def b_Level_init : List MS := [b_Level_init_0, b_Level_init_1, b_Level_init_2, b_Level_init_3, b_Level_init_4, b_Level_init_5]
def r_Level_init : Mp.Row := { nm := "Level.__init__", at_ := .meth "Level" "__init__", name := "__init__", qual := "Level.__init__", params := defArgs s_Level_init, body := defBody s_Level_init, scope := defScope s_Level_init, dfl := [(.int 0), (.int 0)], kwd := [("again", (.bl false)), ("fresh", (.bl false))], ps := ["self", "head", "foot", "again", "fresh"], star := none, N := ["self", "head", "foot", "again", "fresh"], ms := b_Level_init }
abbrev s_Book_kinds : Stmt := inC 31 7
def b_Book_kinds_0 : MS := .ret (.bcall "list" [(.attr (.var 0) "own_kinds")])
def b_Book_kinds : List MS := [b_Book_kinds_0]
def r_Book_kinds : Mp.Row := { nm := "Book.kinds", at_ := .meth "Book" "kinds", name := "kinds", qual := "Book.kinds", params := defArgs s_Book_kinds, body := defBody s_Book_kinds, scope := defScope s_Book_kinds, dfl := [], kwd := [], ps := ["self"], star := none, N := ["self"], ms := b_Book_kinds }
abbrev s_Book_init : Stmt := inC 31 3
def b_Book_init_0 : MS := .ite (.or [(.not (.chain .le .le (.int 1) (.bcall "len" [(.var 8)]) (.attr (.var 0) "LEVELS"))), (.not (.bcall "all" [(.comp false (.isin (.var 9) ["Level"]) (.v 9) .seq [(.var 8)] [])]))]) [.raise_ "BadBook" [(.str "levels")]] []
def b_Book_init_1 : MS := .ite (.not (.call .raw "is_within" [(.var 1), (.int 1), (.attr (.var 0) "HEIGHT")] [] [])) [.raise_ "BadBook" [(.str "height")]] []
def b_Book_init_2 : MS := .ite (.not (.call .raw "is_within" [(.var 2), (.int 0), (.glob "MOST_LINES")] [] [])) [.raise_ "BadBook" [(.str "top")]] []
def b_Book_init_3 : MS := .ite (.not (.call .raw "is_within" [(.var 3), (.int 0), (.glob "MOST_LINES")] [] [])) [.raise_ "BadBook" [(.str "bottom")]] []
def b_Book_init_4 : MS := .ite (.not (.call .raw "are_kinds" [(.var 4)] [] [])) [.raise_ "BadBook" [(.str "kinds")]] []
def b_Book_init_5 : MS := .ite (.not (.call .raw "is_within" [(.var 5), (.int 0), (.glob "MOST_KEPT")] [] [])) [.raise_ "BadBook" [(.str "lead")]] []
def b_Book_init_6 : MS := .ite (.not (.call .raw "is_within" [(.var 6), (.int 0), (.glob "MOST_KEPT")] [] [])) [.raise_ "BadBook" [(.str "hold")]] []
def b_Book_init_7 : MS := .ite (.not (.call .raw "are_boxes" [(.var 7), (.attr (.var 0) "BOXES")] [] [])) [.raise_ "BadBook" [(.str "boxes")]] []
def b_Book_init_8 : MS := .fld (.var 0) "height" (.var 1)
def b_Book_init_9 : MS := .fld (.var 0) "top" (.var 2)
def b_Book_init_10 : MS := .fld (.var 0) "bottom" (.var 3)
def b_Book_init_11 : MS := .fld (.var 0) "lead" (.var 5)
def b_Book_init_12 : MS := .fld (.var 0) "hold" (.var 6)
def b_Book_init_13 : MS := .fld (.var 0) "own_levels" (.bcall "list" [(.var 8)])
def b_Book_init_14 : MS := .fld (.var 0) "own_kinds" (.bcall "list" [(.var 4)])
def b_Book_init_15 : MS := .fld (.var 0) "own_boxes" (.bcall "list" [(.var 7)])
def b_Book_init_16 : MS := .ite (.cmp .lt (.var 1) (.attr (.var 0) "lowest")) [.never] []
def b_Book_init : List MS := [b_Book_init_0, b_Book_init_1, b_Book_init_2, b_Book_init_3, b_Book_init_4, b_Book_init_5, b_Book_init_6, b_Book_init_7, b_Book_init_8, b_Book_init_9, b_Book_init_10, b_Book_init_11, b_Book_init_12, b_Book_init_13, b_Book_init_14, b_Book_init_15, b_Book_init_16]
def r_Book_init : Mp.Row := { nm := "Book.__init__", at_ := .meth "Book" "__init__", name := "__init__", qual := "Book.__init__", params := defArgs s_Book_init, body := defBody s_Book_init, scope := defScope s_Book_init, dfl := [], kwd := [("top", (.int 0)), ("bottom", (.int 0)), ("kinds", (.adr fun K => match PySem.W.nsIn K (kwAt K (.meth "Book" "__init__")) "kinds" with | some (some (.ref a)) => a | _ => 0)), ("lead", (.int 0)), ("hold", (.int 0)), ("boxes", (.adr fun K => match PySem.W.nsIn K (kwAt K (.meth "Book" "__init__")) "boxes" with | some (some (.ref a)) => a | _ => 0))], ps := ["self", "height", "top", "bottom", "kinds", "lead", "hold", "boxes", "levels"], star := some 2, N := ["self", "height", "top", "bottom", "kinds", "lead", "hold", "boxes", "levels", "level"], ms := b_Book_init }
abbrev s_is_within : Stmt := top 25
def b_is_within_0 : MS := .ret (.and [(.call .raw "is_number" [(.var 0)] [] []), (.chain .le .le (.var 1) (.var 0) (.var 2))])
def b_is_within : List MS := [b_is_within_0]
def r_is_within : Mp.Row := { nm := "is_within", at_ := .glo "is_within", name := "is_within", qual := "is_within", params := defArgs s_is_within, body := defBody s_is_within, scope := defScope s_is_within, dfl := [], kwd := [], ps := ["value", "low", "high"], star := none, N := ["value", "low", "high"], ms := b_is_within }
abbrev s_is_spots : Stmt := top 26
def b_is_spots_0 : MS := .ret (.and [(.isin (.var 0) ["str"]), (.cmp .eq (.var 0) (.bmeth "join" (.str "") [(.comp false (.var 1) (.v 1) .seq [(.glob "SPOTS")] [(.cmp .inn (.var 1) (.var 0))])]))])
def b_is_spots : List MS := [b_is_spots_0]
def r_is_spots : Mp.Row := { nm := "is_spots", at_ := .glo "is_spots", name := "is_spots", qual := "is_spots", params := defArgs s_is_spots, body := defBody s_is_spots, scope := defScope s_is_spots, dfl := [], kwd := [], ps := ["value"], star := none, N := ["value", "spot"], ms := b_is_spots }
abbrev s__law_pick : Stmt := top 35
def b__law_pick_0 : MS := .ret (.ix (.var 1) (.call .raw "_law_take" [(.var 0), (.bcall "len" [(.var 1)])] [] []))
def b__law_pick : List MS := [b__law_pick_0]
def r__law_pick : Mp.Row := { nm := "_law_pick", at_ := .glo "_law_pick", name := "_law_pick", qual := "_law_pick", params := defArgs s__law_pick, body := defBody s__law_pick, scope := defScope s__law_pick, dfl := [], kwd := [], ps := ["_law_bag_here", "_law_some"], star := none, N := ["_law_bag_here", "_law_some"], ms := b__law_pick }
abbrev s_are_kinds : Stmt := top 29
def b_are_kinds_0 : MS := .ret (.and [(.isin (.var 0) ["list", "tuple"]), (.cmp .inn (.bcall "len" [(.var 0)]) (.tup [(.int 1), (.int 2)])), (.bcall "all" [(.comp false (.call .raw "is_within" [(.var 1), (.int 1), (.int 2)] [] []) (.v 1) .seq [(.var 0)] [])])])
def b_are_kinds : List MS := [b_are_kinds_0]
def r_are_kinds : Mp.Row := { nm := "are_kinds", at_ := .glo "are_kinds", name := "are_kinds", qual := "are_kinds", params := defArgs s_are_kinds, body := defBody s_are_kinds, scope := defScope s_are_kinds, dfl := [], kwd := [], ps := ["value"], star := none, N := ["value", "one"], ms := b_are_kinds }
abbrev s_are_boxes : Stmt := top 30
def b_are_boxes_0 : MS := .ite (.or [(.not (.isin (.var 0) ["list", "tuple"])), (.cmp .gt (.bcall "len" [(.var 0)]) (.var 1))]) [.ret (.bl false)] []
def b_are_boxes_1 : MS := .ite (.not (.bcall "all" [(.comp false (.isin (.var 2) ["Box"]) (.v 2) .seq [(.var 0)] [])])) [.ret (.bl false)] []
def b_are_boxes_2 : MS := .ret (.bcall "all" [(.comp false (.or [(.cmp .isn (.attr (.var 2) "source") (.non)), (.cmp .lt (.attr (.var 2) "source") (.var 3))]) (.t [(.v 3), (.v 2)]) .enum [(.var 0)] [])])
def b_are_boxes : List MS := [b_are_boxes_0, b_are_boxes_1, b_are_boxes_2]
def r_are_boxes : Mp.Row := { nm := "are_boxes", at_ := .glo "are_boxes", name := "are_boxes", qual := "are_boxes", params := defArgs s_are_boxes, body := defBody s_are_boxes, scope := defScope s_are_boxes, dfl := [], kwd := [], ps := ["value", "most"], star := none, N := ["value", "most", "box", "at"], ms := b_are_boxes }
abbrev s_Book_lowest : Stmt := inC 31 5
def b_Book_lowest_0 : MS := .ret (.bin .add (.bin .add (.bin .add (.attr (.var 0) "top") (.attr (.var 0) "bottom")) (.glob "MOST_LINES")) (.bcall "sum" [(.comp false (.attr (.var 1) "head") (.v 1) .seq [(.attr (.var 0) "own_levels")] [(.attr (.var 1) "again")])]))
def b_Book_lowest : List MS := [b_Book_lowest_0]
def r_Book_lowest : Mp.Row := { nm := "Book.lowest", at_ := .prop "Book" "lowest", name := "lowest", qual := "Book.lowest", params := defArgs s_Book_lowest, body := defBody s_Book_lowest, scope := defScope s_Book_lowest, dfl := [], kwd := [], ps := ["self"], star := none, N := ["self", "level"], ms := b_Book_lowest }
abbrev s_is_number : Stmt := top 24
def b_is_number_0 : MS := .ret (.and [(.isin (.var 0) ["int"]), (.not (.isin (.var 0) ["bool"]))])
def b_is_number : List MS := [b_is_number_0]
def r_is_number : Mp.Row := { nm := "is_number", at_ := .glo "is_number", name := "is_number", qual := "is_number", params := defArgs s_is_number, body := defBody s_is_number, scope := defScope s_is_number, dfl := [], kwd := [], ps := ["value"], star := none, N := ["value"], ms := b_is_number }
abbrev s__law_field : Stmt := top 36
def b__law_field_0 : MS := .never
def b__law_field_1 : MS := .never
def b__law_field_2 : MS := .never
def b__law_field_3 : MS := .never
def b__law_field_4 : MS := .never
def b__law_field_5 : MS := .never
def b__law_field_6 : MS := .never
def b__law_field_7 : MS := .never
def b__law_field_8 : MS := .never
def b__law_field_9 : MS := .never
def b__law_field : List MS := [b__law_field_0, b__law_field_1, b__law_field_2, b__law_field_3, b__law_field_4, b__law_field_5, b__law_field_6, b__law_field_7, b__law_field_8, b__law_field_9]
def r__law_field : Mp.Row := { nm := "_law_field", at_ := .glo "_law_field", name := "_law_field", qual := "_law_field", params := defArgs s__law_field, body := defBody s__law_field, scope := defScope s__law_field, dfl := [], kwd := [], ps := ["_law_e"], star := none, N := ["_law_e"], ms := b__law_field }
abbrev s__law_got : Stmt := top 37
def b__law_got_0 : MS := .never
def b__law_got : List MS := [b__law_got_0]
def r__law_got : Mp.Row := { nm := "_law_got", at_ := .glo "_law_got", name := "_law_got", qual := "_law_got", params := defArgs s__law_got, body := defBody s__law_got, scope := defScope s__law_got, dfl := [], kwd := [], ps := ["_law_ask"], star := none, N := ["_law_ask", "_law_e"], ms := b__law_got }
abbrev s__law_all_got : Stmt := top 38
def b__law_all_got_0 : MS := .never
def b__law_all_got : List MS := [b__law_all_got_0]
def r__law_all_got : Mp.Row := { nm := "_law_all_got", at_ := .glo "_law_all_got", name := "_law_all_got", qual := "_law_all_got", params := defArgs s__law_all_got, body := defBody s__law_all_got, scope := defScope s__law_all_got, dfl := [], kwd := [], ps := ["_law_asks"], star := none, N := ["_law_asks", "_law_ask"], ms := b__law_all_got }
def h_0 : Str × Shp := ("_law_bag", ⟨1, [], [.pos 0]⟩)
def h_1 : Str × Shp := ("Box.__init__", ⟨1, [], [.pos 0, .dfl 0 (.non), .dfl 1 (.str ""), .dfl 2 (.str ""), .dfl 3 (.bl false)]⟩)
def h_2 : Str × Shp := ("_law_take", ⟨2, [], [.pos 0, .pos 1]⟩)
def h_3 : Str × Shp := ("_law_part", ⟨4, [], [.pos 0, .pos 1, .pos 2, .pos 3]⟩)
def h_4 : Str × Shp := ("Book.plain", ⟨1, [], [.pos 0, .dfl 0 (.tup [])]⟩)
def h_5 : Str × Shp := ("Level.__init__", ⟨1, [], [.pos 0, .dfl 0 (.int 0), .dfl 1 (.int 0), .dfl 2 (.bl false), .dfl 3 (.bl false)]⟩)
def h_6 : Str × Shp := ("Box.__init__", ⟨2, [], [.pos 0, .pos 1, .dfl 1 (.str ""), .dfl 2 (.str ""), .dfl 3 (.bl false)]⟩)
def h_7 : Str × Shp := ("Book.kinds", ⟨1, [], [.pos 0]⟩)
def h_8 : Str × Shp := ("Book.__init__", ⟨4, ["top", "bottom", "kinds", "lead", "hold", "boxes"], [.pos 0, .pos 1, .kw 0, .kw 1, .kw 2, .kw 3, .kw 4, .kw 5, .rest 2]⟩)
def h_9 : Str × Shp := ("Book.__init__", ⟨2, [], [.pos 0, .pos 1, .dfl 0 (.int 0), .dfl 1 (.int 0), .dfl 2 (.tup [(.int 1)]), .dfl 3 (.int 0), .dfl 4 (.int 0), .dfl 5 (.tup []), .rest 2]⟩)
def h_10 : Str × Shp := ("Book.__init__", ⟨7, [], [.pos 0, .pos 1, .dfl 0 (.int 0), .dfl 1 (.int 0), .dfl 2 (.tup [(.int 1)]), .dfl 3 (.int 0), .dfl 4 (.int 0), .dfl 5 (.tup []), .rest 2]⟩)
def h_11 : Str × Shp := ("Book.__init__", ⟨3, [], [.pos 0, .pos 1, .dfl 0 (.int 0), .dfl 1 (.int 0), .dfl 2 (.tup [(.int 1)]), .dfl 3 (.int 0), .dfl 4 (.int 0), .dfl 5 (.tup []), .rest 2]⟩)
def h_12 : Str × Shp := ("is_within", ⟨3, [], [.pos 0, .pos 1, .pos 2]⟩)
def h_13 : Str × Shp := ("is_spots", ⟨1, [], [.pos 0]⟩)
def h_14 : Str × Shp := ("_law_pick", ⟨2, [], [.pos 0, .pos 1]⟩)
def h_15 : Str × Shp := ("Book.__init__", ⟨3, ["boxes"], [.pos 0, .pos 1, .dfl 0 (.int 0), .dfl 1 (.int 0), .dfl 2 (.tup [(.int 1)]), .dfl 3 (.int 0), .dfl 4 (.int 0), .kw 0, .rest 2]⟩)
def h_16 : Str × Shp := ("are_kinds", ⟨1, [], [.pos 0]⟩)
def h_17 : Str × Shp := ("are_boxes", ⟨2, [], [.pos 0, .pos 1]⟩)
def h_18 : Str × Shp := ("Book.lowest", ⟨1, [], [.pos 0]⟩)
def h_19 : Str × Shp := ("is_number", ⟨1, [], [.pos 0]⟩)
def lam_0 : ME := (.meth .raw (.make .pure "Book" [(.var 9), (.make .pure "Level" [] [] []), (.var 8)] ["top", "bottom", "kinds", "lead", "hold", "boxes"] [(.var 10), (.var 11), (.var 12), (.var 13), (.var 14), (.var 15)]) "kinds" [])
def lam_1 : ME := (.make .pure "Book" [(.int 0)] [] [])
def lam_2 : ME := (.make .pure "Book" [(.int 9), (.var 19), (.var 19), (.var 19), (.var 19), (.var 19)] [] [])
def lam_3 : ME := (.make .pure "Book" [(.int 41), (.var 3)] [] [])
def T : Tab where
  rows := [r_law, r__law_bag, r_Box_init, r__law_take, r__law_part, r_Book_plain, r_Level_init, r_Book_kinds, r_Book_init, r_is_within, r_is_spots, r__law_pick, r_are_kinds, r_are_boxes, r_Book_lowest, r_is_number, r__law_field, r__law_got, r__law_all_got]
  gfn := [(Str.ofString "law"), (Str.ofString "_law_bag"), (Str.ofString "_law_take"), (Str.ofString "_law_part"), (Str.ofString "is_within"), (Str.ofString "is_spots"), (Str.ofString "_law_pick"), (Str.ofString "are_kinds"), (Str.ofString "are_boxes"), (Str.ofString "is_number"), (Str.ofString "_law_field"), (Str.ofString "_law_got"), (Str.ofString "_law_all_got")]
  cls := [(Str.ofString "Level"), (Str.ofString "Box"), (Str.ofString "Book")]
  meths := [(((Str.ofString "Level"), (Str.ofString "__init__")), (Str.ofString "Level.__init__")), (((Str.ofString "Box"), (Str.ofString "__init__")), (Str.ofString "Box.__init__")), (((Str.ofString "Book"), (Str.ofString "__init__")), (Str.ofString "Book.__init__")), (((Str.ofString "Book"), (Str.ofString "kinds")), (Str.ofString "Book.kinds"))]
  props := [(((Str.ofString "Book"), (Str.ofString "lowest")), (Str.ofString "Book.lowest"))]
  cons := [(((Str.ofString "Book"), (Str.ofString "HEIGHT")), .int 40), (((Str.ofString "Book"), (Str.ofString "LEVELS")), .int 4), (((Str.ofString "Book"), (Str.ofString "BOXES")), .int 3)]
  fls := [((Str.ofString "Book"), (Str.ofString "bottom")), ((Str.ofString "Book"), (Str.ofString "height")), ((Str.ofString "Book"), (Str.ofString "hold")), ((Str.ofString "Book"), (Str.ofString "lead")), ((Str.ofString "Book"), (Str.ofString "own_boxes")), ((Str.ofString "Book"), (Str.ofString "own_kinds")), ((Str.ofString "Book"), (Str.ofString "own_levels")), ((Str.ofString "Book"), (Str.ofString "top")), ((Str.ofString "Box"), (Str.ofString "clears")), ((Str.ofString "Box"), (Str.ofString "early")), ((Str.ofString "Box"), (Str.ofString "prints")), ((Str.ofString "Box"), (Str.ofString "source")), ((Str.ofString "Level"), (Str.ofString "again")), ((Str.ofString "Level"), (Str.ofString "foot")), ((Str.ofString "Level"), (Str.ofString "fresh")), ((Str.ofString "Level"), (Str.ofString "head"))]
  globs := [((Str.ofString "SPOTS"), .str "0123bt"), ((Str.ofString "MOST_LINES"), .int 2), ((Str.ofString "MOST_KEPT"), .int 2)]
  subs := [(((Str.ofString "NoneType"), (Str.ofString "Box")), false), (((Str.ofString "NoneType"), (Str.ofString "Level")), false), (((Str.ofString "NoneType"), (Str.ofString "bool")), false), (((Str.ofString "NoneType"), (Str.ofString "int")), false), (((Str.ofString "NoneType"), (Str.ofString "list")), false), (((Str.ofString "NoneType"), (Str.ofString "str")), false), (((Str.ofString "NoneType"), (Str.ofString "tuple")), false), (((Str.ofString "bool"), (Str.ofString "Box")), false), (((Str.ofString "bool"), (Str.ofString "Level")), false), (((Str.ofString "bool"), (Str.ofString "bool")), true), (((Str.ofString "bool"), (Str.ofString "int")), true), (((Str.ofString "bool"), (Str.ofString "list")), false), (((Str.ofString "bool"), (Str.ofString "str")), false), (((Str.ofString "bool"), (Str.ofString "tuple")), false), (((Str.ofString "int"), (Str.ofString "Box")), false), (((Str.ofString "int"), (Str.ofString "Level")), false), (((Str.ofString "int"), (Str.ofString "bool")), false), (((Str.ofString "int"), (Str.ofString "int")), true), (((Str.ofString "int"), (Str.ofString "list")), false), (((Str.ofString "int"), (Str.ofString "str")), false), (((Str.ofString "int"), (Str.ofString "tuple")), false), (((Str.ofString "str"), (Str.ofString "Box")), false), (((Str.ofString "str"), (Str.ofString "Level")), false), (((Str.ofString "str"), (Str.ofString "bool")), false), (((Str.ofString "str"), (Str.ofString "int")), false), (((Str.ofString "str"), (Str.ofString "list")), false), (((Str.ofString "str"), (Str.ofString "str")), true), (((Str.ofString "str"), (Str.ofString "tuple")), false), (((Str.ofString "tuple"), (Str.ofString "Box")), false), (((Str.ofString "tuple"), (Str.ofString "Level")), false), (((Str.ofString "tuple"), (Str.ofString "bool")), false), (((Str.ofString "tuple"), (Str.ofString "int")), false), (((Str.ofString "tuple"), (Str.ofString "list")), false), (((Str.ofString "tuple"), (Str.ofString "str")), false), (((Str.ofString "tuple"), (Str.ofString "tuple")), true), (((Str.ofString "list"), (Str.ofString "Box")), false), (((Str.ofString "list"), (Str.ofString "Level")), false), (((Str.ofString "list"), (Str.ofString "bool")), false), (((Str.ofString "list"), (Str.ofString "int")), false), (((Str.ofString "list"), (Str.ofString "list")), true), (((Str.ofString "list"), (Str.ofString "str")), false), (((Str.ofString "list"), (Str.ofString "tuple")), false), (((Str.ofString "Level"), (Str.ofString "Box")), false), (((Str.ofString "Level"), (Str.ofString "Level")), true), (((Str.ofString "Level"), (Str.ofString "bool")), false), (((Str.ofString "Level"), (Str.ofString "int")), false), (((Str.ofString "Level"), (Str.ofString "list")), false), (((Str.ofString "Level"), (Str.ofString "str")), false), (((Str.ofString "Level"), (Str.ofString "tuple")), false), (((Str.ofString "Box"), (Str.ofString "Box")), true), (((Str.ofString "Box"), (Str.ofString "Level")), false), (((Str.ofString "Box"), (Str.ofString "bool")), false), (((Str.ofString "Box"), (Str.ofString "int")), false), (((Str.ofString "Box"), (Str.ofString "list")), false), (((Str.ofString "Box"), (Str.ofString "str")), false), (((Str.ofString "Box"), (Str.ofString "tuple")), false), (((Str.ofString "Book"), (Str.ofString "Box")), false), (((Str.ofString "Book"), (Str.ofString "Level")), false), (((Str.ofString "Book"), (Str.ofString "bool")), false), (((Str.ofString "Book"), (Str.ofString "int")), false), (((Str.ofString "Book"), (Str.ofString "list")), false), (((Str.ofString "Book"), (Str.ofString "str")), false), (((Str.ofString "Book"), (Str.ofString "tuple")), false)]
  shapes := [h_0, h_1, h_2, h_3, h_4, h_5, h_6, h_7, h_8, h_9, h_10, h_11, h_12, h_13, h_14, h_15, h_16, h_17, h_18, h_19]
  fuel := 1000
  stats := [(((Str.ofString "Book"), (Str.ofString "plain")), (Str.ofString "Book.plain"))]
  excs := [((Str.ofString "BadBook"), [(Str.ofString "part")])]
  xsubs := [(((Str.ofString "BadBook"), (Str.ofString "BadBook")), true), (((Str.ofString "BadBook"), (Str.ofString "TooLow")), false), (((Str.ofString "BadBook"), (Str.ofString "BadRow")), false), (((Str.ofString "BadBook"), (Str.ofString "BadFault")), false), (((Str.ofString "BadBook"), (Str.ofString "BadWish")), false), (((Str.ofString "BadBook"), (Str.ofString "BadCount")), false), (((Str.ofString "BadBook"), (Str.ofString "BadLimit")), false), (((Str.ofString "BadBook"), (Str.ofString "BadText")), false), (((Str.ofString "BadBook"), (Str.ofString "BadName")), false), (((Str.ofString "BadBook"), (Str.ofString "Taken")), false), (((Str.ofString "BadBook"), (Str.ofString "NoBook")), false), (((Str.ofString "BadBook"), (Str.ofString "Full")), false), (((Str.ofString "BadBook"), (Str.ofString "BadCommand")), false)]
  file := PySem.Challenge.pw_sheetsums_k07_books_refused.main.file
  gots := true
  alls := true
  lams := [lam_0, lam_1, lam_2, lam_3]
theorem okT : T.okT = true := by decide +kernel
theorem gots_ok : GotTab T := gotTab_by (by decide +kernel)
theorem alls_ok : AllTab T := allTab_by (by decide +kernel)
theorem ok_law : RowOk T r_law := ⟨⟨by decide +kernel, by decide +kernel, by decide +kernel, by decide +kernel, by decide +kernel, by decide +kernel, by decide +kernel⟩, by decide +kernel⟩
theorem ok__law_bag : RowOk T r__law_bag := ⟨⟨by decide +kernel, by decide +kernel, by decide +kernel, by decide +kernel, by decide +kernel, by decide +kernel, by decide +kernel⟩, by decide +kernel⟩
theorem ok_Box_init : RowOk T r_Box_init := ⟨⟨by decide +kernel, by decide +kernel, by decide +kernel, by decide +kernel, by decide +kernel, by decide +kernel, by decide +kernel⟩, by decide +kernel⟩
theorem ok__law_take : RowOk T r__law_take := ⟨⟨by decide +kernel, by decide +kernel, by decide +kernel, by decide +kernel, by decide +kernel, by decide +kernel, by decide +kernel⟩, by decide +kernel⟩
theorem ok__law_part : RowOk T r__law_part := ⟨⟨by decide +kernel, by decide +kernel, by decide +kernel, by decide +kernel, by decide +kernel, by decide +kernel, by decide +kernel⟩, by decide +kernel⟩
theorem ok_Book_plain : RowOk T r_Book_plain := ⟨⟨by decide +kernel, by decide +kernel, by decide +kernel, by decide +kernel, by decide +kernel, by decide +kernel, by decide +kernel⟩, by decide +kernel⟩
theorem ok_Level_init : RowOk T r_Level_init := ⟨⟨by decide +kernel, by decide +kernel, by decide +kernel, by decide +kernel, by decide +kernel, by decide +kernel, by decide +kernel⟩, by decide +kernel⟩
theorem ok_Book_kinds : RowOk T r_Book_kinds := ⟨⟨by decide +kernel, by decide +kernel, by decide +kernel, by decide +kernel, by decide +kernel, by decide +kernel, by decide +kernel⟩, by decide +kernel⟩
theorem ok_Book_init : RowOk T r_Book_init := ⟨⟨by decide +kernel, by decide +kernel, by decide +kernel, by decide +kernel, by decide +kernel, by decide +kernel, by decide +kernel⟩, by decide +kernel⟩
theorem ok_is_within : RowOk T r_is_within := ⟨⟨by decide +kernel, by decide +kernel, by decide +kernel, by decide +kernel, by decide +kernel, by decide +kernel, by decide +kernel⟩, by decide +kernel⟩
theorem ok_is_spots : RowOk T r_is_spots := ⟨⟨by decide +kernel, by decide +kernel, by decide +kernel, by decide +kernel, by decide +kernel, by decide +kernel, by decide +kernel⟩, by decide +kernel⟩
theorem ok__law_pick : RowOk T r__law_pick := ⟨⟨by decide +kernel, by decide +kernel, by decide +kernel, by decide +kernel, by decide +kernel, by decide +kernel, by decide +kernel⟩, by decide +kernel⟩
theorem ok_are_kinds : RowOk T r_are_kinds := ⟨⟨by decide +kernel, by decide +kernel, by decide +kernel, by decide +kernel, by decide +kernel, by decide +kernel, by decide +kernel⟩, by decide +kernel⟩
theorem ok_are_boxes : RowOk T r_are_boxes := ⟨⟨by decide +kernel, by decide +kernel, by decide +kernel, by decide +kernel, by decide +kernel, by decide +kernel, by decide +kernel⟩, by decide +kernel⟩
theorem ok_Book_lowest : RowOk T r_Book_lowest := ⟨⟨by decide +kernel, by decide +kernel, by decide +kernel, by decide +kernel, by decide +kernel, by decide +kernel, by decide +kernel⟩, by decide +kernel⟩
theorem ok_is_number : RowOk T r_is_number := ⟨⟨by decide +kernel, by decide +kernel, by decide +kernel, by decide +kernel, by decide +kernel, by decide +kernel, by decide +kernel⟩, by decide +kernel⟩
theorem ok__law_field : RowOk T r__law_field := ⟨⟨by decide +kernel, by decide +kernel, by decide +kernel, by decide +kernel, by decide +kernel, by decide +kernel, by decide +kernel⟩, by decide +kernel⟩
theorem ok__law_got : RowOk T r__law_got := ⟨⟨by decide +kernel, by decide +kernel, by decide +kernel, by decide +kernel, by decide +kernel, by decide +kernel, by decide +kernel⟩, by decide +kernel⟩
theorem ok__law_all_got : RowOk T r__law_all_got := ⟨⟨by decide +kernel, by decide +kernel, by decide +kernel, by decide +kernel, by decide +kernel, by decide +kernel, by decide +kernel⟩, by decide +kernel⟩
theorem hk_0 : ShapeOk T h_0 := ⟨fun K r e => by
  cases (show some r__law_bag = some r from e)
  exact ⟨fun body Ta D kV doc pm an cdv ct us its mv ws l1 l2 l3 l4 => ⟨fun _ => match us, its, mv, ws, l1, l2, l3, l4 with
      | [u0], [], [], [], _, _, _, _ => rfl, fun z => absurd rfl z⟩, by first | rfl | kernel_rfl⟩⟩
theorem hk_1 : ShapeOk T h_1 := ⟨fun K r e => by
  cases (show some r_Box_init = some r from e)
  exact ⟨fun body Ta D kV doc pm an cdv ct us its mv ws l1 l2 l3 l4 => ⟨fun z => (nomatch z), fun _ => by
    match us, its, mv, ws, l1, l2, l3, l4 with
    | [u0], [d0], [m0, m1, m2], [], _, _, _, _ => 
      refine ⟨_, rfl, ?_⟩
      refine ⟨_, _, _, _, _, _, rfl, rfl, ?_⟩
      refine ⟨_, _, _, _, _, _, rfl, rfl, ?_⟩
      refine ⟨_, _, _, _, _, _, rfl, rfl, ?_⟩
      exact rfl⟩, by first | rfl | kernel_rfl⟩⟩
theorem hk_2 : ShapeOk T h_2 := ⟨fun K r e => by
  cases (show some r__law_take = some r from e)
  exact ⟨fun body Ta D kV doc pm an cdv ct us its mv ws l1 l2 l3 l4 => ⟨fun _ => match us, its, mv, ws, l1, l2, l3, l4 with
      | [u0, u1], [], [], [], _, _, _, _ => rfl, fun z => absurd rfl z⟩, by first | rfl | kernel_rfl⟩⟩
theorem hk_3 : ShapeOk T h_3 := ⟨fun K r e => by
  cases (show some r__law_part = some r from e)
  exact ⟨fun body Ta D kV doc pm an cdv ct us its mv ws l1 l2 l3 l4 => ⟨fun _ => match us, its, mv, ws, l1, l2, l3, l4 with
      | [u0, u1, u2, u3], [], [], [], _, _, _, _ => rfl, fun z => absurd rfl z⟩, by first | rfl | kernel_rfl⟩⟩
theorem hk_4 : ShapeOk T h_4 := ⟨fun K r e => by
  cases (show some r_Book_plain = some r from e)
  exact ⟨fun body Ta D kV doc pm an cdv ct us its mv ws l1 l2 l3 l4 => ⟨fun _ => match us, its, mv, ws, l1, l2, l3, l4 with
      | [u0], [], [m0], [], _, _, _, _ => ⟨_, _, _, _, _, _, rfl, rfl, rfl⟩, fun z => absurd rfl z⟩, by first | rfl | kernel_rfl⟩⟩
theorem hk_5 : ShapeOk T h_5 := ⟨fun K r e => by
  cases (show some r_Level_init = some r from e)
  exact ⟨fun body Ta D kV doc pm an cdv ct us its mv ws l1 l2 l3 l4 => ⟨fun z => (nomatch z), fun _ => by
    match us, its, mv, ws, l1, l2, l3, l4 with
    | [u0], [d0, d1], [m0, m1], [], _, _, _, _ => 
      refine ⟨_, rfl, ?_⟩
      refine ⟨_, _, _, _, _, _, rfl, rfl, ?_⟩
      refine ⟨_, _, _, _, _, _, rfl, rfl, ?_⟩
      exact rfl⟩, by first | rfl | kernel_rfl⟩⟩
theorem hk_6 : ShapeOk T h_6 := ⟨fun K r e => by
  cases (show some r_Box_init = some r from e)
  exact ⟨fun body Ta D kV doc pm an cdv ct us its mv ws l1 l2 l3 l4 => ⟨fun z => (nomatch z), fun _ => by
    match us, its, mv, ws, l1, l2, l3, l4 with
    | [u0, u1], [d0], [m0, m1, m2], [], _, _, _, _ => 
      refine ⟨_, rfl, ?_⟩
      refine ⟨_, _, _, _, _, _, rfl, rfl, ?_⟩
      refine ⟨_, _, _, _, _, _, rfl, rfl, ?_⟩
      refine ⟨_, _, _, _, _, _, rfl, rfl, ?_⟩
      exact rfl⟩, by first | rfl | kernel_rfl⟩⟩
theorem hk_7 : ShapeOk T h_7 := ⟨fun K r e => by
  cases (show some r_Book_kinds = some r from e)
  exact ⟨fun body Ta D kV doc pm an cdv ct us its mv ws l1 l2 l3 l4 => ⟨fun _ => match us, its, mv, ws, l1, l2, l3, l4 with
      | [u0], [], [], [], _, _, _, _ => rfl, fun z => absurd rfl z⟩, by first | rfl | kernel_rfl⟩⟩
theorem hk_8 : ShapeOk T h_8 := ⟨fun K r e => by
  cases (show some r_Book_init = some r from e)
  exact ⟨fun body Ta D kV doc pm an cdv ct us its mv ws l1 l2 l3 l4 => ⟨fun _ => match us, its, mv, ws, l1, l2, l3, l4 with
      | [u0, u1, u2, u3], [], [], [w0, w1, w2, w3, w4, w5], _, _, _, _ => rfl, fun z => absurd rfl z⟩, by first | rfl | kernel_rfl⟩⟩
theorem hk_9 : ShapeOk T h_9 := ⟨fun K r e => by
  cases (show some r_Book_init = some r from e)
  exact ⟨fun body Ta D kV doc pm an cdv ct us its mv ws l1 l2 l3 l4 => ⟨fun _ => match us, its, mv, ws, l1, l2, l3, l4 with
      | [u0, u1], [], [m0, m1, m2, m3, m4, m5], [], _, _, _, _ => ⟨_, _, _, _, _, _, rfl, rfl, ⟨_, _, _, _, _, _, rfl, rfl, ⟨_, _, _, _, _, _, rfl, rfl, ⟨_, _, _, _, _, _, rfl, rfl, ⟨_, _, _, _, _, _, rfl, rfl, ⟨_, _, _, _, _, _, rfl, rfl, rfl⟩⟩⟩⟩⟩⟩, fun z => absurd rfl z⟩, by first | rfl | kernel_rfl⟩⟩
theorem hk_10 : ShapeOk T h_10 := ⟨fun K r e => by
  cases (show some r_Book_init = some r from e)
  exact ⟨fun body Ta D kV doc pm an cdv ct us its mv ws l1 l2 l3 l4 => ⟨fun _ => match us, its, mv, ws, l1, l2, l3, l4 with
      | [u0, u1, u2, u3, u4, u5, u6], [], [m0, m1, m2, m3, m4, m5], [], _, _, _, _ => ⟨_, _, _, _, _, _, rfl, rfl, ⟨_, _, _, _, _, _, rfl, rfl, ⟨_, _, _, _, _, _, rfl, rfl, ⟨_, _, _, _, _, _, rfl, rfl, ⟨_, _, _, _, _, _, rfl, rfl, ⟨_, _, _, _, _, _, rfl, rfl, rfl⟩⟩⟩⟩⟩⟩, fun z => absurd rfl z⟩, by first | rfl | kernel_rfl⟩⟩
theorem hk_11 : ShapeOk T h_11 := ⟨fun K r e => by
  cases (show some r_Book_init = some r from e)
  exact ⟨fun body Ta D kV doc pm an cdv ct us its mv ws l1 l2 l3 l4 => ⟨fun _ => match us, its, mv, ws, l1, l2, l3, l4 with
      | [u0, u1, u2], [], [m0, m1, m2, m3, m4, m5], [], _, _, _, _ => ⟨_, _, _, _, _, _, rfl, rfl, ⟨_, _, _, _, _, _, rfl, rfl, ⟨_, _, _, _, _, _, rfl, rfl, ⟨_, _, _, _, _, _, rfl, rfl, ⟨_, _, _, _, _, _, rfl, rfl, ⟨_, _, _, _, _, _, rfl, rfl, rfl⟩⟩⟩⟩⟩⟩, fun z => absurd rfl z⟩, by first | rfl | kernel_rfl⟩⟩
theorem hk_12 : ShapeOk T h_12 := ⟨fun K r e => by
  cases (show some r_is_within = some r from e)
  exact ⟨fun body Ta D kV doc pm an cdv ct us its mv ws l1 l2 l3 l4 => ⟨fun _ => match us, its, mv, ws, l1, l2, l3, l4 with
      | [u0, u1, u2], [], [], [], _, _, _, _ => rfl, fun z => absurd rfl z⟩, by first | rfl | kernel_rfl⟩⟩
theorem hk_13 : ShapeOk T h_13 := ⟨fun K r e => by
  cases (show some r_is_spots = some r from e)
  exact ⟨fun body Ta D kV doc pm an cdv ct us its mv ws l1 l2 l3 l4 => ⟨fun _ => match us, its, mv, ws, l1, l2, l3, l4 with
      | [u0], [], [], [], _, _, _, _ => rfl, fun z => absurd rfl z⟩, by first | rfl | kernel_rfl⟩⟩
theorem hk_14 : ShapeOk T h_14 := ⟨fun K r e => by
  cases (show some r__law_pick = some r from e)
  exact ⟨fun body Ta D kV doc pm an cdv ct us its mv ws l1 l2 l3 l4 => ⟨fun _ => match us, its, mv, ws, l1, l2, l3, l4 with
      | [u0, u1], [], [], [], _, _, _, _ => rfl, fun z => absurd rfl z⟩, by first | rfl | kernel_rfl⟩⟩
theorem hk_15 : ShapeOk T h_15 := ⟨fun K r e => by
  cases (show some r_Book_init = some r from e)
  exact ⟨fun body Ta D kV doc pm an cdv ct us its mv ws l1 l2 l3 l4 => ⟨fun _ => match us, its, mv, ws, l1, l2, l3, l4 with
      | [u0, u1, u2], [], [m0, m1, m2, m3, m4], [w0], _, _, _, _ => ⟨_, _, _, _, _, _, rfl, rfl, ⟨_, _, _, _, _, _, rfl, rfl, ⟨_, _, _, _, _, _, rfl, rfl, ⟨_, _, _, _, _, _, rfl, rfl, ⟨_, _, _, _, _, _, rfl, rfl, rfl⟩⟩⟩⟩⟩, fun z => absurd rfl z⟩, by first | rfl | kernel_rfl⟩⟩
theorem hk_16 : ShapeOk T h_16 := ⟨fun K r e => by
  cases (show some r_are_kinds = some r from e)
  exact ⟨fun body Ta D kV doc pm an cdv ct us its mv ws l1 l2 l3 l4 => ⟨fun _ => match us, its, mv, ws, l1, l2, l3, l4 with
      | [u0], [], [], [], _, _, _, _ => rfl, fun z => absurd rfl z⟩, by first | rfl | kernel_rfl⟩⟩
theorem hk_17 : ShapeOk T h_17 := ⟨fun K r e => by
  cases (show some r_are_boxes = some r from e)
  exact ⟨fun body Ta D kV doc pm an cdv ct us its mv ws l1 l2 l3 l4 => ⟨fun _ => match us, its, mv, ws, l1, l2, l3, l4 with
      | [u0, u1], [], [], [], _, _, _, _ => rfl, fun z => absurd rfl z⟩, by first | rfl | kernel_rfl⟩⟩
theorem hk_18 : ShapeOk T h_18 := ⟨fun K r e => by
  cases (show some r_Book_lowest = some r from e)
  exact ⟨fun body Ta D kV doc pm an cdv ct us its mv ws l1 l2 l3 l4 => ⟨fun _ => match us, its, mv, ws, l1, l2, l3, l4 with
      | [u0], [], [], [], _, _, _, _ => rfl, fun z => absurd rfl z⟩, by first | rfl | kernel_rfl⟩⟩
theorem hk_19 : ShapeOk T h_19 := ⟨fun K r e => by
  cases (show some r_is_number = some r from e)
  exact ⟨fun body Ta D kV doc pm an cdv ct us its mv ws l1 l2 l3 l4 => ⟨fun _ => match us, its, mv, ws, l1, l2, l3, l4 with
      | [u0], [], [], [], _, _, _, _ => rfl, fun z => absurd rfl z⟩, by first | rfl | kernel_rfl⟩⟩
theorem rows_ok : ∀ r ∈ T.rows, RowOk T r := by
  intro r hr
  simp only [T, List.mem_cons, List.not_mem_nil, or_false] at hr
  rcases hr with rfl | rfl | rfl | rfl | rfl | rfl | rfl | rfl | rfl | rfl | rfl | rfl | rfl | rfl | rfl | rfl | rfl | rfl | rfl
  · exact ok_law
  · exact ok__law_bag
  · exact ok_Box_init
  · exact ok__law_take
  · exact ok__law_part
  · exact ok_Book_plain
  · exact ok_Level_init
  · exact ok_Book_kinds
  · exact ok_Book_init
  · exact ok_is_within
  · exact ok_is_spots
  · exact ok__law_pick
  · exact ok_are_kinds
  · exact ok_are_boxes
  · exact ok_Book_lowest
  · exact ok_is_number
  · exact ok__law_field
  · exact ok__law_got
  · exact ok__law_all_got
theorem shapes_ok : ∀ q ∈ T.shapes, ShapeOk T q := by
  intro r hr
  simp only [T, List.mem_cons, List.not_mem_nil, or_false] at hr
  rcases hr with rfl | rfl | rfl | rfl | rfl | rfl | rfl | rfl | rfl | rfl | rfl | rfl | rfl | rfl | rfl | rfl | rfl | rfl | rfl | rfl
  · exact hk_0
  · exact hk_1
  · exact hk_2
  · exact hk_3
  · exact hk_4
  · exact hk_5
  · exact hk_6
  · exact hk_7
  · exact hk_8
  · exact hk_9
  · exact hk_10
  · exact hk_11
  · exact hk_12
  · exact hk_13
  · exact hk_14
  · exact hk_15
  · exact hk_16
  · exact hk_17
  · exact hk_18
  · exact hk_19
end L_k07
end
section
set_option Elab.async false
set_option linter.all false
set_option maxRecDepth 100000
set_option maxHeartbeats 0
namespace L_k07
open PySem PySem.Spec PyProof.Rows L2 Mp
abbrev oRow : PySem.W.OpenRow := PySem.W.OpenLaw.row PySem.Challenge.rw_sheetsums_k07_books_refused
abbrev qv : Program := PySem.W.view oRow.prog [40]
abbrev hkM : PySem.W.Hook := hookL 7 T
def obM (s : PySem.W.SharedT) : Bool × List He.FnW := obsL 7 T (HandSHeadRun.getT s)
theorem obM_eq (s : PySem.W.SharedT) : obM s = hkM.obs s.abs := obsL_eq (HandSHeadRun.getT_eq s)
def loose : List Str := (["_wall", "__name__", "SheetError", "BadLevel", "BadBox", "BadBook", "TooLow", "BadRow", "BadFault", "BadWish", "BadCount", "BadText", "BadName", "Taken", "Full", "BadLimit", "BadCommand", "SheetMissing", "NoBook", "NothingLeft", "SPOTS", "MOST_LINES", "MOST_KEPT", "is_number", "is_within", "is_spots", "Level", "Box", "are_kinds", "are_boxes"] : List Str) ++ (["Book", "_law_bag", "_law_take", "_law_pick", "_law_field", "_law_got", "_law_all_got", "_law_part"] : List Str)
open PySem.W PySem.Calls HandSHeadRun in
noncomputable abbrev runX (w : World) (os : OsState) : Option PySem.W.SharedT := endF (stepQ (denQ tabQ) oRow.prog w) 9000 oRow.prog w os
def frM (s : PySem.W.SharedT) : PySem.W.Frag := frL (HandSHeadRun.getT s) 7
def restM (K : PySem.W.Frag) : Bool := T.gfn.all (fun f => He.eqO (PySem.W.nsIn K mainGlobals f) (some (some (.ref (T.fa K f))))) && (T.cls.all (clsB K) && (T.meths.all (fun q => methB T K q.1.1 q.1.2 q.2) && (T.props.all (fun q => propB T K q.1.1 q.1.2 q.2) &&
  (T.cons.all (fun q => conB K q.1.1 q.1.2 q.2) && (T.fls.all (fun q => He.eqO (PySem.W.findIn K (.ref (He.ga K q.1)) q.2) (some none)) && (T.globs.all (fun q => globB K q.1 q.2) && (T.subs.all (fun q => decide (PySem.W.kitOne K (tyVal K q.1.1) (tyVal K q.1.2) = some q.2)) &&
    (biNames.all (fun x => He.eqO (PySem.W.nsIn K mainGlobals (Str.ofString x)) (some none)) && (T.excs.all (fun q => exB T.file K q.1 q.2) && (T.xsubs.all (fun q => decide (PySem.W.kitOne K (.ref (He.ga K q.1.1)) (.ref (He.ga K q.1.2)) = some q.2)) && ((!T.gots || gotK K) && (T.shapes.all (dflB T K) && T.stats.all (fun q => statB T K q.1.1 q.1.2 q.2)))))))))))))
open PySem.W PySem.Calls HandSHeadRun in
theorem runM (w : World) : HandSHeadRun.RunEq oRow qv hkM obM 9000 loose w := fun os => by
  show (runX w os).map (fun s => (looksF oRow.prog (boot_heap w.params) s.abs, seenQ qv loose (importedModules oRow.prog.main.body) (fun s => xlAt qv [] s && recOk oRow.toRowW.records s) s.abs, (tabB (HandSHeadRun.getT s) (frM s) && ((frM s).lookup (lawTab (frM s)).2).isNone && (T.rows.all (·.ok (frM s)) && restM (frM s)), T.rows.map fun r => fnAt (frM s) (r.at_.addr (frM s))))) = some (true, openGood qv loose, (true, T.rows.map Row.val))
  kernel_rfl
theorem law_row : T.row "law" = some r_law := rfl
theorem done (ans : ∀ ns : List Int, ns.length ≤ 63 → ∃ st', call T.prog 25 "law" [.scr ns] [] = .ok (.bl true) st') : PySem.Challenge.rw_sheetsums_k07_books_refused.Holds := by
  open PySem.W PySem.Calls in
  w_on; o_law
  refine HandSHeadRun.head_any (r := OpenLaw.row PySem.Challenge.rw_sheetsums_k07_books_refused) (q := view (OpenLaw.row PySem.Challenge.rw_sheetsums_k07_books_refused).prog [40]) (H := hkM) (ob := obM) (M := 9000) (loose := loose) (d := HandSHeadRun.topDef (OpenLaw.row PySem.Challenge.rw_sheetsums_k07_books_refused).prog 40) (kwd := []) obM_eq
    (by kernel_rfl) (fun s => by kernel_rfl) runM (by kernel_rfl) (by kernel_rfl) (by kernel_rfl) (by rfl) (by first | assumption | decide +kernel) (by decide +kernel) ⟨rfl, rfl, rfl, rfl, rfl, by decide +kernel⟩ ?hw ?hc
  case hw => w_witness2
  case hc =>
    refine LamX.walk_ofTsE (l := PySem.Challenge.rw_sheetsums_k07_books_refused) (n := 63) (k := 79) (x := "_law_script") (CX := fun _ _ _ _ _ _ _ => False) rfl (by decide) (by kernel_rfl) ⟨rfl, by decide, by decide⟩ ?F (fun _ _ _ _ _ z => z)
    intro w mg fa h Y G hmg0
    obtain ⟨K, KX, sl⟩ := Y
    have hmg : mg ("law" : PySem.Str) = some (.ref fa) :=
                                                          by
      have e : (HandSHeadRun.topDef (PySem.W.OpenLaw.row PySem.Challenge.rw_sheetsums_k07_books_refused).prog 40).name = ("law" : PySem.Str) := by kernel_rfl
      rw [← e]
      exact hmg0
    exact ⟨K, KX, law_factsL (l := PySem.Challenge.rw_sheetsums_k07_books_refused) (w := w) (d := 24) (n := 63) (x := "_law_script") (Nat.le_refl 63) KX G sl okT rows_ok shapes_ok ⟨rfl, by kernel_rfl⟩ (fun _ => gots_ok) (fun _ => alls_ok) rfl law_row rfl rfl rfl rfl hmg (fun _ _ _ _ _ _ _ _ => rfl) ans⟩
end L_k07
end
section
set_option Elab.async false
set_option linter.all false
set_option maxRecDepth 100000
set_option maxHeartbeats
                         1000000
namespace L_k07
open PySem Mp
variable {XS : List SO}
theorem unf {d : Nat} {f : Str} {F : MFun} (h : T.prog.fn f = some F) (args : List Val) (st : Store) : call T.prog (d + 1) f args st = runF T.prog (call T.prog d) F args st := by
  show (match T.prog.fn f with | some F => runF T.prog (call T.prog d) F args st | none => .stuck) = _
  rw [h]
def bagS (XS : List SO) (cells : List Int) (i : Nat) (big seed steps : Int) : Store := .lst [.lst (cells.map .int), .int i, .int big, .int seed, .int steps] :: XS
def Bag (XS : List SO) (st : Store) : Prop := ∃ cells i big seed steps, st = bagS XS cells i big seed steps ∧ 0 ≤ big
section
variable (a b c d e v : Val) (st : Store)
theorem ix0 : ixV (SO.lst [a, b, c, d, e] :: XS) (.ref 0) (.int 0) = some a := rfl
theorem ix1 : ixV (SO.lst [a, b, c, d, e] :: XS) (.ref 0) (.int 1) = some b := rfl
theorem ix2 : ixV (SO.lst [a, b, c, d, e] :: XS) (.ref 0) (.int 2) = some c := rfl
theorem ix3 : ixV (SO.lst [a, b, c, d, e] :: XS) (.ref 0) (.int 3) = some d := rfl
theorem ix4 : ixV (SO.lst [a, b, c, d, e] :: XS) (.ref 0) (.int 4) = some e := rfl
theorem st1 : setV (SO.lst [a, b, c, d, e] :: XS) (.ref 0) (.int 1) v = some (SO.lst [a, v, c, d, e] :: XS) := rfl
theorem st2 : setV (SO.lst [a, b, c, d, e] :: XS) (.ref 0) (.int 2) v = some (SO.lst [a, b, v, d, e] :: XS) := rfl
theorem st3 : setV (SO.lst [a, b, c, d, e] :: XS) (.ref 0) (.int 3) v = some (SO.lst [a, b, c, v, e] :: XS) := rfl
theorem st4 : setV (SO.lst [a, b, c, d, e] :: XS) (.ref 0) (.int 4) v = some (SO.lst [a, b, c, d, v] :: XS) := rfl
theorem c_eq (i j : Int) : cmpV st .eq (.int i) (.int j) = some (i == j) := rfl
theorem c_lt (i j : Int) : cmpV st .lt (.int i) (.int j) = some (decide (i < j)) := rfl
theorem c_ge (i j : Int) : cmpV st .ge (.int i) (.int j) = some (decide (j ≤ i)) := rfl
theorem c_gt (i j : Int) : cmpV st .gt (.int i) (.int j) = some (decide (j < i)) := rfl
theorem c_le (i j : Int) : cmpV st .le (.int i) (.int j) = some (decide (i ≤ j)) := rfl
theorem b_add (i j : Int) : binV st .add (.int i) (.int j) = some (.int (i + j)) := rfl
theorem b_sub (i j : Int) : binV st .sub (.int i) (.int j) = some (.int (i - j)) := rfl
theorem b_mul (i j : Int) (h : (-(2 ^ 64) < i ∧ i < 2 ^ 64) ∨ (-(2 ^ 64) < j ∧ j < 2 ^ 64)) : binV st .mul (.int i) (.int j) = some (.int (i * j)) := by
  show (if _ then some (i * j) else none : Option Int).map Val.int = _
  rw [if_pos h]; rfl
theorem b_mod (i j : Int) (h : 0 < j) : binV st .mod (.int i) (.int j) = some (.int (i % j)) := by
  show (if 0 < j then some (i % j) else none : Option Int).map Val.int = _
  rw [if_pos h]; rfl
theorem b_div (i j : Int) (h : 0 < j ∧ j < 1073741824) : binV st .fdiv (.int i) (.int j) = some (.int (i / j)) := by
  show (if 0 < j ∧ j < 1073741824 then some (i / j) else none : Option Int).map Val.int = _
  rw [if_pos h]; rfl
theorem b_pow (i j : Int) (h : 0 ≤ j ∧ j ≤ 1000000 ∧ i.natAbs < 2 ^ 64) : binV st .pow (.int i) (.int j) = some (.int (i ^ j.toNat)) := by
  show (if _ then some (i ^ j.toNat) else none : Option Int).map Val.int = _
  rw [if_pos h]; rfl
theorem b_pow18 : binV st .pow (.int 10) (.int 18) = some (.int 1000000000000000000) := rfl
theorem v_len (xs : List Val) : bV st "len" [.lst xs] = some (.int xs.length) := rfl
theorem v_int (i : Int) : bV st "int" [.int i] = some (.int i) := rfl
end
theorem cell_at {cells : List Int} {i : Nat} (h : i < cells.length) (st : Store) : ixV st (.lst (cells.map .int)) (.int i) = some (.int cells[i]) := by
  show L2.atI (cells.map Val.int) (i : Int) = _
  unfold L2.atI L2.ixN
  simp [h]
theorem Ss_next {Φ : Cal} {s : MS} {ss : List MS} {env env' : Mp.Env} {st st' : Store} (h : evalS T.prog Φ s env st = .ok (.next env') st') : evalSs T.prog Φ (s :: ss) env st = evalSs T.prog Φ ss env' st' := by
  rw [Ss_cons, h]; rfl
theorem Ss_ret {Φ : Cal} {s : MS} {ss : List MS} {env : Mp.Env} {v : Val} {st st' : Store} (h : evalS T.prog Φ s env st = .ok (.ret v) st') : evalSs T.prog Φ (s :: ss) env st = .ok (.ret v) st' := by
  rw [Ss_cons, h]; rfl
theorem run_ret {Φ : Cal} {F : MFun} {args : List Val} {v : Val} {st st' : Store} (hn : args.length = F.np) (h : evalSs T.prog Φ F.body (args.map some ++ List.replicate (F.ns - args.length) none) st = .ok (.ret v) st') : runF T.prog Φ F args st = .ok v st' := by
  unfold runF
  rw [if_pos hn, h]; rfl
theorem run_next {Φ : Cal} {F : MFun} {args : List Val} {env : Mp.Env} {st st' : Store} (hn : args.length = F.np) (h : evalSs T.prog Φ F.body (args.map some ++ List.replicate (F.ns - args.length) none) st = .ok (.next env) st') : runF T.prog Φ F args st = .ok .non st' := by
  unfold runF
  rw [if_pos hn, h]; rfl
theorem f_take : T.prog.fn "_law_take" = some ⟨2, 5, b__law_take⟩ := rfl
theorem take0 (Φ : Cal) (many : Int) (cells : List Int) (i : Nat) (big seed steps : Int) (hb : 0 ≤ big) : ∃ c i' big' seed', evalS T.prog Φ b__law_take_0 [some (.ref 0), some (.int many), none, none, none] (bagS XS cells i big seed steps) = .ok (.next [some (.ref 0), some (.int many), c, none, none]) (bagS XS cells i' big' seed' steps) ∧ 0 ≤ big' := by
  unfold b__law_take_0 bagS
  by_cases h1 : big = 0
  · subst h1
    by_cases h2 : i < cells.length
    · have h2' : decide (((i : Int)) < ((cells.map Val.int).length : Int)) = true := by simpa using h2
      by_cases h3 : (1000000000000000000 : Int) ≤ cells[i]
      · refine ⟨some (.int cells[i]), i + 1, cells[i], seed, ?_, by omega⟩
        have h3' : decide ((1000000000000000000 : Int) ≤ cells[i]) = true := decide_eq_true h3
        simp only [E_var, E_non, E_bl, E_int, E_str, E_glob, E_bin, E_neg, E_cmp, E_chain, E_and, E_or, E_not, E_ite, E_tup, E_lstF, E_lstT, E_ix, E_slc, E_attr, E_call, E_make, E_meth, E_methk, E_bcall, E_bmeth, E_isin, Es_nil, Es_cons, and_one, and_two, or_one, or_two, T_and, T_or, T_not, T_cmp, T_chain, T_var, T_bl, T_attr, T_call, T_bcall, T_ix, T_isin, andT_one, andT_two, orT_one, orT_two, test_nil, test_one, S_expr, S_set, S_sett, S_setc, S_par, S_fld, S_sub, S_ret, S_retN, S_ite, S_for, S_pass, Ss_nil, Ss_cons, R.then_ok, R.of_some, List.getElem?_cons_zero, List.getElem?_cons_succ, Option.map_some, asB, E_dget, T_dget, S_dput, ix0, ix1, ix2, ix3, ix4, c_eq, c_lt, c_ge, c_gt, c_le, v_len, v_int, beq_self_eq_true, cell_at, bindT, List.length_cons, List.length_nil, List.set_cons_succ, List.set_cons_zero, b_add, b_sub, b_mul, b_mod, b_div, b_pow18, st1, st2, st3, st4, Nat.reduceAdd, Nat.reduceLT, if_true, or_true, true_or, and_self, and_true, true_and, Int.reduceLT, Int.reduceNeg, Int.reducePow, h2', h2, h3']
        rfl
      · have h3' : decide ((1000000000000000000 : Int) ≤ cells[i]) = false := decide_eq_false h3
        refine ⟨some (.int cells[i]), i + 1, 0, (seed * 28657 + cells[i] % 2147483563 + 13) % 2147483549, ?_, by omega⟩
        simp only [E_var, E_non, E_bl, E_int, E_str, E_glob, E_bin, E_neg, E_cmp, E_chain, E_and, E_or, E_not, E_ite, E_tup, E_lstF, E_lstT, E_ix, E_slc, E_attr, E_call, E_make, E_meth, E_methk, E_bcall, E_bmeth, E_isin, Es_nil, Es_cons, and_one, and_two, or_one, or_two, T_and, T_or, T_not, T_cmp, T_chain, T_var, T_bl, T_attr, T_call, T_bcall, T_ix, T_isin, andT_one, andT_two, orT_one, orT_two, test_nil, test_one, S_expr, S_set, S_sett, S_setc, S_par, S_fld, S_sub, S_ret, S_retN, S_ite, S_for, S_pass, Ss_nil, Ss_cons, R.then_ok, R.of_some, List.getElem?_cons_zero, List.getElem?_cons_succ, Option.map_some, asB, E_dget, T_dget, S_dput, ix0, ix1, ix2, ix3, ix4, c_eq, c_lt, c_ge, c_gt, c_le, v_len, v_int, beq_self_eq_true, cell_at, bindT, List.length_cons, List.length_nil, List.set_cons_succ, List.set_cons_zero, b_add, b_sub, b_mul, b_mod, b_div, b_pow18, st1, st2, st3, st4, Nat.reduceAdd, Nat.reduceLT, if_true, or_true, true_or, and_self, and_true, true_and, Int.reduceLT, Int.reduceNeg, Int.reducePow, h2', h2, h3']
        rfl
    · have h2' : decide (((i : Int)) < ((cells.map Val.int).length : Int)) = false := by simpa using h2
      refine ⟨none, i, 0, seed, ?_, hb⟩
      simp only [E_var, E_non, E_bl, E_int, E_str, E_glob, E_bin, E_neg, E_cmp, E_chain, E_and, E_or, E_not, E_ite, E_tup, E_lstF, E_lstT, E_ix, E_slc, E_attr, E_call, E_make, E_meth, E_methk, E_bcall, E_bmeth, E_isin, Es_nil, Es_cons, and_one, and_two, or_one, or_two, T_and, T_or, T_not, T_cmp, T_chain, T_var, T_bl, T_attr, T_call, T_bcall, T_ix, T_isin, andT_one, andT_two, orT_one, orT_two, test_nil, test_one, S_expr, S_set, S_sett, S_setc, S_par, S_fld, S_sub, S_ret, S_retN, S_ite, S_for, S_pass, Ss_nil, Ss_cons, R.then_ok, R.of_some, List.getElem?_cons_zero, List.getElem?_cons_succ, Option.map_some, asB, E_dget, T_dget, S_dput, ix0, ix1, ix2, ix3, ix4, c_eq, c_lt, c_ge, c_gt, c_le, v_len, v_int, beq_self_eq_true, cell_at, bindT, List.length_cons, List.length_nil, List.set_cons_succ, List.set_cons_zero, b_add, b_sub, b_mul, b_mod, b_div, b_pow18, st1, st2, st3, st4, Nat.reduceAdd, Nat.reduceLT, if_true, or_true, true_or, and_self, and_true, true_and, Int.reduceLT, Int.reduceNeg, Int.reducePow, h2']
  · have h1' : (big == 0) = false := by simpa using h1
    refine ⟨none, i, big, seed, ?_, hb⟩
    simp only [E_var, E_non, E_bl, E_int, E_str, E_glob, E_bin, E_neg, E_cmp, E_chain, E_and, E_or, E_not, E_ite, E_tup, E_lstF, E_lstT, E_ix, E_slc, E_attr, E_call, E_make, E_meth, E_methk, E_bcall, E_bmeth, E_isin, Es_nil, Es_cons, and_one, and_two, or_one, or_two, T_and, T_or, T_not, T_cmp, T_chain, T_var, T_bl, T_attr, T_call, T_bcall, T_ix, T_isin, andT_one, andT_two, orT_one, orT_two, test_nil, test_one, S_expr, S_set, S_sett, S_setc, S_par, S_fld, S_sub, S_ret, S_retN, S_ite, S_for, S_pass, Ss_nil, Ss_cons, R.then_ok, R.of_some, List.getElem?_cons_zero, List.getElem?_cons_succ, Option.map_some, asB, E_dget, T_dget, S_dput, ix0, ix1, ix2, ix3, ix4, c_eq, c_lt, c_ge, c_gt, c_le, v_len, v_int, beq_self_eq_true, cell_at, bindT, List.length_cons, List.length_nil, List.set_cons_succ, List.set_cons_zero, b_add, b_sub, b_mul, b_mod, b_div, b_pow18, st1, st2, st3, st4, Nat.reduceAdd, Nat.reduceLT, if_true, or_true, true_or, and_self, and_true, true_and, Int.reduceLT, Int.reduceNeg, Int.reducePow, h1']
theorem take1 (Φ : Cal) (many : Int) (h0 : 0 < many) (h9 : many < 1073741824) (c : Option Val) (cells : List Int) (i : Nat) (big seed steps : Int) (hb : 0 ≤ big) : (∃ r big', evalS T.prog Φ b__law_take_1 [some (.ref 0), some (.int many), c, none, none] (bagS XS cells i big seed steps) = .ok (.ret (.int r)) (bagS XS cells i big' seed steps) ∧ 0 ≤ r ∧ r < many ∧ 0 ≤ big') ∨
    evalS T.prog Φ b__law_take_1 [some (.ref 0), some (.int many), c, none, none] (bagS XS cells i big seed steps) = .ok (.next [some (.ref 0), some (.int many), c, none, none]) (bagS XS cells i big seed steps) := by
  unfold b__law_take_1 bagS
  by_cases h1 : 0 < big
  · have h1' : decide (0 < big) = true := decide_eq_true h1
    refine .inl ⟨big % many, big / many, ?_, Int.emod_nonneg _ (by omega), Int.emod_lt_of_pos _ h0, Int.ediv_nonneg hb (by omega)⟩
    simp only [E_var, E_non, E_bl, E_int, E_str, E_glob, E_bin, E_neg, E_cmp, E_chain, E_and, E_or, E_not, E_ite, E_tup, E_lstF, E_lstT, E_ix, E_slc, E_attr, E_call, E_make, E_meth, E_methk, E_bcall, E_bmeth, E_isin, Es_nil, Es_cons, and_one, and_two, or_one, or_two, T_and, T_or, T_not, T_cmp, T_chain, T_var, T_bl, T_attr, T_call, T_bcall, T_ix, T_isin, andT_one, andT_two, orT_one, orT_two, test_nil, test_one, S_expr, S_set, S_sett, S_setc, S_par, S_fld, S_sub, S_ret, S_retN, S_ite, S_for, S_pass, Ss_nil, Ss_cons, R.then_ok, R.of_some, List.getElem?_cons_zero, List.getElem?_cons_succ, Option.map_some, asB, E_dget, T_dget, S_dput, ix0, ix1, ix2, ix3, ix4, c_eq, c_lt, c_ge, c_gt, c_le, v_len, v_int, beq_self_eq_true, cell_at, bindT, List.length_cons, List.length_nil, List.set_cons_succ, List.set_cons_zero, b_add, b_sub, b_mul, b_mod, b_div, b_pow18, st1, st2, st3, st4, Nat.reduceAdd, Nat.reduceLT, if_true, or_true, true_or, and_self, and_true, true_and, Int.reduceLT, Int.reduceNeg, Int.reducePow, h1', h0, h9]
  · have h1' : decide (0 < big) = false := decide_eq_false h1
    refine .inr ?_
    simp only [E_var, E_non, E_bl, E_int, E_str, E_glob, E_bin, E_neg, E_cmp, E_chain, E_and, E_or, E_not, E_ite, E_tup, E_lstF, E_lstT, E_ix, E_slc, E_attr, E_call, E_make, E_meth, E_methk, E_bcall, E_bmeth, E_isin, Es_nil, Es_cons, and_one, and_two, or_one, or_two, T_and, T_or, T_not, T_cmp, T_chain, T_var, T_bl, T_attr, T_call, T_bcall, T_ix, T_isin, andT_one, andT_two, orT_one, orT_two, test_nil, test_one, S_expr, S_set, S_sett, S_setc, S_par, S_fld, S_sub, S_ret, S_retN, S_ite, S_for, S_pass, Ss_nil, Ss_cons, R.then_ok, R.of_some, List.getElem?_cons_zero, List.getElem?_cons_succ, Option.map_some, asB, E_dget, T_dget, S_dput, ix0, ix1, ix2, ix3, ix4, c_eq, c_lt, c_ge, c_gt, c_le, v_len, v_int, beq_self_eq_true, cell_at, bindT, List.length_cons, List.length_nil, List.set_cons_succ, List.set_cons_zero, b_add, b_sub, b_mul, b_mod, b_div, b_pow18, st1, st2, st3, st4, Nat.reduceAdd, Nat.reduceLT, if_true, or_true, true_or, and_self, and_true, true_and, Int.reduceLT, Int.reduceNeg, Int.reducePow, h1']
theorem take_end (Φ : Cal) (many : Int) (h0 : 0 < many) (c : Option Val) (cells : List Int) (i : Nat) (big seed steps : Int) : ∃ r seed' steps', evalSs T.prog Φ [b__law_take_2, b__law_take_3, b__law_take_4, b__law_take_5] [some (.ref 0), some (.int many), c, none, none] (bagS XS cells i big seed steps) = .ok (.ret (.int r)) (bagS XS cells i big seed' steps') ∧ 0 ≤ r ∧ r < many := by
  have e2 : evalS T.prog Φ b__law_take_2 [some (.ref 0), some (.int many), c, none, none] (bagS XS cells i big seed steps) = .ok (.next [some (.ref 0), some (.int many), c, none, none]) (bagS XS cells i big seed (steps + 1)) := by
    unfold b__law_take_2 bagS
    simp only [E_var, E_non, E_bl, E_int, E_str, E_glob, E_bin, E_neg, E_cmp, E_chain, E_and, E_or, E_not, E_ite, E_tup, E_lstF, E_lstT, E_ix, E_slc, E_attr, E_call, E_make, E_meth, E_methk, E_bcall, E_bmeth, E_isin, Es_nil, Es_cons, and_one, and_two, or_one, or_two, T_and, T_or, T_not, T_cmp, T_chain, T_var, T_bl, T_attr, T_call, T_bcall, T_ix, T_isin, andT_one, andT_two, orT_one, orT_two, test_nil, test_one, S_expr, S_set, S_sett, S_setc, S_par, S_fld, S_sub, S_ret, S_retN, S_ite, S_for, S_pass, Ss_nil, Ss_cons, R.then_ok, R.of_some, List.getElem?_cons_zero, List.getElem?_cons_succ, Option.map_some, asB, E_dget, T_dget, S_dput, ix0, ix1, ix2, ix3, ix4, c_eq, c_lt, c_ge, c_gt, c_le, v_len, v_int, beq_self_eq_true, cell_at, bindT, List.length_cons, List.length_nil, List.set_cons_succ, List.set_cons_zero, b_add, b_sub, b_mul, b_mod, b_div, b_pow18, st1, st2, st3, st4, Nat.reduceAdd, Nat.reduceLT, if_true, or_true, true_or, and_self, and_true, true_and, Int.reduceLT, Int.reduceNeg, Int.reducePow, ]
  have e3 : evalS T.prog Φ b__law_take_3 [some (.ref 0), some (.int many), c, none, none] (bagS XS cells i big seed (steps + 1)) = .ok (.next [some (.ref 0), some (.int many), c, none, some (.int ((seed + (steps + 1) * 6007) % 2147483549))]) (bagS XS cells i big seed (steps + 1)) := by
    unfold b__law_take_3 bagS
    simp only [E_var, E_non, E_bl, E_int, E_str, E_glob, E_bin, E_neg, E_cmp, E_chain, E_and, E_or, E_not, E_ite, E_tup, E_lstF, E_lstT, E_ix, E_slc, E_attr, E_call, E_make, E_meth, E_methk, E_bcall, E_bmeth, E_isin, Es_nil, Es_cons, and_one, and_two, or_one, or_two, T_and, T_or, T_not, T_cmp, T_chain, T_var, T_bl, T_attr, T_call, T_bcall, T_ix, T_isin, andT_one, andT_two, orT_one, orT_two, test_nil, test_one, S_expr, S_set, S_sett, S_setc, S_par, S_fld, S_sub, S_ret, S_retN, S_ite, S_for, S_pass, Ss_nil, Ss_cons, R.then_ok, R.of_some, List.getElem?_cons_zero, List.getElem?_cons_succ, Option.map_some, asB, E_dget, T_dget, S_dput, ix0, ix1, ix2, ix3, ix4, c_eq, c_lt, c_ge, c_gt, c_le, v_len, v_int, beq_self_eq_true, cell_at, bindT, List.length_cons, List.length_nil, List.set_cons_succ, List.set_cons_zero, b_add, b_sub, b_mul, b_mod, b_div, b_pow18, st1, st2, st3, st4, Nat.reduceAdd, Nat.reduceLT, if_true, or_true, true_or, and_self, and_true, true_and, Int.reduceLT, Int.reduceNeg, Int.reducePow, ]
  have h1 := Int.emod_nonneg (seed + (steps + 1) * 6007) (show (2147483549 : Int) ≠ 0 by decide)
  have h2 := Int.emod_lt_of_pos (seed + (steps + 1) * 6007) (show (0 : Int) < 2147483549 by decide)
  generalize (seed + (steps + 1) * 6007) % 2147483549 = z at *
  have hz : z.natAbs < 2 ^ 64 := by omega
  have e4 : evalS T.prog Φ b__law_take_4 [some (.ref 0), some (.int many), c, none, some (.int z)] (bagS XS cells i big seed (steps + 1)) = .ok (.next [some (.ref 0), some (.int many), c, none, some (.int z)]) (bagS XS cells i big ((z ^ 3 + 50021 * z + 977) % 2147483549) (steps + 1)) := by
    unfold b__law_take_4 bagS
    have hp : ∀ st, binV st .pow (.int z) (.int 3) = some (.int (z ^ 3)) := fun st => b_pow st z 3 ⟨by decide, by decide, hz⟩
    simp only [E_var, E_non, E_bl, E_int, E_str, E_glob, E_bin, E_neg, E_cmp, E_chain, E_and, E_or, E_not, E_ite, E_tup, E_lstF, E_lstT, E_ix, E_slc, E_attr, E_call, E_make, E_meth, E_methk, E_bcall, E_bmeth, E_isin, Es_nil, Es_cons, and_one, and_two, or_one, or_two, T_and, T_or, T_not, T_cmp, T_chain, T_var, T_bl, T_attr, T_call, T_bcall, T_ix, T_isin, andT_one, andT_two, orT_one, orT_two, test_nil, test_one, S_expr, S_set, S_sett, S_setc, S_par, S_fld, S_sub, S_ret, S_retN, S_ite, S_for, S_pass, Ss_nil, Ss_cons, R.then_ok, R.of_some, List.getElem?_cons_zero, List.getElem?_cons_succ, Option.map_some, asB, E_dget, T_dget, S_dput, ix0, ix1, ix2, ix3, ix4, c_eq, c_lt, c_ge, c_gt, c_le, v_len, v_int, beq_self_eq_true, cell_at, bindT, List.length_cons, List.length_nil, List.set_cons_succ, List.set_cons_zero, b_add, b_sub, b_mul, b_mod, b_div, b_pow18, st1, st2, st3, st4, Nat.reduceAdd, Nat.reduceLT, if_true, or_true, true_or, and_self, and_true, true_and, Int.reduceLT, Int.reduceNeg, Int.reducePow, hp]
  generalize (z ^ 3 + 50021 * z + 977) % 2147483549 = y at *
  have e5 : evalS T.prog Φ b__law_take_5 [some (.ref 0), some (.int many), c, none, some (.int z)] (bagS XS cells i big y (steps + 1)) = .ok (.ret (.int ((y / 59 + y % 7919 * 37) % many))) (bagS XS cells i big y (steps + 1)) := by
    unfold b__law_take_5 bagS
    simp only [E_var, E_non, E_bl, E_int, E_str, E_glob, E_bin, E_neg, E_cmp, E_chain, E_and, E_or, E_not, E_ite, E_tup, E_lstF, E_lstT, E_ix, E_slc, E_attr, E_call, E_make, E_meth, E_methk, E_bcall, E_bmeth, E_isin, Es_nil, Es_cons, and_one, and_two, or_one, or_two, T_and, T_or, T_not, T_cmp, T_chain, T_var, T_bl, T_attr, T_call, T_bcall, T_ix, T_isin, andT_one, andT_two, orT_one, orT_two, test_nil, test_one, S_expr, S_set, S_sett, S_setc, S_par, S_fld, S_sub, S_ret, S_retN, S_ite, S_for, S_pass, Ss_nil, Ss_cons, R.then_ok, R.of_some, List.getElem?_cons_zero, List.getElem?_cons_succ, Option.map_some, asB, E_dget, T_dget, S_dput, ix0, ix1, ix2, ix3, ix4, c_eq, c_lt, c_ge, c_gt, c_le, v_len, v_int, beq_self_eq_true, cell_at, bindT, List.length_cons, List.length_nil, List.set_cons_succ, List.set_cons_zero, b_add, b_sub, b_mul, b_mod, b_div, b_pow18, st1, st2, st3, st4, Nat.reduceAdd, Nat.reduceLT, if_true, or_true, true_or, and_self, and_true, true_and, Int.reduceLT, Int.reduceNeg, Int.reducePow, h0]
  exact ⟨_, _, _, (Ss_next e2).trans ((Ss_next e3).trans ((Ss_next e4).trans (Ss_ret e5))), Int.emod_nonneg _ (by omega), Int.emod_lt_of_pos _ h0⟩
theorem take_ok (d : Nat) (many : Int) (h0 : 0 < many) (h1 : many < 1073741824) {st : Store} (hb : Bag XS st) : ∃ r st', call T.prog (d + 1) "_law_take" [.ref 0, .int many] st = .ok (.int r) st' ∧ 0 ≤ r ∧ r < many ∧ Bag XS st' := by
  obtain ⟨cells, i, big, seed, steps, rfl, hbig⟩ := hb
  rw [unf f_take]
  obtain ⟨c, i', big', seed', e0, hb'⟩ := take0 (call T.prog d) many cells i big seed steps hbig
  rcases take1 (call T.prog d) many h0 h1 c cells i' big' seed' steps hb' with ⟨r, big2, e1, r0, r1, hb2⟩ | e1
  · exact ⟨r, _, run_ret rfl ((Ss_next e0).trans (Ss_ret e1)), r0, r1, _, _, _, _, _, rfl, hb2⟩
  · obtain ⟨r, seed2, steps2, e2, r0, r1⟩ := take_end (call T.prog d) many h0 c cells i' big' seed' steps
    exact ⟨r, _, run_ret rfl ((Ss_next e0).trans ((Ss_next e1).trans e2)), r0, r1, _, _, _, _, _, rfl, hb'⟩
theorem c_take (d : Nat) (many : Int) (h0 : 0 < many) (h1 : many < 1073741824) {st : Store} (hb : Bag XS st) : ∃ r st', callM T.prog (call T.prog (d + 1)) .raw "_law_take" [] [.ref 0, .int many] [] st = .ok (.int r) st' ∧ 0 ≤ r ∧ r < many ∧ Bag XS st' := by
  obtain ⟨r, st', e, h⟩ := take_ok d many h0 h1 hb
  exact ⟨r, st', call_raw (tp := [.pos 0, .pos 1]) rfl rfl e, h⟩
theorem f_pick : T.prog.fn "_law_pick" = some ⟨2, 2, b__law_pick⟩ := rfl
theorem item_at {xs : List Val} {r : Int} (h0 : 0 ≤ r) (h1 : r < xs.length) (st : Store) : ∃ v, ixV st (.lst xs) (.int r) = some v ∧ v ∈ xs := by
  have hl : r.toNat < xs.length := by omega
  refine ⟨xs[r.toNat], ?_, List.getElem_mem hl⟩
  show L2.atI xs r = _
  unfold L2.atI L2.ixN
  simp [hl, h0, h1]
theorem pick_ok (d : Nat) (xs : List Val) (hx : 0 < xs.length) (hl : xs.length < 1073741824) {st : Store} (hb : Bag XS st) : ∃ v st', callM T.prog (call T.prog (d + 2)) .raw "_law_pick" [] [.ref 0, .lst xs] [] st = .ok v st' ∧ v ∈ xs ∧ Bag XS st' := by
  obtain ⟨r, st', e, h0, h1, h2⟩ := c_take d xs.length (by omega) (by omega) hb
  obtain ⟨v, ev, hv⟩ := item_at h0 h1 st'
  refine ⟨v, st', call_raw (tp := [.pos 0, .pos 1]) rfl rfl ?_, hv, h2⟩
  rw [unf f_pick]
  refine run_ret rfl (Ss_ret ?_)
  unfold b__law_pick_0
  simp only [E_var, E_non, E_bl, E_int, E_str, E_glob, E_bin, E_neg, E_cmp, E_chain, E_and, E_or, E_not, E_ite, E_tup, E_lstF, E_lstT, E_ix, E_slc, E_attr, E_call, E_make, E_meth, E_methk, E_bcall, E_bmeth, E_isin, Es_nil, Es_cons, and_one, and_two, or_one, or_two, T_and, T_or, T_not, T_cmp, T_chain, T_var, T_bl, T_attr, T_call, T_bcall, T_ix, T_isin, andT_one, andT_two, orT_one, orT_two, test_nil, test_one, S_expr, S_set, S_sett, S_setc, S_par, S_fld, S_sub, S_ret, S_retN, S_ite, S_for, S_pass, Ss_nil, Ss_cons, R.then_ok, R.of_some, List.getElem?_cons_zero, List.getElem?_cons_succ, Option.map_some, asB, E_dget, T_dget, S_dput, ix0, ix1, ix2, ix3, ix4, c_eq, c_lt, c_ge, c_gt, c_le, v_len, v_int, beq_self_eq_true, cell_at, bindT, List.length_cons, List.length_nil, List.set_cons_succ, List.set_cons_zero, b_add, b_sub, b_mul, b_mod, b_div, b_pow18, st1, st2, st3, st4, Nat.reduceAdd, Nat.reduceLT, if_true, or_true, true_or, and_self, and_true, true_and, Int.reduceLT, Int.reduceNeg, Int.reducePow, List.map_cons, List.map_nil, List.cons_append, List.nil_append, e, ev]
theorem f_within : T.prog.fn "is_within" = some ⟨3, 3, b_is_within⟩ := rfl
theorem c_number (d : Nat) (i : Int) (st : Store) : callM T.prog (call T.prog (d + 1)) .raw "is_number" [] [.int i] [] st = .ok (.bl true) st := rfl
theorem c_within (d : Nat) (i lo hi : Int) (st : Store) : callM T.prog (call T.prog (d + 2)) .raw "is_within" [] [.int i, .int lo, .int hi] [] st = .ok (.bl (decide (lo ≤ i) && decide (i ≤ hi))) st := by
  refine call_raw (tp := [.pos 0, .pos 1, .pos 2]) rfl rfl ?_
  rw [unf f_within]
  refine run_ret rfl (Ss_ret ?_)
  unfold b_is_within_0
  cases h : decide (lo ≤ i) <;> simp only [E_var, E_non, E_bl, E_int, E_str, E_glob, E_bin, E_neg, E_cmp, E_chain, E_and, E_or, E_not, E_ite, E_tup, E_lstF, E_lstT, E_ix, E_slc, E_attr, E_call, E_make, E_meth, E_methk, E_bcall, E_bmeth, E_isin, Es_nil, Es_cons, and_one, and_two, or_one, or_two, T_and, T_or, T_not, T_cmp, T_chain, T_var, T_bl, T_attr, T_call, T_bcall, T_ix, T_isin, andT_one, andT_two, orT_one, orT_two, test_nil, test_one, S_expr, S_set, S_sett, S_setc, S_par, S_fld, S_sub, S_ret, S_retN, S_ite, S_for, S_pass, Ss_nil, Ss_cons, R.then_ok, R.of_some, List.getElem?_cons_zero, List.getElem?_cons_succ, Option.map_some, asB, E_dget, T_dget, S_dput, ix0, ix1, ix2, ix3, ix4, c_eq, c_lt, c_ge, c_gt, c_le, v_len, v_int, beq_self_eq_true, cell_at, bindT, List.length_cons, List.length_nil, List.set_cons_succ, List.set_cons_zero, b_add, b_sub, b_mul, b_mod, b_div, b_pow18, st1, st2, st3, st4, Nat.reduceAdd, Nat.reduceLT, if_true, or_true, true_or, and_self, and_true, true_and, Int.reduceLT, Int.reduceNeg, Int.reducePow, List.map_cons, List.map_nil, List.cons_append, List.nil_append, List.replicate, Nat.sub_self, Nat.reduceSub, c_number, h] <;> rfl
theorem fld_step {Φ : Cal} {env : Mp.Env} {st : Store} {c : Str} {ns : List Str} {vs : List Val} {f : Str} {i : Nat} {v : Val} (h0 : env[0]? = some (some (.ref st.length))) (h1 : env[i]? = some (some v)) (hn : decide (ns.length < 1000) = true) (h2 : T.prog.fl c f = true) (h3 : T.prog.isc c = true) :
    evalS T.prog Φ (.fld (.var 0) f (.var i)) env (st ++ [.ins c ns vs]) = .ok (.next env) (st ++ [.ins c (putV ns vs f v).1 (putV ns vs f v).2]) := by
  rw [S_fld, E_var, h1]
  show (evalE T.prog Φ (.var 0) env (st ++ [.ins c ns vs])).then_ _ = _
  rw [E_var, h0]
  show (match fldSet T.prog (st ++ [.ins c ns vs]) (.ref st.length) f v with | some st' => R.ok (Fl.next env) st' | none => .stuck) = _
  rw [fldSet_last st c ns vs f v (of_decide_eq_true hn) h2 h3]
end L_k07
end
section
set_option Elab.async false
set_option linter.all false
set_option maxRecDepth 100000
set_option maxHeartbeats
                         1000000
namespace L_k07
open PySem Mp
variable {XS : List SO}
theorem f_bag : T.prog.fn "_law_bag" = some ⟨1, 3, b__law_bag⟩ := rfl
theorem bag_ok (d : Nat) (ns : List Int) : ∃ st', callM T.prog (call T.prog (d + 1)) .raw "_law_bag" [] [.scr ns] [] [] = .ok (.ref 0) st' ∧ Bag [] st' := by
  have q0 : evalS T.prog (call T.prog d) b__law_bag_0 [some (.scr ns), none, none] [] = .ok (.next [some (.scr ns), some (.int 5790), none]) [] := rfl
  have hs : ∀ (a b : Option Val), srcE T.prog (call T.prog d) .seq [(.slc (.var 0) [] [(.int 63)])] [some (.scr ns), a, b] [] = .ok ((cut ns none (some 63)).map Val.int, []) [] := fun _ _ => rfl
  obtain ⟨env', st', e1, seed, o, rfl, rfl⟩ := loop_inv (I := fun env st => ∃ (seed : Int) (o : Option Val), env = [some (.scr ns), some (.int seed), o] ∧ st = []) (step := forF T.prog (call T.prog d) (.v 2) [.set (.v 1) (.bin .mod (.bcall "int" [(.bin .add (.bin .add (.bin .mul (.var 1) (.int 40503)) (.bin .mod (.bcall "int" [(.var 2)]) (.int 2147483629))) (.int 7))]) (.int 2147483579))]) (items := (cut ns none (some 63)).map Val.int) (fun x hx env st ⟨seed, o, he, hst⟩ => by
    subst he hst
    obtain ⟨c, _, rfl⟩ := List.mem_map.mp hx
    refine ⟨[some (.scr ns), some (.int ((seed * 40503 + c % 2147483629 + 7) % 2147483579)), some (.int c)], [], ?_, _, _, rfl, rfl⟩
    unfold forF
    simp only [E_var, E_non, E_bl, E_int, E_str, E_glob, E_bin, E_neg, E_cmp, E_chain, E_and, E_or, E_not, E_ite, E_tup, E_lstF, E_lstT, E_ix, E_slc, E_attr, E_call, E_make, E_meth, E_methk, E_bcall, E_bmeth, E_isin, Es_nil, Es_cons, and_one, and_two, or_one, or_two, T_and, T_or, T_not, T_cmp, T_chain, T_var, T_bl, T_attr, T_call, T_bcall, T_ix, T_isin, andT_one, andT_two, orT_one, orT_two, test_nil, test_one, S_expr, S_set, S_sett, S_setc, S_par, S_fld, S_sub, S_ret, S_retN, S_ite, S_for, S_pass, Ss_nil, Ss_cons, R.then_ok, R.of_some, List.getElem?_cons_zero, List.getElem?_cons_succ, Option.map_some, asB, E_dget, T_dget, S_dput, ix0, ix1, ix2, ix3, ix4, c_eq, c_lt, c_ge, c_gt, c_le, v_len, v_int, beq_self_eq_true, cell_at, bindT, List.length_cons, List.length_nil, List.set_cons_succ, List.set_cons_zero, b_add, b_sub, b_mul, b_mod, b_div, b_pow18, st1, st2, st3, st4, Nat.reduceAdd, Nat.reduceLT, if_true, or_true, true_or, and_self, and_true, true_and, Int.reduceLT, Int.reduceNeg, Int.reducePow, List.map_cons, List.map_nil, List.cons_append, List.nil_append, List.replicate, Nat.sub_self, Nat.reduceSub, slots]) [some (.scr ns), some (.int 5790), none] [] ⟨_, _, rfl, rfl⟩
  have q1 : evalS T.prog (call T.prog d) b__law_bag_1 [some (.scr ns), some (.int 5790), none] [] = .ok (.next [some (.scr ns), some (.int seed), o]) [] := by
    unfold b__law_bag_1
    rw [S_for, hs]
    exact e1
  refine ⟨bagS [] (cut ns none (some 63)) 0 0 seed 0, call_raw (tp := [.pos 0]) rfl rfl ?_, _, _, _, _, _, rfl, Int.le_refl _⟩
  rw [unf f_bag]
  exact run_ret rfl ((Ss_next q0).trans ((Ss_next q1).trans (Ss_ret rfl)))
end L_k07
end
section
set_option Elab.async false
set_option linter.all false
set_option maxRecDepth 100000
set_option maxHeartbeats
                         1000000
namespace L_k07
open PySem Mp
theorem Ss_err {Φ : Cal} {s : MS} {ss : List MS} {env : Mp.Env} {c : Str} {ns : List Str} {vs : List Val} {st st' : Store} (h : evalS T.prog Φ s env st = .err c ns vs st') : evalSs T.prog Φ (s :: ss) env st = .err c ns vs st' := by
  rw [Ss_cons, h]; rfl
theorem run_err {Φ : Cal} {F : MFun} {args : List Val} {c : Str} {ns : List Str} {vs : List Val} {st st' : Store} (hn : args.length = F.np) (h : evalSs T.prog Φ F.body (args.map some ++ List.replicate (F.ns - args.length) none) st = .err c ns vs st') : runF T.prog Φ F args st = .err c ns vs st' := by
  unfold runF
  rw [if_pos hn, h]; rfl
abbrev L0 : Val := .ins "Level" ["head", "foot", "again", "fresh"] [.int 0, .int 0, .bl false, .bl false]
abbrev Bo (v : Val) : Val := .ins "Box" ["source", "prints", "clears", "early"] [v, .str "", .str "", .bl false]
theorem f_Linit : T.prog.fn "Level.__init__" = some ⟨5, 5, b_Level_init⟩ := rfl
theorem f_Binit : T.prog.fn "Box.__init__" = some ⟨5, 5, b_Box_init⟩ := rfl
theorem Lin (d : Nat) (st : Store) : call T.prog (d + 3) "Level.__init__" [.ref st.length, .int 0, .int 0, .bl false, .bl false] (st ++ [.ins "Level" [] []]) = .ok .non (st ++ [.ins "Level" ["head", "foot", "again", "fresh"] [.int 0, .int 0, .bl false, .bl false]]) := by
  rw [unf f_Linit]
  refine run_next rfl ((Ss_next (st' := st ++ [.ins "Level" [] []]) (env' := [some (.ref st.length), some (.int 0), some (.int 0), some (.bl false), some (.bl false)]) ?_).trans ((Ss_next (st' := st ++ [.ins "Level" [] []]) (env' := [some (.ref st.length), some (.int 0), some (.int 0), some (.bl false), some (.bl false)]) ?_).trans
    ((Ss_next (fld_step rfl rfl rfl rfl rfl)).trans ((Ss_next (fld_step rfl rfl rfl rfl rfl)).trans ((Ss_next (fld_step rfl rfl rfl rfl rfl)).trans ((Ss_next (fld_step rfl rfl rfl rfl rfl)).trans rfl))))))
  · rfl
  · rfl
theorem mkL (d : Nat) (st : Store) : makeM T.prog (call T.prog (d + 3)) .pure "Level" [] [] [] st = .ok L0 st :=
  make_new (tp := [.pos 0, .dfl 0 (.int 0), .dfl 1 (.int 0), .dfl 2 (.bl false), .dfl 3 (.bl false)]) rfl rfl rfl rfl (Lin d st) rfl
def srcOk : List Val := [.non, .int 0, .int 1]
theorem Bin (d : Nat) {v : Val} (hv : v ∈ srcOk) (st : Store) : call T.prog (d + 3) "Box.__init__" [.ref st.length, v, .str "", .str "", .bl false] (st ++ [.ins "Box" [] []]) = .ok .non (st ++ [.ins "Box" ["source", "prints", "clears", "early"] [v, .str "", .str "", .bl false]]) := by
  rw [unf f_Binit]
  refine run_next rfl ((Ss_next (st' := st ++ [.ins "Box" [] []]) (env' := [some (.ref st.length), some v, some (.str ""), some (.str ""), some (.bl false)]) ?_).trans ((Ss_next (st' := st ++ [.ins "Box" [] []]) (env' := [some (.ref st.length), some v, some (.str ""), some (.str ""), some (.bl false)]) ?_).trans
    ((Ss_next (fld_step rfl rfl rfl rfl rfl)).trans ((Ss_next (fld_step rfl rfl rfl rfl rfl)).trans ((Ss_next (fld_step rfl rfl rfl rfl rfl)).trans ((Ss_next (fld_step rfl rfl rfl rfl rfl)).trans rfl))))))
  · simp only [srcOk, List.mem_cons, List.not_mem_nil, or_false] at hv
    rcases hv with rfl | rfl | rfl <;> rfl
  · generalize st ++ [SO.ins "Box" [] []] = S
    kernel_rfl
theorem mkB (d : Nat) (st : Store) : makeM T.prog (call T.prog (d + 3)) .pure "Box" [] [] [] st = .ok (Bo .non) st :=
  make_new (tp := _) rfl rfl rfl rfl (Bin d (by simp [srcOk]) st) rfl
theorem mkB0 (d : Nat) (st : Store) : makeM T.prog (call T.prog (d + 3)) .pure "Box" [] [.int 0] [] st = .ok (Bo (.int 0)) st :=
  make_new (tp := _) rfl rfl rfl rfl (Bin d (by simp [srcOk]) st) rfl
theorem mkB1 (d : Nat) (st : Store) : makeM T.prog (call T.prog (d + 3)) .pure "Box" [] [.int 1] [] st = .ok (Bo (.int 1)) st :=
  make_new (tp := _) rfl rfl rfl rfl (Bin d (by simp [srcOk]) st) rfl
theorem con_get {P : Prog} {Φ : Cal} {f : Str} {a : Val} {c : Str} {ns : List Str} {vs : List Val} {st : Store} {v : Val} (h1 : insOf st a = some (c, ns, vs)) (h2 : P.isc c = true) (h3 : P.prop c f = none) (h4 : fld ns vs f = none) (h5 : P.con c f = some v) : attrM P Φ a f st = .ok v st := by
  unfold attrM
  rw [h1]
  simp only [h2, if_true, h3, h4, h5, R.of_some]
theorem fld_get {P : Prog} {Φ : Cal} {f : Str} {a : Val} {c : Str} {ns : List Str} {vs : List Val} {st : Store} {v : Val} (h1 : insOf st a = some (c, ns, vs)) (h2 : P.isc c = true) (h3 : P.prop c f = none) (h4 : fld ns vs f = some v) (h5 : P.fl c f = true) : attrM P Φ a f st = .ok v st := by
  unfold attrM
  rw [h1]
  simp only [h2, if_true, h3, h4, h5]
theorem con_last (Φ : Cal) (st : Store) (f : Str) (v : Val) (h : T.prog.con "Book" f = some v) (hp : T.prog.prop "Book" f = none) : attrM T.prog Φ (.ref st.length) f (st ++ [.ins "Book" [] []]) = .ok v (st ++ [.ins "Book" [] []]) :=
  con_get (insOf_last st _ _ _) rfl hp rfl h
theorem fld_stepE {Φ : Cal} {env : Mp.Env} {st : Store} {c : Str} {ns : List Str} {vs : List Val} {f : Str} {e : ME} {v : Val} (h0 : env[0]? = some (some (.ref st.length))) (h1 : evalE T.prog Φ e env (st ++ [.ins c ns vs]) = .ok v (st ++ [.ins c ns vs])) (hn : decide (ns.length < 1000) = true) (h2 : T.prog.fl c f = true) (h3 : T.prog.isc c = true) :
    evalS T.prog Φ (.fld (.var 0) f e) env (st ++ [.ins c ns vs]) = .ok (.next env) (st ++ [.ins c (putV ns vs f v).1 (putV ns vs f v).2]) := by
  rw [S_fld, h1]
  show (evalE T.prog Φ (.var 0) env (st ++ [.ins c ns vs])).then_ _ = _
  rw [E_var, h0]
  show (match fldSet T.prog (st ++ [.ins c ns vs]) (.ref st.length) f v with | some st' => R.ok (Fl.next env) st' | none => .stuck) = _
  rw [fldSet_last st c ns vs f v (of_decide_eq_true hn) h2 h3]
abbrev eB {α : Type} (w : Str) (st : Store) : R α := .err "BadBook" ["part", "code"] [.str w, .str "BadBook"] st
structure Pt where
  h : Val
  t : Val
  b : Val
  k : Val
  le : Val
  ho : Val
  bs : Val
  lv : List Val
abbrev E (n : Nat) (p : Pt) : Mp.Env := [some (.ref n), some p.h, some p.t, some p.b, some p.k, some p.le, some p.ho, some p.bs, some (.tup p.lv), none]
abbrev S0 (st : Store) : Store := st ++ [.ins "Book" [] []]
def Wi (v : Val) (lo hi : Int) (r : Bool) : Prop := ∀ (d : Nat) (st : Store), callM T.prog (call T.prog (d + 2)) .raw "is_within" [] [v, .int lo, .int hi] [] st = .ok (.bl r) st
def Ki (v : Val) (r : Bool) : Prop := ∀ (d : Nat) (st : Store), callM T.prog (call T.prog (d + 3)) .raw "are_kinds" [] [v] [] st = .ok (.bl r) st
def Bi (v : Val) (r : Bool) : Prop := ∀ (d : Nat) (st : Store), callM T.prog (call T.prog (d + 3)) .raw "are_boxes" [] [v, .int 3] [] st = .ok (.bl r) st
def Li (lv : List Val) (r : Bool) : Prop := ∃ (n : Int) (g1 g2 g3 : Bool) (bs : List Val), (∀ st, bV st "len" [.tup lv] = some (.int n)) ∧ (∀ st, cmpV st .le (.int 1) (.int n) = some g1) ∧ (∀ st, cmpV st .le (.int n) (.int 4) = some g2) ∧
  (∀ Φ n p st, compE T.prog Φ false (.v 9) (.isin (.var 9) ["Level"]) [] (E n p) (lv, []) st = .ok (.lst bs) st) ∧ (∀ st, bV st "all" [.lst bs] = some (.bl g3)) ∧ r = (g1 && g2 && g3)
abbrev rB (r : Bool) (w : Str) (env : Mp.Env) (st : Store) : R Fl := match r with
  | true => .ok (.next env) st
  | false => eB w st
theorem ite_r {Φ : Cal} {c : ME} {w : Str} {env : Mp.Env} {st : Store} {r : Bool} (h : evalT T.prog Φ c env st = .ok (!r) st) : evalS T.prog Φ (.ite c [.raise_ "BadBook" [(.str w)]] []) env st = rB r w env st := by
  rw [S_ite, h]
  cases r <;> rfl
end L_k07
end
section
set_option Elab.async false
set_option linter.all false
set_option maxRecDepth 100000
set_option maxHeartbeats
                         1000000
namespace L_k07
open PySem Mp
def fw : List Bool → List Str → Option Str
  | r :: rs, w :: ws => if r then fw rs ws else some w
  | _, _ => none
abbrev Ws : List Str := ["levels", "height", "top", "bottom", "kinds", "lead", "hold", "boxes"]
theorem seq_r {Φ : Cal} {env : Mp.Env} {st : Store} {ss : List MS} : ∀ {l : List MS} {rs : List Bool} {ws : List Str}, l.length = rs.length → l.length = ws.length → (∀ (i : Nat) (m : MS) (r : Bool) (w : Str), l[i]? = some m → rs[i]? = some r → ws[i]? = some w → evalS T.prog Φ m env st = rB r w env st) →
    evalSs T.prog Φ (l ++ ss) env st = (match fw rs ws with | some w => eB w st | none => evalSs T.prog Φ ss env st)
  | [], [], [], _, _, _ => rfl
  | m :: l, r :: rs, w :: ws, h1, h2, h => by
    have e := h 0 m r w rfl rfl rfl
    have ih := seq_r (ss := ss) (l := l) (rs := rs) (ws := ws) (by simpa using h1) (by simpa using h2) (fun i m r w a b c => h (i + 1) m r w a b c)
    cases r with
    | false =>
      show evalSs T.prog Φ (m :: (l ++ ss)) env st = eB w st
      exact Ss_err e
    | true =>
      show evalSs T.prog Φ (m :: (l ++ ss)) env st = _
      rw [Ss_next e, ih]
      rfl
section
variable (d : Nat) (st : Store) (p : Pt)
theorem ck0 {r : Bool} (h : Li p.lv r) : evalS T.prog (call T.prog (d + 3)) b_Book_init_0 (E st.length p) (S0 st) = rB r "levels" (E st.length p) (S0 st) := by
  obtain ⟨n, g1, g2, g3, bs, el, m1, m2, hc, va, rfl⟩ := h
  unfold b_Book_init_0
  refine ite_r ?_
  have a1 : attrM T.prog (call T.prog (d + 3)) (.ref st.length) "LEVELS" (S0 st) = .ok (.int 4) (S0 st) := con_last _ st _ _ rfl rfl
  have hs : srcE T.prog (call T.prog (d + 3)) .seq [(.var 8)] (E st.length p) (S0 st) = .ok (p.lv, []) (S0 st) := rfl
  have hc' := hc (call T.prog (d + 3)) st.length p (S0 st)
  generalize S0 st = S at *
  cases g1 <;> cases g2 <;> cases g3 <;> simp only [E_var, E_non, E_bl, E_int, E_str, E_glob, E_bin, E_neg, E_cmp, E_chain, E_and, E_or, E_not, E_ite, E_tup, E_lstF, E_lstT, E_ix, E_slc, E_attr, E_call, E_make, E_meth, E_methk, E_bcall, E_bmeth, E_isin, Es_nil, Es_cons, and_one, and_two, or_one, or_two, T_and, T_or, T_not, T_cmp, T_chain, T_var, T_bl, T_attr, T_call, T_bcall, T_ix, T_isin, andT_one, andT_two, orT_one, orT_two, test_nil, test_one, S_expr, S_set, S_sett, S_setc, S_par, S_fld, S_sub, S_ret, S_retN, S_ite, S_for, S_pass, Ss_nil, Ss_cons, R.then_ok, R.of_some, List.getElem?_cons_zero, List.getElem?_cons_succ, Option.map_some, asB, E_dget, T_dget, S_dput, List.map_cons, List.map_nil, a1, el, m1, m2, E_comp, hs, hc', va] <;> rfl
theorem wi_t {v : Val} {lo hi : Int} {r : Bool} {e1 e2 e3 : ME} {env : Mp.Env} {S : Store} (h1 : evalE T.prog (call T.prog (d + 2)) e1 env S = .ok v S) (h2 : evalE T.prog (call T.prog (d + 2)) e2 env S = .ok (.int lo) S) (h3 : evalE T.prog (call T.prog (d + 2)) e3 env S = .ok (.int hi) S) (h : Wi v lo hi r) :
    evalT T.prog (call T.prog (d + 2)) (.not (.call .raw "is_within" [e1, e2, e3] [] [])) env S = .ok (!r) S := by
  have hw := h d S
  cases r <;> simp only [E_var, E_non, E_bl, E_int, E_str, E_glob, E_bin, E_neg, E_cmp, E_chain, E_and, E_or, E_not, E_ite, E_tup, E_lstF, E_lstT, E_ix, E_slc, E_attr, E_call, E_make, E_meth, E_methk, E_bcall, E_bmeth, E_isin, Es_nil, Es_cons, and_one, and_two, or_one, or_two, T_and, T_or, T_not, T_cmp, T_chain, T_var, T_bl, T_attr, T_call, T_bcall, T_ix, T_isin, andT_one, andT_two, orT_one, orT_two, test_nil, test_one, S_expr, S_set, S_sett, S_setc, S_par, S_fld, S_sub, S_ret, S_retN, S_ite, S_for, S_pass, Ss_nil, Ss_cons, R.then_ok, R.of_some, List.getElem?_cons_zero, List.getElem?_cons_succ, Option.map_some, asB, E_dget, T_dget, S_dput, List.map_cons, List.map_nil, h1, h2, h3, hw] <;> rfl
theorem ck4 {r : Bool} (h : Ki p.k r) : evalS T.prog (call T.prog (d + 3)) b_Book_init_4 (E st.length p) (S0 st) = rB r "kinds" (E st.length p) (S0 st) := by
  unfold b_Book_init_4
  refine ite_r ?_
  have hw := h d (S0 st)
  cases r <;> simp only [E_var, E_non, E_bl, E_int, E_str, E_glob, E_bin, E_neg, E_cmp, E_chain, E_and, E_or, E_not, E_ite, E_tup, E_lstF, E_lstT, E_ix, E_slc, E_attr, E_call, E_make, E_meth, E_methk, E_bcall, E_bmeth, E_isin, Es_nil, Es_cons, and_one, and_two, or_one, or_two, T_and, T_or, T_not, T_cmp, T_chain, T_var, T_bl, T_attr, T_call, T_bcall, T_ix, T_isin, andT_one, andT_two, orT_one, orT_two, test_nil, test_one, S_expr, S_set, S_sett, S_setc, S_par, S_fld, S_sub, S_ret, S_retN, S_ite, S_for, S_pass, Ss_nil, Ss_cons, R.then_ok, R.of_some, List.getElem?_cons_zero, List.getElem?_cons_succ, Option.map_some, asB, E_dget, T_dget, S_dput, List.map_cons, List.map_nil, hw] <;> rfl
theorem ck7 {r : Bool} (h : Bi p.bs r) : evalS T.prog (call T.prog (d + 3)) b_Book_init_7 (E st.length p) (S0 st) = rB r "boxes" (E st.length p) (S0 st) := by
  unfold b_Book_init_7
  refine ite_r ?_
  have a1 : attrM T.prog (call T.prog (d + 3)) (.ref st.length) "BOXES" (S0 st) = .ok (.int 3) (S0 st) := con_last _ st _ _ rfl rfl
  have hw := h d (S0 st)
  cases r <;> simp only [E_var, E_non, E_bl, E_int, E_str, E_glob, E_bin, E_neg, E_cmp, E_chain, E_and, E_or, E_not, E_ite, E_tup, E_lstF, E_lstT, E_ix, E_slc, E_attr, E_call, E_make, E_meth, E_methk, E_bcall, E_bmeth, E_isin, Es_nil, Es_cons, and_one, and_two, or_one, or_two, T_and, T_or, T_not, T_cmp, T_chain, T_var, T_bl, T_attr, T_call, T_bcall, T_ix, T_isin, andT_one, andT_two, orT_one, orT_two, test_nil, test_one, S_expr, S_set, S_sett, S_setc, S_par, S_fld, S_sub, S_ret, S_retN, S_ite, S_for, S_pass, Ss_nil, Ss_cons, R.then_ok, R.of_some, List.getElem?_cons_zero, List.getElem?_cons_succ, Option.map_some, asB, E_dget, T_dget, S_dput, List.map_cons, List.map_nil, a1, hw] <;> rfl
theorem init_run {r0 r1 r2 r3 r4 r5 r6 r7 : Bool} (h0 : Li p.lv r0) (h1 : Wi p.h 1 40 r1) (h2 : Wi p.t 0 2 r2) (h3 : Wi p.b 0 2 r3) (h4 : Ki p.k r4) (h5 : Wi p.le 0 2 r5) (h6 : Wi p.ho 0 2 r6) (h7 : Bi p.bs r7) (ss : List MS) :
    evalSs T.prog (call T.prog (d + 3)) ([b_Book_init_0, b_Book_init_1, b_Book_init_2, b_Book_init_3, b_Book_init_4, b_Book_init_5, b_Book_init_6, b_Book_init_7] ++ ss) (E st.length p) (S0 st) = (match fw [r0, r1, r2, r3, r4, r5, r6, r7] Ws with | some w => eB w (S0 st) | none => evalSs T.prog (call T.prog (d + 3)) ss (E st.length p) (S0 st)) := by
  have a1 : attrM T.prog (call T.prog (d + 3)) (.ref st.length) "HEIGHT" (S0 st) = .ok (.int 40) (S0 st) := con_last _ st _ _ rfl rfl
  refine seq_r rfl rfl fun i m r w e1 e2 e3 => ?_
  match i, e1, e2, e3 with
  | 0, e1, e2, e3 => cases e1; cases e2; cases e3; exact ck0 d st p h0
  | 1, e1, e2, e3 => cases e1; cases e2; cases e3; exact ite_r (wi_t (d + 1) rfl rfl (by rw [E_attr]; exact a1) h1)
  | 2, e1, e2, e3 => cases e1; cases e2; cases e3; exact ite_r (wi_t (d + 1) rfl rfl rfl h2)
  | 3, e1, e2, e3 => cases e1; cases e2; cases e3; exact ite_r (wi_t (d + 1) rfl rfl rfl h3)
  | 4, e1, e2, e3 => cases e1; cases e2; cases e3; exact ck4 d st p h4
  | 5, e1, e2, e3 => cases e1; cases e2; cases e3; exact ite_r (wi_t (d + 1) rfl rfl rfl h5)
  | 6, e1, e2, e3 => cases e1; cases e2; cases e3; exact ite_r (wi_t (d + 1) rfl rfl rfl h6)
  | 7, e1, e2, e3 => cases e1; cases e2; cases e3; exact ck7 d st p h7
  | n + 8, e1, _, _ => simp at e1
theorem f_Kinit : T.prog.fn "Book.__init__" = some ⟨9, 10, b_Book_init⟩ := rfl
abbrev pArgs (n : Nat) (p : Pt) : List Val := [.ref n, p.h, p.t, p.b, p.k, p.le, p.ho, p.bs, .tup p.lv]
theorem init_bad {r0 r1 r2 r3 r4 r5 r6 r7 : Bool} (h0 : Li p.lv r0) (h1 : Wi p.h 1 40 r1) (h2 : Wi p.t 0 2 r2) (h3 : Wi p.b 0 2 r3) (h4 : Ki p.k r4) (h5 : Wi p.le 0 2 r5) (h6 : Wi p.ho 0 2 r6) (h7 : Bi p.bs r7) {w : Str} (hw : fw [r0, r1, r2, r3, r4, r5, r6, r7] Ws = some w) :
    call T.prog (d + 4) "Book.__init__" (pArgs st.length p) (S0 st) = eB w (S0 st) := by
  rw [unf f_Kinit]
  refine run_err rfl ?_
  refine (init_run d st p h0 h1 h2 h3 h4 h5 h6 h7 [b_Book_init_8, b_Book_init_9, b_Book_init_10, b_Book_init_11, b_Book_init_12, b_Book_init_13, b_Book_init_14, b_Book_init_15, b_Book_init_16]).trans ?_
  rw [hw]
abbrev bkN : List Str := ["height", "top", "bottom", "lead", "hold", "own_levels", "own_kinds", "own_boxes"]
abbrev bkV (h t b : Int) (le ho : Val) (lv ks bl : List Val) : List Val := [.int h, .int t, .int b, le, ho, .lst lv, .lst ks, .lst bl]
theorem f_blow : T.prog.fn "Book.lowest" = some ⟨1, 2, b_Book_lowest⟩ := rfl
theorem blowest (h t b : Int) (le ho : Val) {lv : List Val} (ks bl : List Val) (hlv : lv = [L0] ∨ lv = [L0, L0]) : call T.prog (d + 1) "Book.lowest" [.ref st.length] (st ++ [.ins "Book" bkN (bkV h t b le ho lv ks bl)]) = .ok (.int (t + b + 2 + 0)) (st ++ [.ins "Book" bkN (bkV h t b le ho lv ks bl)]) := by
  rw [unf f_blow]
  refine run_ret rfl (Ss_ret ?_)
  generalize hS : st ++ [SO.ins "Book" bkN (bkV h t b le ho lv ks bl)] = S
  have hi : insOf S (.ref st.length) = some (("Book" : Str), bkN, bkV h t b le ho lv ks bl) := by rw [← hS]; exact insOf_last st _ _ _
  have a1 : attrM T.prog (call T.prog d) (.ref st.length) "top" S = .ok (.int t) S := fld_get hi rfl rfl rfl rfl
  have a2 : attrM T.prog (call T.prog d) (.ref st.length) "bottom" S = .ok (.int b) S := fld_get hi rfl rfl rfl rfl
  have a3 : attrM T.prog (call T.prog d) (.ref st.length) "own_levels" S = .ok (.lst lv) S := fld_get hi rfl rfl rfl rfl
  have eg : T.prog.glob "MOST_LINES" = some (.int 2) := rfl
  have hsrc : srcE T.prog (call T.prog d) .seq [(.attr (.var 0) "own_levels")] [some (.ref st.length), none] S = .ok (lv, []) S := by
    unfold srcE
    simp only [E_var, E_non, E_bl, E_int, E_str, E_glob, E_bin, E_neg, E_cmp, E_chain, E_and, E_or, E_not, E_ite, E_tup, E_lstF, E_lstT, E_ix, E_slc, E_attr, E_call, E_make, E_meth, E_methk, E_bcall, E_bmeth, E_isin, Es_nil, Es_cons, and_one, and_two, or_one, or_two, T_and, T_or, T_not, T_cmp, T_chain, T_var, T_bl, T_attr, T_call, T_bcall, T_ix, T_isin, andT_one, andT_two, orT_one, orT_two, test_nil, test_one, S_expr, S_set, S_sett, S_setc, S_par, S_fld, S_sub, S_ret, S_retN, S_ite, S_for, S_pass, Ss_nil, Ss_cons, R.then_ok, R.of_some, List.getElem?_cons_zero, List.getElem?_cons_succ, Option.map_some, asB, E_dget, T_dget, S_dput, List.map_cons, List.map_nil, a3]
    rfl
  have hc : compE T.prog (call T.prog d) false (.v 1) (.attr (.var 1) "head") [(.attr (.var 1) "again")] [some (.ref st.length), none] (lv, []) S = .ok (.lst []) S := by
    rcases hlv with rfl | rfl <;> rfl
  have vs : ∀ st, bV st "sum" [.lst []] = some (.int 0) := fun _ => rfl
  show evalS T.prog (call T.prog d) b_Book_lowest_0 [some (.ref st.length), none] S = _
  unfold b_Book_lowest_0
  simp only [E_var, E_non, E_bl, E_int, E_str, E_glob, E_bin, E_neg, E_cmp, E_chain, E_and, E_or, E_not, E_ite, E_tup, E_lstF, E_lstT, E_ix, E_slc, E_attr, E_call, E_make, E_meth, E_methk, E_bcall, E_bmeth, E_isin, Es_nil, Es_cons, and_one, and_two, or_one, or_two, T_and, T_or, T_not, T_cmp, T_chain, T_var, T_bl, T_attr, T_call, T_bcall, T_ix, T_isin, andT_one, andT_two, orT_one, orT_two, test_nil, test_one, S_expr, S_set, S_sett, S_setc, S_par, S_fld, S_sub, S_ret, S_retN, S_ite, S_for, S_pass, Ss_nil, Ss_cons, R.then_ok, R.of_some, List.getElem?_cons_zero, List.getElem?_cons_succ, Option.map_some, asB, E_dget, T_dget, S_dput, List.map_cons, List.map_nil, b_add, a1, a2, E_comp, hsrc, hc, vs, eg]
theorem init_good (hh tt bb : Int) (k le ho bs : Val) (lv ks bl : List Val) (h0 : Li lv true) (h1 : Wi (.int hh) 1 40 true) (h2 : Wi (.int tt) 0 2 true) (h3 : Wi (.int bb) 0 2 true) (h4 : Ki k true) (h5 : Wi le 0 2 true) (h6 : Wi ho 0 2 true) (h7 : Bi bs true)
    (hlv : lv = [L0] ∨ lv = [L0, L0]) (hk : ∀ st, bV st "list" [k] = some (.lst ks)) (hb : ∀ st, bV st "list" [bs] = some (.lst bl)) (hl : tt + bb + 2 + 0 ≤ hh) :
    call T.prog (d + 4) "Book.__init__" (pArgs st.length ⟨.int hh, .int tt, .int bb, k, le, ho, bs, lv⟩) (S0 st) = .ok .non (st ++ [.ins "Book" bkN (bkV hh tt bb le ho lv ks bl)]) := by
  rw [unf f_Kinit]
  have hv : ∀ st, bV st "list" [.tup lv] = some (.lst lv) := by rcases hlv with rfl | rfl <;> exact fun _ => rfl
  have q16 : evalS T.prog (call T.prog (d + 3)) b_Book_init_16 (E st.length ⟨.int hh, .int tt, .int bb, k, le, ho, bs, lv⟩) (st ++ [.ins "Book" bkN (bkV hh tt bb le ho lv ks bl)]) = .ok (.next (E st.length ⟨.int hh, .int tt, .int bb, k, le, ho, bs, lv⟩)) (st ++ [.ins "Book" bkN (bkV hh tt bb le ho lv ks bl)]) := by
    have al : attrM T.prog (call T.prog (d + 3)) (.ref st.length) "lowest" (st ++ [.ins "Book" bkN (bkV hh tt bb le ho lv ks bl)]) = .ok (.int (tt + bb + 2 + 0)) (st ++ [.ins "Book" bkN (bkV hh tt bb le ho lv ks bl)]) := prop_get (insOf_last st _ _ _) rfl rfl (blowest (d + 2) st hh tt bb le ho ks bl hlv) rfl
    have hd : decide (hh < tt + bb + 2 + 0) = false := decide_eq_false (by omega)
    have hc : ∀ st, cmpV st .lt (.int hh) (.int (tt + bb + 2 + 0)) = some false := fun st => by rw [c_lt, hd]
    unfold b_Book_init_16
    rw [S_ite]
    have tf : evalT T.prog (call T.prog (d + 3)) (.cmp .lt (.var 1) (.attr (.var 0) "lowest")) (E st.length ⟨.int hh, .int tt, .int bb, k, le, ho, bs, lv⟩) (st ++ [.ins "Book" bkN (bkV hh tt bb le ho lv ks bl)]) = .ok false (st ++ [.ins "Book" bkN (bkV hh tt bb le ho lv ks bl)]) := by
      simp only [E_var, E_non, E_bl, E_int, E_str, E_glob, E_bin, E_neg, E_cmp, E_chain, E_and, E_or, E_not, E_ite, E_tup, E_lstF, E_lstT, E_ix, E_slc, E_attr, E_call, E_make, E_meth, E_methk, E_bcall, E_bmeth, E_isin, Es_nil, Es_cons, and_one, and_two, or_one, or_two, T_and, T_or, T_not, T_cmp, T_chain, T_var, T_bl, T_attr, T_call, T_bcall, T_ix, T_isin, andT_one, andT_two, orT_one, orT_two, test_nil, test_one, S_expr, S_set, S_sett, S_setc, S_par, S_fld, S_sub, S_ret, S_retN, S_ite, S_for, S_pass, Ss_nil, Ss_cons, R.then_ok, R.of_some, List.getElem?_cons_zero, List.getElem?_cons_succ, Option.map_some, asB, E_dget, T_dget, S_dput, al, hc]
    rw [tf]; rfl
  refine run_next (env := E st.length ⟨.int hh, .int tt, .int bb, k, le, ho, bs, lv⟩) rfl ?_
  refine (init_run d st ⟨.int hh, .int tt, .int bb, k, le, ho, bs, lv⟩ h0 h1 h2 h3 h4 h5 h6 h7 [b_Book_init_8, b_Book_init_9, b_Book_init_10, b_Book_init_11, b_Book_init_12, b_Book_init_13, b_Book_init_14, b_Book_init_15, b_Book_init_16]).trans ?_
  show evalSs T.prog (call T.prog (d + 3)) [b_Book_init_8, b_Book_init_9, b_Book_init_10, b_Book_init_11, b_Book_init_12, b_Book_init_13, b_Book_init_14, b_Book_init_15, b_Book_init_16] _ (S0 st) = _
  refine (Ss_next (fld_step rfl rfl rfl rfl rfl)).trans ((Ss_next (fld_step rfl rfl rfl rfl rfl)).trans ((Ss_next (fld_step rfl rfl rfl rfl rfl)).trans ((Ss_next (fld_step rfl rfl rfl rfl rfl)).trans ((Ss_next (fld_step rfl rfl rfl rfl rfl)).trans ?_))))
  have ev : ∀ (i : Nat) (v w : Val) (S : Store), (E st.length ⟨.int hh, .int tt, .int bb, k, le, ho, bs, lv⟩)[i]? = some (some v) → bV S "list" [v] = some w → evalE T.prog (call T.prog (d + 3)) (.bcall "list" [(.var i)]) (E st.length ⟨.int hh, .int tt, .int bb, k, le, ho, bs, lv⟩) S = .ok w S := fun i v w S h1 h2 => by
    rw [E_bcall, Es_cons, E_var, h1]
    show (R.of (bV S "list" [v]) S) = _
    rw [h2]; rfl
  exact (Ss_next (fld_stepE (v := .lst lv) rfl (ev 8 _ _ _ rfl (hv _)) rfl rfl rfl)).trans ((Ss_next (fld_stepE (v := .lst ks) rfl (ev 4 _ _ _ rfl (hk _)) rfl rfl rfl)).trans ((Ss_next (fld_stepE (v := .lst bl) rfl (ev 7 _ _ _ rfl (hb _)) rfl rfl rfl)).trans ((Ss_next q16).trans rfl)))
end
end L_k07
end
section
set_option Elab.async false
set_option linter.all false
set_option maxRecDepth 100000
set_option maxHeartbeats
                         1000000
namespace L_k07
open PySem Mp
variable {XS : List SO}
abbrev P5 : Val := .ins "Book" bkN (bkV 5 0 0 (.int 0) (.int 0) [L0] [.int 1] [])
def oddL : List Val := [.non, .int 3, .str "0 0", Bo .non, .tup [.int 0, .int 0], .lst [], P5]
def oddH : List Val := [.int 0, .int 41, .int (-5), .non, .bl true, .str "9", .lst [.int 9], .int 100000000000000000000]
def oddN : List Val := [.int 3, .int (-1), .non, .bl true, .str "1", .lst [.int 1], .int 1000000000]
def oddK : List Val := [.lst [], .lst [.int 1, .int 1, .int 1], .lst [.int 3], .lst [.int 0], .int 1, .non, .lst [.bl true], .str "1", .lst [.int 1, .non]]
def oddB : List Val := [.lst [Bo .non, Bo .non, Bo .non, Bo .non], .lst [Bo .non, .int 5], .str "", .non, .lst [Bo (.int 0)], .lst [Bo .non, Bo (.int 1)], .int 0, .lst [L0], .lst [P5]]
theorem li_one : Li [L0] true := ⟨1, true, true, true, [.bl true], fun _ => rfl, fun _ => rfl, fun _ => rfl, fun _ _ _ _ => rfl, fun _ => rfl, rfl⟩
theorem li_good : Li [L0, L0] true := ⟨2, true, true, true, [.bl true, .bl true], fun _ => rfl, fun _ => rfl, fun _ => rfl, fun _ _ _ _ => rfl, fun _ => rfl, rfl⟩
theorem li_odd {v : Val} (h : v ∈ oddL) : Li [L0, v] false := by
  simp only [oddL, List.mem_cons, List.not_mem_nil, or_false] at h
  rcases h with rfl | rfl | rfl | rfl | rfl | rfl | rfl <;> exact ⟨2, true, true, false, [.bl true, .bl false], fun _ => rfl, fun _ => rfl, fun _ => rfl, fun _ _ _ _ => rfl, fun _ => rfl, rfl⟩
theorem li_nil : Li [] false := ⟨0, false, true, true, [], fun _ => rfl, fun _ => rfl, fun _ => rfl, fun _ _ _ _ => rfl, fun _ => rfl, rfl⟩
theorem li_five : Li [L0, L0, L0, L0, L0] false := ⟨5, true, false, true, [.bl true, .bl true, .bl true, .bl true, .bl true], fun _ => rfl, fun _ => rfl, fun _ => rfl, fun _ _ _ _ => rfl, fun _ => rfl, rfl⟩
theorem li_box : Li [Bo .non] false := ⟨1, true, true, false, [.bl false], fun _ => rfl, fun _ => rfl, fun _ => rfl, fun _ _ _ _ => rfl, fun _ => rfl, rfl⟩
theorem wi_int (i lo hi : Int) {r : Bool} (h : (decide (lo ≤ i) && decide (i ≤ hi)) = r) : Wi (.int i) lo hi r := fun d st => by rw [c_within, h]
theorem wi_H {v : Val} (h : v ∈ oddH) : Wi v 1 40 false := by
  simp only [oddH, List.mem_cons, List.not_mem_nil, or_false] at h
  rcases h with rfl | rfl | rfl | rfl | rfl | rfl | rfl | rfl <;> first | exact wi_int _ _ _ (by decide) | exact fun _ _ => rfl
theorem wi_N {v : Val} (h : v ∈ oddN) : Wi v 0 2 false := by
  simp only [oddN, List.mem_cons, List.not_mem_nil, or_false] at h
  rcases h with rfl | rfl | rfl | rfl | rfl | rfl | rfl <;> first | exact wi_int _ _ _ (by decide) | exact fun _ _ => rfl
theorem ki_odd {v : Val} (h : v ∈ oddK) : Ki v false := fun d st => by
  refine call_raw (tp := [.pos 0]) rfl rfl ?_
  simp only [oddK, List.mem_cons, List.not_mem_nil, or_false] at h
  rcases h with rfl | rfl | rfl | rfl | rfl | rfl | rfl | rfl | rfl <;> kernel_rfl
theorem ki_12 : Ki (.lst [.int 1, .int 2]) true := fun d st => by
  refine call_raw (tp := [.pos 0]) rfl rfl ?_
  kernel_rfl
theorem ki_1 : Ki (.tup [.int 1]) true := fun d st => by
  refine call_raw (tp := [.pos 0]) rfl rfl ?_
  kernel_rfl
theorem bi_odd {v : Val} (h : v ∈ oddB) : Bi v false := fun d st => by
  refine call_raw (tp := [.pos 0, .pos 1]) rfl rfl ?_
  simp only [oddB, List.mem_cons, List.not_mem_nil, or_false] at h
  rcases h with rfl | rfl | rfl | rfl | rfl | rfl | rfl | rfl | rfl <;> kernel_rfl
theorem bi_good : Bi (.lst [Bo .non, Bo (.int 0)]) true := fun d st => by
  refine call_raw (tp := [.pos 0, .pos 1]) rfl rfl ?_
  kernel_rfl
theorem bi_none : Bi (.tup []) true := fun d st => by
  refine call_raw (tp := [.pos 0, .pos 1]) rfl rfl ?_
  kernel_rfl
theorem f_plain : T.prog.fn "Book.plain" = some ⟨2, 2, b_Book_plain⟩ := rfl
theorem plain_ok (d : Nat) (st : Store) : callM T.prog (call T.prog (d + 5)) .raw "Book.plain" [] [.int 5] [] st = .ok P5 st := by
  refine call_raw (tp := [.pos 0, .dfl 0 (.tup [])]) rfl rfl ?_
  rw [unf f_plain]
  have ml := mkL (d + 1) st
  have mb : makeM T.prog (call T.prog (d + 4)) .pure "Book" ["boxes"] [.int 5, L0] [.tup []] st = .ok P5 st :=
    make_new (tp := _) rfl rfl rfl rfl (init_good d st 5 0 0 (.tup [.int 1]) (.int 0) (.int 0) (.tup []) [L0] [.int 1] [] li_one (wi_int _ _ _ (by decide)) (wi_int _ _ _ (by decide)) (wi_int _ _ _ (by decide)) ki_1 (wi_int _ _ _ (by decide)) (wi_int _ _ _ (by decide)) bi_none (.inl rfl) (fun _ => rfl) (fun _ => rfl) (by decide)) rfl
  refine run_ret rfl (Ss_ret ?_)
  show evalS T.prog (call T.prog (d + 4)) b_Book_plain_0 [some (.int 5), some (.tup [])] st = _
  unfold b_Book_plain_0
  simp only [E_var, E_non, E_bl, E_int, E_str, E_glob, E_bin, E_neg, E_cmp, E_chain, E_and, E_or, E_not, E_ite, E_tup, E_lstF, E_lstT, E_ix, E_slc, E_attr, E_call, E_make, E_meth, E_methk, E_bcall, E_bmeth, E_isin, Es_nil, Es_cons, and_one, and_two, or_one, or_two, T_and, T_or, T_not, T_cmp, T_chain, T_var, T_bl, T_attr, T_call, T_bcall, T_ix, T_isin, andT_one, andT_two, orT_one, orT_two, test_nil, test_one, S_expr, S_set, S_sett, S_setc, S_par, S_fld, S_sub, S_ret, S_retN, S_ite, S_for, S_pass, Ss_nil, Ss_cons, R.then_ok, R.of_some, List.getElem?_cons_zero, List.getElem?_cons_succ, Option.map_some, asB, E_dget, T_dget, S_dput, List.map_cons, List.map_nil, ml, mb]
theorem f_part : T.prog.fn "_law_part" = some ⟨4, 5, b__law_part⟩ := rfl
theorem part_ok (d : Nat) (bad : Bool) (odd : List Val) (good : Val) (hx : 0 < odd.length) (hl : odd.length < 1073741824) {st : Store} (hb : Bag XS st) : ∃ v st', callM T.prog (call T.prog (d + 3)) .raw "_law_part" [] [.ref 0, .bl bad, .lst odd, good] [] st = .ok v st' ∧ (bad = true → v ∈ odd) ∧ (bad = false → v = good) ∧ Bag XS st' := by
  obtain ⟨v, st', e, hv, hb'⟩ := pick_ok d odd hx hl hb
  refine ⟨if bad then v else good, st', call_raw (tp := [.pos 0, .pos 1, .pos 2, .pos 3]) rfl rfl ?_, fun h => by rw [h]; exact hv, fun h => by rw [h]; rfl, hb'⟩
  rw [unf f_part]
  have q0 : evalS T.prog (call T.prog (d + 2)) b__law_part_0 [some (.ref 0), some (.bl bad), some (.lst odd), some good, none] st = .ok (.next [some (.ref 0), some (.bl bad), some (.lst odd), some good, some v]) st' := by
    unfold b__law_part_0
    rw [S_set]
    show (callM T.prog (call T.prog (d + 2)) .raw "_law_pick" [] [.ref 0, .lst odd] [] st).then_ _ = _
    rw [e]; rfl
  refine run_ret rfl ((Ss_next q0).trans (Ss_ret ?_))
  unfold b__law_part_1
  cases bad <;> rfl
theorem bads_ok (d : Nat) (env : Mp.Env) (h1 : env[1]? = some (some (.ref 0))) (hn : env.length = 21) (ws : List Val) (hw : ws.length ≤ 100) {st : Store} (hb : Bag XS st) : ∃ (bs : List Bool) (st' : Store), compE T.prog (call T.prog (d + 1)) false (.v 7) (.cmp .eq (.call .raw "_law_take" [(.var 1), (.int 4)] [] []) (.int 0)) [] env (ws, []) st = .ok (.lst (bs.map Val.bl)) st' ∧ bs.length = ws.length ∧ Bag XS st' := by
  have turn : ∀ x ∈ ws, ∀ st, Bag XS st → ∃ y st', turnF T.prog (call T.prog (d + 1)) (.v 7) (.cmp .eq (.call .raw "_law_take" [(.var 1), (.int 4)] [] []) (.int 0)) [] env x st = .ok (some y) st' ∧ (∃ b, y = .bl b) ∧ Bag XS st' := by
    intro x _ st hb
    obtain ⟨r, st', e, r0, r1, hb'⟩ := c_take d 4 (by decide) (by decide) hb
    refine ⟨.bl (r == 0), st', ?_, ⟨_, rfl⟩, hb'⟩
    have hb7 : bindT (.v 7) x (wipeE env [7]) = some ((env.set 7 none).set 7 (some x)) := by
      show (if 7 < (env.set 7 none).length then some ((env.set 7 none).set 7 (some x)) else none) = _
      rw [List.length_set, hn, if_pos (by decide)]
    have g1 : ((env.set 7 none).set 7 (some x))[1]? = some (some (.ref 0)) := by
      rw [List.getElem?_set_ne (by decide), List.getElem?_set_ne (by decide)]; exact h1
    unfold turnF
    show (match bindT (.v 7) x (wipeE env [7]) with | none => R.stuck | some env => _) = _
    rw [hb7]
    simp only [E_var, E_non, E_bl, E_int, E_str, E_glob, E_bin, E_neg, E_cmp, E_chain, E_and, E_or, E_not, E_ite, E_tup, E_lstF, E_lstT, E_ix, E_slc, E_attr, E_call, E_make, E_meth, E_methk, E_bcall, E_bmeth, E_isin, Es_nil, Es_cons, and_one, and_two, or_one, or_two, T_and, T_or, T_not, T_cmp, T_chain, T_var, T_bl, T_attr, T_call, T_bcall, T_ix, T_isin, andT_one, andT_two, orT_one, orT_two, test_nil, test_one, S_expr, S_set, S_sett, S_setc, S_par, S_fld, S_sub, S_ret, S_retN, S_ite, S_for, S_pass, Ss_nil, Ss_cons, R.then_ok, R.of_some, List.getElem?_cons_zero, List.getElem?_cons_succ, Option.map_some, asB, E_dget, T_dget, S_dput, List.map_cons, List.map_nil, g1, e, c_eq]
  obtain ⟨ys, st2, e2, ha, hb2⟩ := comp_all turn [] st hb
  rw [List.nil_append] at e2
  obtain ⟨bs, rfl⟩ : ∃ bs : List Bool, ys = bs.map Val.bl := by
    have : ∀ y ∈ ys, ∃ b, y = Val.bl b := fun y hy => (ha.right y hy).elim fun _ h => h.2
    clear ha e2
    induction ys with
    | nil => exact ⟨[], rfl⟩
    | cons y r ih =>
      obtain ⟨b, rfl⟩ := this y (by simp)
      obtain ⟨bs, rfl⟩ := ih fun z hz => this z (List.mem_cons_of_mem _ hz)
      exact ⟨b :: bs, rfl⟩
  refine ⟨bs, st2, comp_ok (by show _ ≤ (2 ^ 24 : Nat); omega) e2, ?_, hb2⟩
  have := ha.len
  rw [List.length_map] at this
  exact this.symm
end L_k07
end
section
set_option Elab.async false
set_option linter.all false
set_option maxRecDepth 100000
set_option maxHeartbeats
                         1000000
namespace L_k07
open PySem Mp
variable {XS : List SO}
theorem E_scall {P : Prog} {Φ : Cal} (m : Mode) (f c a : Str) (es : List ME) (kn : List Str) (ks : List ME) (env : Mp.Env) (st : Store) : evalE P Φ (.scall m f c a es kn ks) env st = (evalEs P Φ es env st).then_ fun vs st => (evalEs P Φ ks env st).then_ fun zs st => callM P Φ m f kn vs zs st := rfl
abbrev lE (ns : List Int) (w one odd turn bad pt lv h t b k le ho bs fnd due kk five asks : Option Val) : Mp.Env := [some (.scr ns), some (.ref 0), w, one, odd, turn, bad, pt, lv, h, t, b, k, le, ho, bs, fnd, due, kk, five, asks]
abbrev wV : Val := .lst (Ws.map Val.str)
abbrev tE (ns : List Int) (turn bad pt lv h t b k le ho bs fnd due kk five asks : Option Val) : Mp.Env := lE ns (some wV) (some (Bo .non)) (some (.lst oddN)) turn bad pt lv h t b k le ho bs fnd due kk five asks
abbrev bV8 (b0 b1 b2 b3 b4 b5 b6 b7 : Bool) : Val := .lst [.bl b0, .bl b1, .bl b2, .bl b3, .bl b4, .bl b5, .bl b6, .bl b7]
theorem pcall {env : Mp.Env} {st st' : Store} {es : List ME} {b : Bool} {odd : List Val} {good v : Val} (h : evalEs T.prog (call T.prog 24) es env st = .ok [.ref 0, .bl b, .lst odd, good] st) (e : callM T.prog (call T.prog 24) .raw "_law_part" [] [.ref 0, .bl b, .lst odd, good] [] st = .ok v st') : evalE T.prog (call T.prog 24) (.call .raw "_law_part" es [] []) env st = .ok v st' := by
  rw [E_call, h]; exact e
section
variable (ns : List Int) (turn pt lv h t b k le ho bs fnd due kk five asks : Option Val) (b0 b1 b2 b3 b4 b5 b6 b7 : Bool)
theorem q0 (bad : Option Val) {st : Store} (hb : Bag XS st) : ∃ (c0 c1 c2 c3 c4 c5 c6 c7 : Bool) (st' : Store), evalS T.prog (call T.prog 24) b_law_3_0 (tE ns turn bad pt lv h t b k le ho bs fnd due kk five asks) st = .ok (.next (tE ns turn (some (bV8 c0 c1 c2 c3 c4 c5 c6 c7)) pt lv h t b k le ho bs fnd due kk five asks)) st' ∧ Bag XS st' := by
  obtain ⟨cs, st', e, hl, hb'⟩ := bads_ok 23 (tE ns turn bad pt lv h t b k le ho bs fnd due kk five asks) rfl rfl (Ws.map Val.str) (by decide) hb
  match cs, hl, e with
  | [c0, c1, c2, c3, c4, c5, c6, c7], _, e =>
    refine ⟨c0, c1, c2, c3, c4, c5, c6, c7, st', ?_, hb'⟩
    have hs : srcE T.prog (call T.prog 24) .seq [(.var 2)] (tE ns turn bad pt lv h t b k le ho bs fnd due kk five asks) st = .ok (Ws.map Val.str, []) st := rfl
    unfold b_law_3_0
    rw [S_set, E_comp, hs, R.then_ok, e]
    rfl
theorem q1 {st : Store} (hb : Bag XS st) : ∃ v st', evalS T.prog (call T.prog 24) b_law_3_1 (tE ns turn (some (bV8 b0 b1 b2 b3 b4 b5 b6 b7)) pt lv h t b k le ho bs fnd due kk five asks) st = .ok (.next (tE ns turn (some (bV8 b0 b1 b2 b3 b4 b5 b6 b7)) pt (some v) h t b k le ho bs fnd due kk five asks)) st' ∧ Li [L0, v] (!b0) ∧ (b0 = false → v = L0) ∧ Bag XS st' := by
  obtain ⟨v, st', e, m1, m2, hb'⟩ := part_ok 21 b0 oddL L0 (by decide) (by decide) hb
  refine ⟨v, st', ?_, ?_, m2, hb'⟩
  · have pl := plain_ok 19 st
    have ml := mkL 21 st
    have ar : evalEs T.prog (call T.prog 24) [(.var 1), (.ix (.var 6) (.int 0)), (.lst false [(.non), (.int 3), (.str "0 0"), (.var 3), (.tup [(.int 0), (.int 0)]), (.lst false []), (.scall .raw "Book.plain" "Book" "plain" [(.int 5)] [] [])]), (.make .pure "Level" [] [] [])] (tE ns turn (some (bV8 b0 b1 b2 b3 b4 b5 b6 b7)) pt lv h t b k le ho bs fnd due kk five asks) st = .ok [.ref 0, .bl b0, .lst oddL, L0] st := by
      have i0 : ixV st (bV8 b0 b1 b2 b3 b4 b5 b6 b7) (.int 0) = some (.bl b0) := rfl
      simp only [E_var, E_non, E_bl, E_int, E_str, E_glob, E_bin, E_neg, E_cmp, E_chain, E_and, E_or, E_not, E_ite, E_tup, E_lstF, E_lstT, E_ix, E_slc, E_attr, E_call, E_make, E_meth, E_methk, E_bcall, E_bmeth, E_isin, Es_nil, Es_cons, and_one, and_two, or_one, or_two, T_and, T_or, T_not, T_cmp, T_chain, T_var, T_bl, T_attr, T_call, T_bcall, T_ix, T_isin, andT_one, andT_two, orT_one, orT_two, test_nil, test_one, S_expr, S_set, S_sett, S_setc, S_par, S_fld, S_sub, S_ret, S_retN, S_ite, S_for, S_pass, Ss_nil, Ss_cons, R.then_ok, R.of_some, List.getElem?_cons_zero, List.getElem?_cons_succ, Option.map_some, asB, E_dget, T_dget, S_dput, E_scall, List.map_cons, List.map_nil, i0, pl, ml]
      rfl
    unfold b_law_3_1
    rw [S_set, pcall ar e]
    rfl
  · cases b0 with
    | true => exact li_odd (m1 rfl)
    | false => rw [m2 rfl]; exact li_good
theorem q2 {st : Store} (hb : Bag XS st) : ∃ v st', evalS T.prog (call T.prog 24) b_law_3_2 (tE ns turn (some (bV8 b0 b1 b2 b3 b4 b5 b6 b7)) pt lv h t b k le ho bs fnd due kk five asks) st = .ok (.next (tE ns turn (some (bV8 b0 b1 b2 b3 b4 b5 b6 b7)) pt lv (some v) t b k le ho bs fnd due kk five asks)) st' ∧ Wi v 1 40 (!b1) ∧ (b1 = false → v = .int 9) ∧ Bag XS st' := by
  obtain ⟨v, st', e, m1, m2, hb'⟩ := part_ok 21 b1 oddH (.int 9) (by decide) (by decide) hb
  refine ⟨v, st', ?_, ?_, m2, hb'⟩
  · have ar : evalEs T.prog (call T.prog 24) [(.var 1), (.ix (.var 6) (.int 1)), (.lst false [(.int 0), (.int 41), (.neg (.int 5)), (.non), (.bl true), (.str "9"), (.lst false [(.int 9)]), (.bin .pow (.int 10) (.int 20))]), (.int 9)] (tE ns turn (some (bV8 b0 b1 b2 b3 b4 b5 b6 b7)) pt lv h t b k le ho bs fnd due kk five asks) st = .ok [.ref 0, .bl b1, .lst oddH, .int 9] st := by
      have i0 : ixV st (bV8 b0 b1 b2 b3 b4 b5 b6 b7) (.int 1) = some (.bl b1) := rfl
      have p20 : ∀ st, binV st .pow (.int 10) (.int 20) = some (.int 100000000000000000000) := fun _ => rfl
      simp only [E_var, E_non, E_bl, E_int, E_str, E_glob, E_bin, E_neg, E_cmp, E_chain, E_and, E_or, E_not, E_ite, E_tup, E_lstF, E_lstT, E_ix, E_slc, E_attr, E_call, E_make, E_meth, E_methk, E_bcall, E_bmeth, E_isin, Es_nil, Es_cons, and_one, and_two, or_one, or_two, T_and, T_or, T_not, T_cmp, T_chain, T_var, T_bl, T_attr, T_call, T_bcall, T_ix, T_isin, andT_one, andT_two, orT_one, orT_two, test_nil, test_one, S_expr, S_set, S_sett, S_setc, S_par, S_fld, S_sub, S_ret, S_retN, S_ite, S_for, S_pass, Ss_nil, Ss_cons, R.then_ok, R.of_some, List.getElem?_cons_zero, List.getElem?_cons_succ, Option.map_some, asB, E_dget, T_dget, S_dput, List.map_cons, List.map_nil, i0, p20]
      rfl
    unfold b_law_3_2
    rw [S_set, pcall ar e]
    rfl
  · cases b1 with
    | true => exact wi_H (m1 rfl)
    | false => rw [m2 rfl]; exact wi_int _ _ _ (by decide)
theorem two {i j : Int} {x y : Bool} {g1 g2 : Int} (hi : ∀ st, ixV st (bV8 b0 b1 b2 b3 b4 b5 b6 b7) (.int i) = some (.bl x)) (hj : ∀ st, ixV st (bV8 b0 b1 b2 b3 b4 b5 b6 b7) (.int j) = some (.bl y)) (w1 : Wi (.int g1) 0 2 true) (w2 : Wi (.int g2) 0 2 true) {st : Store} (hb : Bag XS st) :
    ∃ u v st', evalE T.prog (call T.prog 24) (.tup [(.call .raw "_law_part" [(.var 1), (.ix (.var 6) (.int i)), (.var 4), (.int g1)] [] []), (.call .raw "_law_part" [(.var 1), (.ix (.var 6) (.int j)), (.var 4), (.int g2)] [] [])]) (tE ns turn (some (bV8 b0 b1 b2 b3 b4 b5 b6 b7)) pt lv h t b k le ho bs fnd due kk five asks) st = .ok (.tup [u, v]) st' ∧ Wi u 0 2 (!x) ∧ Wi v 0 2 (!y) ∧ (x = false → u = .int g1) ∧ (y = false → v = .int g2) ∧ Bag XS st' := by
  obtain ⟨u, st1, e1, m1, m2, hb1⟩ := part_ok 21 x oddN (.int g1) (by decide) (by decide) hb
  obtain ⟨v, st2, e2, m3, m4, hb2⟩ := part_ok 21 y oddN (.int g2) (by decide) (by decide) hb1
  refine ⟨u, v, st2, ?_, ?_, ?_, m2, m4, hb2⟩
  · have a1 : evalEs T.prog (call T.prog 24) [(.var 1), (.ix (.var 6) (.int i)), (.var 4), (.int g1)] (tE ns turn (some (bV8 b0 b1 b2 b3 b4 b5 b6 b7)) pt lv h t b k le ho bs fnd due kk five asks) st = .ok [.ref 0, .bl x, .lst oddN, .int g1] st := by
      simp only [E_var, E_non, E_bl, E_int, E_str, E_glob, E_bin, E_neg, E_cmp, E_chain, E_and, E_or, E_not, E_ite, E_tup, E_lstF, E_lstT, E_ix, E_slc, E_attr, E_call, E_make, E_meth, E_methk, E_bcall, E_bmeth, E_isin, Es_nil, Es_cons, and_one, and_two, or_one, or_two, T_and, T_or, T_not, T_cmp, T_chain, T_var, T_bl, T_attr, T_call, T_bcall, T_ix, T_isin, andT_one, andT_two, orT_one, orT_two, test_nil, test_one, S_expr, S_set, S_sett, S_setc, S_par, S_fld, S_sub, S_ret, S_retN, S_ite, S_for, S_pass, Ss_nil, Ss_cons, R.then_ok, R.of_some, List.getElem?_cons_zero, List.getElem?_cons_succ, Option.map_some, asB, E_dget, T_dget, S_dput, hi]
    have a2 : evalEs T.prog (call T.prog 24) [(.var 1), (.ix (.var 6) (.int j)), (.var 4), (.int g2)] (tE ns turn (some (bV8 b0 b1 b2 b3 b4 b5 b6 b7)) pt lv h t b k le ho bs fnd due kk five asks) st1 = .ok [.ref 0, .bl y, .lst oddN, .int g2] st1 := by
      simp only [E_var, E_non, E_bl, E_int, E_str, E_glob, E_bin, E_neg, E_cmp, E_chain, E_and, E_or, E_not, E_ite, E_tup, E_lstF, E_lstT, E_ix, E_slc, E_attr, E_call, E_make, E_meth, E_methk, E_bcall, E_bmeth, E_isin, Es_nil, Es_cons, and_one, and_two, or_one, or_two, T_and, T_or, T_not, T_cmp, T_chain, T_var, T_bl, T_attr, T_call, T_bcall, T_ix, T_isin, andT_one, andT_two, orT_one, orT_two, test_nil, test_one, S_expr, S_set, S_sett, S_setc, S_par, S_fld, S_sub, S_ret, S_retN, S_ite, S_for, S_pass, Ss_nil, Ss_cons, R.then_ok, R.of_some, List.getElem?_cons_zero, List.getElem?_cons_succ, Option.map_some, asB, E_dget, T_dget, S_dput, hj]
    rw [E_tup, Es_cons, pcall a1 e1, R.then_ok, Es_cons, pcall a2 e2]
    rfl
  · cases x with
    | true => exact wi_N (m1 rfl)
    | false => rw [m2 rfl]; exact w1
  · cases y with
    | true => exact wi_N (m3 rfl)
    | false => rw [m4 rfl]; exact w2
theorem q3 {st : Store} (hb : Bag XS st) : ∃ u v st', evalS T.prog (call T.prog 24) b_law_3_3 (tE ns turn (some (bV8 b0 b1 b2 b3 b4 b5 b6 b7)) pt lv h t b k le ho bs fnd due kk five asks) st = .ok (.next (tE ns turn (some (bV8 b0 b1 b2 b3 b4 b5 b6 b7)) pt lv h (some u) (some v) k le ho bs fnd due kk five asks)) st' ∧ Wi u 0 2 (!b2) ∧ Wi v 0 2 (!b3) ∧ (b2 = false → u = .int 1) ∧ (b3 = false → v = .int 2) ∧ Bag XS st' := by
  obtain ⟨u, v, st', e, h1, h2, m1, m2, hb'⟩ := two ns turn pt lv h t b k le ho bs fnd due kk five asks b0 b1 b2 b3 b4 b5 b6 b7 (i := 2) (j := 3) (x := b2) (y := b3) (g1 := 1) (g2 := 2) (fun _ => rfl) (fun _ => rfl) (wi_int _ _ _ (by decide)) (wi_int _ _ _ (by decide)) hb
  refine ⟨u, v, st', ?_, h1, h2, m1, m2, hb'⟩
  unfold b_law_3_3
  rw [S_sett, e]
  rfl
theorem q5 {st : Store} (hb : Bag XS st) : ∃ u v st', evalS T.prog (call T.prog 24) b_law_3_5 (tE ns turn (some (bV8 b0 b1 b2 b3 b4 b5 b6 b7)) pt lv h t b k le ho bs fnd due kk five asks) st = .ok (.next (tE ns turn (some (bV8 b0 b1 b2 b3 b4 b5 b6 b7)) pt lv h t b k (some u) (some v) bs fnd due kk five asks)) st' ∧ Wi u 0 2 (!b5) ∧ Wi v 0 2 (!b6) ∧ (b5 = false → u = .int 0) ∧ (b6 = false → v = .int 2) ∧ Bag XS st' := by
  obtain ⟨u, v, st', e, h1, h2, m1, m2, hb'⟩ := two ns turn pt lv h t b k le ho bs fnd due kk five asks b0 b1 b2 b3 b4 b5 b6 b7 (i := 5) (j := 6) (x := b5) (y := b6) (g1 := 0) (g2 := 2) (fun _ => rfl) (fun _ => rfl) (wi_int _ _ _ (by decide)) (wi_int _ _ _ (by decide)) hb
  refine ⟨u, v, st', ?_, h1, h2, m1, m2, hb'⟩
  unfold b_law_3_5
  rw [S_sett, e]
  rfl
theorem q4 {st : Store} (hb : Bag XS st) : ∃ v st', evalS T.prog (call T.prog 24) b_law_3_4 (tE ns turn (some (bV8 b0 b1 b2 b3 b4 b5 b6 b7)) pt lv h t b k le ho bs fnd due kk five asks) st = .ok (.next (tE ns turn (some (bV8 b0 b1 b2 b3 b4 b5 b6 b7)) pt lv h t b (some v) le ho bs fnd due kk five asks)) st' ∧ Ki v (!b4) ∧ (b4 = false → v = .lst [.int 1, .int 2]) ∧ Bag XS st' := by
  obtain ⟨v, st', e, m1, m2, hb'⟩ := part_ok 21 b4 oddK (.lst [.int 1, .int 2]) (by decide) (by decide) hb
  refine ⟨v, st', ?_, ?_, m2, hb'⟩
  · have ar : evalEs T.prog (call T.prog 24) [(.var 1), (.ix (.var 6) (.int 4)), (.lst false [(.lst false []), (.lst false [(.int 1), (.int 1), (.int 1)]), (.lst false [(.int 3)]), (.lst false [(.int 0)]), (.int 1), (.non), (.lst false [(.bl true)]), (.str "1"), (.lst false [(.int 1), (.non)])]), (.lst false [(.int 1), (.int 2)])] (tE ns turn (some (bV8 b0 b1 b2 b3 b4 b5 b6 b7)) pt lv h t b k le ho bs fnd due kk five asks) st = .ok [.ref 0, .bl b4, .lst oddK, .lst [.int 1, .int 2]] st := by
      have i0 : ixV st (bV8 b0 b1 b2 b3 b4 b5 b6 b7) (.int 4) = some (.bl b4) := rfl
      simp only [E_var, E_non, E_bl, E_int, E_str, E_glob, E_bin, E_neg, E_cmp, E_chain, E_and, E_or, E_not, E_ite, E_tup, E_lstF, E_lstT, E_ix, E_slc, E_attr, E_call, E_make, E_meth, E_methk, E_bcall, E_bmeth, E_isin, Es_nil, Es_cons, and_one, and_two, or_one, or_two, T_and, T_or, T_not, T_cmp, T_chain, T_var, T_bl, T_attr, T_call, T_bcall, T_ix, T_isin, andT_one, andT_two, orT_one, orT_two, test_nil, test_one, S_expr, S_set, S_sett, S_setc, S_par, S_fld, S_sub, S_ret, S_retN, S_ite, S_for, S_pass, Ss_nil, Ss_cons, R.then_ok, R.of_some, List.getElem?_cons_zero, List.getElem?_cons_succ, Option.map_some, asB, E_dget, T_dget, S_dput, List.map_cons, List.map_nil, i0]
      rfl
    unfold b_law_3_4
    rw [S_set, pcall ar e]
    rfl
  · cases b4 with
    | true => exact ki_odd (m1 rfl)
    | false => rw [m2 rfl]; exact ki_12
theorem q6 {st : Store} (hb : Bag XS st) : ∃ v st', evalS T.prog (call T.prog 24) b_law_3_6 (tE ns turn (some (bV8 b0 b1 b2 b3 b4 b5 b6 b7)) pt lv h t b k le ho bs fnd due kk five asks) st = .ok (.next (tE ns turn (some (bV8 b0 b1 b2 b3 b4 b5 b6 b7)) pt lv h t b k le ho (some v) fnd due kk five asks)) st' ∧ Bi v (!b7) ∧ (b7 = false → v = .lst [Bo .non, Bo (.int 0)]) ∧ Bag XS st' := by
  obtain ⟨v, st', e, m1, m2, hb'⟩ := part_ok 21 b7 oddB (.lst [Bo .non, Bo (.int 0)]) (by decide) (by decide) hb
  refine ⟨v, st', ?_, ?_, m2, hb'⟩
  · have pl := plain_ok 19 st
    have ml := mkL 21 st
    have m0 := mkB0 21 st
    have m1 := mkB1 21 st
    have mm : ∀ st, binV st .mul (.lst [Bo .non]) (.int 4) = some (.lst [Bo .non, Bo .non, Bo .non, Bo .non]) := fun _ => rfl
    have ar : evalEs T.prog (call T.prog 24) [(.var 1), (.ix (.var 6) (.int 7)), (.lst false [(.bin .mul (.lst false [(.var 3)]) (.int 4)), (.lst false [(.var 3), (.int 5)]), (.str ""), (.non), (.lst false [(.make .pure "Box" [(.int 0)] [] [])]), (.lst false [(.var 3), (.make .pure "Box" [(.int 1)] [] [])]), (.int 0), (.lst false [(.make .pure "Level" [] [] [])]), (.lst false [(.scall .raw "Book.plain" "Book" "plain" [(.int 5)] [] [])])]), (.lst false [(.var 3), (.make .pure "Box" [(.int 0)] [] [])])] (tE ns turn (some (bV8 b0 b1 b2 b3 b4 b5 b6 b7)) pt lv h t b k le ho bs fnd due kk five asks) st = .ok [.ref 0, .bl b7, .lst oddB, .lst [Bo .non, Bo (.int 0)]] st := by
      have i0 : ixV st (bV8 b0 b1 b2 b3 b4 b5 b6 b7) (.int 7) = some (.bl b7) := rfl
      simp only [E_var, E_non, E_bl, E_int, E_str, E_glob, E_bin, E_neg, E_cmp, E_chain, E_and, E_or, E_not, E_ite, E_tup, E_lstF, E_lstT, E_ix, E_slc, E_attr, E_call, E_make, E_meth, E_methk, E_bcall, E_bmeth, E_isin, Es_nil, Es_cons, and_one, and_two, or_one, or_two, T_and, T_or, T_not, T_cmp, T_chain, T_var, T_bl, T_attr, T_call, T_bcall, T_ix, T_isin, andT_one, andT_two, orT_one, orT_two, test_nil, test_one, S_expr, S_set, S_sett, S_setc, S_par, S_fld, S_sub, S_ret, S_retN, S_ite, S_for, S_pass, Ss_nil, Ss_cons, R.then_ok, R.of_some, List.getElem?_cons_zero, List.getElem?_cons_succ, Option.map_some, asB, E_dget, T_dget, S_dput, E_scall, List.map_cons, List.map_nil, i0, pl, ml, m0, m1, mm]
      rfl
    unfold b_law_3_6
    rw [S_set, pcall ar e]
    rfl
  · cases b7 with
    | true => exact bi_odd (m1 rfl)
    | false => rw [m2 rfl]; exact bi_good
end
end L_k07
end
section
set_option Elab.async false
set_option linter.all false
set_option maxRecDepth 100000
set_option maxHeartbeats
                         1000000
namespace L_k07
open PySem Mp
variable {XS : List SO}
theorem gotB (w : Str) (st : Store) : gotR T.prog (eB w st) = .ok (.tup [.str "BadBook", .str w]) st := by kernel_rfl
theorem gotOK (v : Val) (st : Store) : gotR T.prog (.ok v st) = .ok (.tup [.str Str.empty, v]) st := rfl
theorem bag_push {st : Store} (h : Bag XS st) (o : SO) : Bag (XS ++ [o]) (st ++ [o]) := by
  obtain ⟨a, b, c, d, e, rfl, z⟩ := h; exact ⟨a, b, c, d, e, rfl, z⟩
theorem make_err' {P : Prog} {Φ : Cal} {c f : Str} {kn : List Str} {vs ks args : List Val} {tp : List Src} {st st' : Store} {ec : Str} {ns : List Str} {us : List Val} (h1 : P.meth c "__init__" = some f) (h2 : P.isc c = true) (h3 : P.bind f (vs.length + 1) kn = some tp) (h4 : srcs (.ref st.length :: vs) ks tp = some args)
    (h5 : Φ f args (st ++ [.ins c [] []]) = .err ec ns us st') : makeM P Φ .pure c kn vs ks st = .err ec ns us st' := by
  unfold makeM
  rw [h1]
  simp only [h2, if_true, h3, h4, h5]
  rfl
abbrev gW (b0 b1 b2 b3 b4 b5 b6 b7 : Bool) : Val → Option Val := fun v => match v with
  | .int i => if [b0, b1, b2, b3, b4, b5, b6, b7].getD i.toNat false then some (.str (Ws.getD i.toNat Str.empty)) else none
  | _ => none
abbrev r8 : List Val := (List.range 8).map fun (k : Nat) => Val.int (0 + (k : Int))
def dueP (o : Option Str) (l : List Val) : Prop := match o with
  | none => l = []
  | some w => ∃ r : List Str, l = .str w :: r.map Val.str
theorem due_fw (b0 b1 b2 b3 b4 b5 b6 b7 : Bool) : dueP (fw [!b0, !b1, !b2, !b3, !b4, !b5, !b6, !b7] Ws) (r8.filterMap (gW b0 b1 b2 b3 b4 b5 b6 b7)) := by
  have e : r8.filterMap (gW b0 b1 b2 b3 b4 b5 b6 b7) = (([b0, b1, b2, b3, b4, b5, b6, b7].zip Ws).filterMap fun q => if q.1 then some q.2 else none).map Val.str := by
    cases b0 <;> cases b1 <;> cases b2 <;> cases b3 <;> cases b4 <;> cases b5 <;> cases b6 <;> cases b7 <;> rfl
  rw [e]
  have gen : ∀ (bs : List Bool) (ws : List Str), bs.length = ws.length → dueP (fw (bs.map (!·)) ws) (((bs.zip ws).filterMap fun q => if q.1 then some q.2 else none).map Val.str) := by
    intro bs
    induction bs with
    | nil => intro ws _; cases ws <;> rfl
    | cons b r ih =>
      intro ws h
      cases ws with
      | nil => cases h
      | cons w ws =>
        cases b with
        | true => exact ⟨_, rfl⟩
        | false => exact ih ws (by simpa using h)
  exact gen [b0, b1, b2, b3, b4, b5, b6, b7] Ws rfl
theorem str_D : ∀ r : List Str, isDs (r.map Val.str) = true
  | [] => rfl
  | w :: r => by
    show (true && isDs (r.map Val.str)) = true
    rw [str_D r]; rfl
theorem str_dep : ∀ r : List Str, vdeps (r.map Val.str) = 0
  | [] => rfl
  | w :: r => by
    show max 0 (vdeps (r.map Val.str)) = 0
    rw [str_dep r]; rfl
theorem ne_nil (w : Str) (r : List Str) (st : Store) : cmpV st .ne (.lst (.str w :: r.map Val.str)) (.lst []) = some true := by
  have o1 : okD (.lst (.str w :: r.map Val.str)) = true := by
    show (isDs ((w :: r).map Val.str) && decide (vdeps ((w :: r).map Val.str) + 1 ≤ 60)) = true
    rw [str_D, str_dep]; rfl
  have o2 : (okD (Mp.top st (.lst (.str w :: r.map Val.str))) && okD (Mp.top st (.lst []))) = true := by
    show (okD (.lst (.str w :: r.map Val.str)) && okD (.lst [])) = true
    rw [o1]; rfl
  have e : eqD st (.lst (.str w :: r.map Val.str)) (.lst []) = some false := by
    unfold eqD
    rw [if_pos o2]
    rfl
  show (eqD st (.lst (.str w :: r.map Val.str)) (.lst [])).map (!·) = _
  rw [e]; rfl
theorem ne_bad (w : Str) (st : Store) : cmpV st .ne (.tup [.str "BadBook", .str w]) (.tup [.str "BadBook", .str w]) = some false := by
  show (eqD st (.tup [.str "BadBook", .str w]) (.tup [.str "BadBook", .str w])).map (!·) = _
  have : eqD st (.tup [.str "BadBook", .str w]) (.tup [.str "BadBook", .str w]) = some ((("BadBook" : Str) == ("BadBook" : Str)) && ((w == w) && true)) := rfl
  rw [this, beq_self_eq_true, beq_self_eq_true]; rfl
section
variable (ns : List Int) (turn pt fnd due kk five asks : Option Val) (b0 b1 b2 b3 b4 b5 b6 b7 : Bool)
theorem f_kinds : T.prog.fn "Book.kinds" = some ⟨1, 1, b_Book_kinds⟩ := rfl
theorem kinds_m (d : Nat) (h t b : Int) (le ho : Val) (lv bl : List Val) (st : Store) : callM T.prog (call T.prog (d + 1)) .raw "Book.kinds" [] [.ins "Book" bkN (bkV h t b le ho lv [.int 1, .int 2] bl)] [] st = .ok (.lst [.int 1, .int 2]) st := by
  refine call_raw (tp := [.pos 0]) rfl rfl ?_
  rw [unf f_kinds]
  exact run_ret rfl (Ss_ret rfl)
theorem mk_eq (p : Pt) (lv : Val) (env : Mp.Env) (st : Store) (e8 : env[8]? = some (some lv)) (e9 : env[9]? = some (some p.h)) (e10 : env[10]? = some (some p.t)) (e11 : env[11]? = some (some p.b)) (e12 : env[12]? = some (some p.k)) (e13 : env[13]? = some (some p.le)) (e14 : env[14]? = some (some p.ho)) (e15 : env[15]? = some (some p.bs)) :
    T.lamE (call T.prog 24) 0 env st = (makeM T.prog0 (call T.prog 24) .pure "Book" ["top", "bottom", "kinds", "lead", "hold", "boxes"] [p.h, L0, lv] [p.t, p.b, p.k, p.le, p.ho, p.bs] st).then_ fun x st => match methG T.prog0 x "kinds" 1 st with
      | none => .stuck
      | some g => callM T.prog0 (call T.prog 24) .raw g [] [x] [] st := by
  show evalE T.prog0 (call T.prog 24) lam_0 env st = _
  have ml : makeM T.prog0 (call T.prog 24) .pure "Level" [] [] [] st = .ok L0 st := mkL 21 st
  unfold lam_0
  rw [E_meth, E_make]
  simp only [Es_cons, Es_nil, E_var, E_make, e8, e9, e10, e11, e12, e13, e14, e15, R.then_ok, ml]
  rfl
theorem lam_bad (p : Pt) (lv : Val) (hlv : p.lv = [L0, lv]) (env : Mp.Env) (st : Store) (e8 : env[8]? = some (some lv)) (e9 : env[9]? = some (some p.h)) (e10 : env[10]? = some (some p.t)) (e11 : env[11]? = some (some p.b)) (e12 : env[12]? = some (some p.k)) (e13 : env[13]? = some (some p.le)) (e14 : env[14]? = some (some p.ho)) (e15 : env[15]? = some (some p.bs))
    {r0 r1 r2 r3 r4 r5 r6 r7 : Bool} (h0 : Li p.lv r0) (h1 : Wi p.h 1 40 r1) (h2 : Wi p.t 0 2 r2) (h3 : Wi p.b 0 2 r3) (h4 : Ki p.k r4) (h5 : Wi p.le 0 2 r5) (h6 : Wi p.ho 0 2 r6) (h7 : Bi p.bs r7) {w : Str} (hw : fw [r0, r1, r2, r3, r4, r5, r6, r7] Ws = some w) :
    T.lamE (call T.prog 24) 0 env st = eB w (S0 st) := by
  rw [mk_eq p lv env st e8 e9 e10 e11 e12 e13 e14 e15]
  have ib := init_bad 20 st p h0 h1 h2 h3 h4 h5 h6 h7 hw
  obtain ⟨h, t, b, k, le, ho, bs, lv'⟩ := p
  replace hlv : lv' = [L0, lv] := hlv
  subst hlv
  have mb : makeM T.prog0 (call T.prog 24) .pure "Book" ["top", "bottom", "kinds", "lead", "hold", "boxes"] [h, L0, lv] [t, b, k, le, ho, bs] st = eB w (S0 st) := make_err' rfl rfl rfl rfl ib
  rw [mb]
  rfl
theorem lam_good (env : Mp.Env) (st : Store) (e8 : env[8]? = some (some L0)) (e9 : env[9]? = some (some (.int 9))) (e10 : env[10]? = some (some (.int 1))) (e11 : env[11]? = some (some (.int 2))) (e12 : env[12]? = some (some (.lst [.int 1, .int 2]))) (e13 : env[13]? = some (some (.int 0))) (e14 : env[14]? = some (some (.int 2))) (e15 : env[15]? = some (some (.lst [Bo .non, Bo (.int 0)]))) :
    T.lamE (call T.prog 24) 0 env st = .ok (.lst [.int 1, .int 2]) st := by
  rw [mk_eq ⟨.int 9, .int 1, .int 2, .lst [.int 1, .int 2], .int 0, .int 2, .lst [Bo .non, Bo (.int 0)], [L0, L0]⟩ L0 env st e8 e9 e10 e11 e12 e13 e14 e15]
  have ig := init_good 20 st 9 1 2 (.lst [.int 1, .int 2]) (.int 0) (.int 2) (.lst [Bo .non, Bo (.int 0)]) [L0, L0] [.int 1, .int 2] [Bo .non, Bo (.int 0)] li_good (wi_int _ _ _ (by decide)) (wi_int _ _ _ (by decide)) (wi_int _ _ _ (by decide)) ki_12 (wi_int _ _ _ (by decide)) (wi_int _ _ _ (by decide)) bi_good (.inr rfl) (fun _ => rfl) (fun _ => rfl) (by decide)
  have mb : makeM T.prog0 (call T.prog 24) .pure "Book" ["top", "bottom", "kinds", "lead", "hold", "boxes"] [.int 9, L0, L0] [.int 1, .int 2, .lst [.int 1, .int 2], .int 0, .int 2, .lst [Bo .non, Bo (.int 0)]] st = .ok (.ins "Book" bkN (bkV 9 1 2 (.int 0) (.int 2) [L0, L0] [.int 1, .int 2] [Bo .non, Bo (.int 0)])) st := make_new rfl rfl rfl rfl ig rfl
  rw [mb]
  exact kinds_m 23 9 1 2 (.int 0) (.int 2) [L0, L0] [Bo .non, Bo (.int 0)] st
end
end L_k07
end
section
set_option Elab.async false
set_option linter.all false
set_option maxRecDepth 100000
set_option maxHeartbeats
                         1000000
namespace L_k07
open PySem Mp
variable {XS : List SO}
theorem f_law : T.prog.fn "law" = some ⟨1, 21, b_law⟩ := rfl
section
variable (ns : List Int) (turn pt fnd due kk five asks : Option Val) (b0 b1 b2 b3 b4 b5 b6 b7 : Bool) (lv h t b k le ho bs : Val)
theorem q8 (st : Store) : evalS T.prog (call T.prog 24) b_law_3_8 (tE ns turn (some (bV8 b0 b1 b2 b3 b4 b5 b6 b7)) pt (some lv) (some h) (some t) (some b) (some k) (some le) (some ho) (some bs) fnd due kk five asks) st = .ok (.next (tE ns turn (some (bV8 b0 b1 b2 b3 b4 b5 b6 b7)) pt (some lv) (some h) (some t) (some b) (some k) (some le) (some ho) (some bs) fnd (some (.lst (r8.filterMap (gW b0 b1 b2 b3 b4 b5 b6 b7)))) kk five asks)) st := by
  have hs : srcE T.prog (call T.prog 24) .range1 [(.int 8)] (tE ns turn (some (bV8 b0 b1 b2 b3 b4 b5 b6 b7)) pt (some lv) (some h) (some t) (some b) (some k) (some le) (some ho) (some bs) fnd due kk five asks) st = .ok (r8, []) st := rfl
  have c1 := comp_ok (P := T.prog) (Φ := call T.prog 24) (mt := .v 18) (melt := .ix (.var 2) (.var 18)) (mifs := [(.ix (.var 6) (.var 18))]) (env := tE ns turn (some (bV8 b0 b1 b2 b3 b4 b5 b6 b7)) pt (some lv) (some h) (some t) (some b) (some k) (some le) (some ho) (some bs) fnd due kk five asks) (items := r8) (st := st) (st' := st) (by show 8 ≤ (2 ^ 24 : Nat); decide) (comp_pure (g := gW b0 b1 b2 b3 b4 b5 b6 b7) (fun v hv => by
    have hv' : v ∈ [Val.int 0, .int 1, .int 2, .int 3, .int 4, .int 5, .int 6, .int 7] := hv
    simp only [List.mem_cons, List.not_mem_nil, or_false] at hv'
    rcases hv' with rfl | rfl | rfl | rfl | rfl | rfl | rfl | rfl
    · cases b0 <;> rfl
    · cases b1 <;> rfl
    · cases b2 <;> rfl
    · cases b3 <;> rfl
    · cases b4 <;> rfl
    · cases b5 <;> rfl
    · cases b6 <;> rfl
    · cases b7 <;> rfl) [])
  rw [List.nil_append] at c1
  unfold b_law_3_8
  rw [S_setc, E_comp, hs, R.then_ok, c1]
  rfl
theorem q9_bad (w : Str) (r : List Str) (st : Store) : evalS T.prog (call T.prog 24) b_law_3_9 (tE ns turn (some (bV8 b0 b1 b2 b3 b4 b5 b6 b7)) pt (some lv) (some h) (some t) (some b) (some k) (some le) (some ho) (some bs) (some (.tup [.str "BadBook", .str w])) (some (.lst (.str w :: r.map Val.str))) kk five asks) st = .ok (.next (tE ns turn (some (bV8 b0 b1 b2 b3 b4 b5 b6 b7)) pt (some lv) (some h) (some t) (some b) (some k) (some le) (some ho) (some bs) (some (.tup [.str "BadBook", .str w])) (some (.lst (.str w :: r.map Val.str))) kk five asks)) st := by
  generalize he : tE ns turn (some (bV8 b0 b1 b2 b3 b4 b5 b6 b7)) pt (some lv) (some h) (some t) (some b) (some k) (some le) (some ho) (some bs) (some (.tup [.str "BadBook", .str w])) (some (.lst (.str w :: r.map Val.str))) kk five asks = env
  have e16 : evalE T.prog (call T.prog 24) (.var 16) env st = .ok (.tup [.str "BadBook", .str w]) st := by rw [← he]; rfl
  have e17 : evalE T.prog (call T.prog 24) (.var 17) env st = .ok (.lst (.str w :: r.map Val.str)) st := by rw [← he]; rfl
  have i0 : ixV st (.lst (.str w :: r.map Val.str)) (.int 0) = some (.str w) := by
    have e : seqOf st (.lst (.str w :: r.map Val.str)) = some (.str w :: r.map Val.str) := rfl
    unfold ixV
    simp only [e]
    unfold L2.atI L2.ixN
    simp
  have n1 := ne_nil w r st
  have n2 := ne_bad w st
  have t1 : evalT T.prog (call T.prog 24) (.cmp .ne (.var 17) (.lst false [])) env st = .ok true st := by
    rw [T_cmp, e17]
    show asB (R.of ((cmpV st .ne (.lst (.str w :: r.map Val.str)) (.lst [])).map .bl) st) = _
    rw [n1]; rfl
  have e2 : evalE T.prog (call T.prog 24) (.tup [(.str "BadBook"), (.ix (.var 17) (.int 0))]) env st = .ok (.tup [.str "BadBook", .str w]) st := by
    simp only [E_tup, Es_cons, Es_nil, E_str, E_ix, E_int, e17, R.then_ok, i0, R.of_some]
  have eI : evalE T.prog (call T.prog 24) (.ite (.cmp .ne (.var 17) (.lst false [])) (.tup [(.str "BadBook"), (.ix (.var 17) (.int 0))]) (.tup [(.str ""), (.lst false [(.int 1), (.int 2)])])) env st = .ok (.tup [.str "BadBook", .str w]) st := by
    rw [E_ite, t1]
    exact e2
  have tt : evalT T.prog (call T.prog 24) (.cmp .ne (.var 16) (.ite (.cmp .ne (.var 17) (.lst false [])) (.tup [(.str "BadBook"), (.ix (.var 17) (.int 0))]) (.tup [(.str ""), (.lst false [(.int 1), (.int 2)])]))) env st = .ok false st := by
    rw [T_cmp, e16, R.then_ok, eI, R.then_ok, n2]
    rfl
  unfold b_law_3_9
  rw [S_ite, tt]
  rfl
theorem q9_good (st : Store) : evalS T.prog (call T.prog 24) b_law_3_9 (tE ns turn (some (bV8 b0 b1 b2 b3 b4 b5 b6 b7)) pt (some lv) (some h) (some t) (some b) (some k) (some le) (some ho) (some bs) (some (.tup [.str Str.empty, .lst [.int 1, .int 2]])) (some (.lst [])) kk five asks) st = .ok (.next (tE ns turn (some (bV8 b0 b1 b2 b3 b4 b5 b6 b7)) pt (some lv) (some h) (some t) (some b) (some k) (some le) (some ho) (some bs) (some (.tup [.str Str.empty, .lst [.int 1, .int 2]])) (some (.lst [])) kk five asks)) st := by
  kernel_rfl
end
def InvT (ns : List Int) (env : Mp.Env) (st : Store) : Prop := ∃ turn bad pt lv h t b k le ho bs fnd due kk five asks, env = tE ns turn bad pt lv h t b k le ho bs fnd due kk five asks ∧ ∃ XS, Bag XS st
theorem fw_none {b0 b1 b2 b3 b4 b5 b6 b7 : Bool} (h : fw [!b0, !b1, !b2, !b3, !b4, !b5, !b6, !b7] Ws = none) : b0 = false ∧ b1 = false ∧ b2 = false ∧ b3 = false ∧ b4 = false ∧ b5 = false ∧ b6 = false ∧ b7 = false := by
  cases b0 <;> cases b1 <;> cases b2 <;> cases b3 <;> cases b4 <;> cases b5 <;> cases b6 <;> cases b7 <;> first | exact ⟨rfl, rfl, rfl, rfl, rfl, rfl, rfl, rfl⟩ | cases h
theorem turn_ok (ns : List Int) (x : Val) (env : Mp.Env) (st : Store) (hI : InvT ns env st) : ∃ env' st', forF T.prog (call T.prog 24) (.v 5) b_law_3b x env st = .ok (.next env') st' ∧ InvT ns env' st' := by
  obtain ⟨turn, bad, pt, lv, h, t, b, k, le, ho, bs, fnd, due, kk, five, asks, rfl, XS, hb⟩ := hI
  obtain ⟨b0, b1, b2, b3, b4, b5, b6, b7, st0, e0, hb0⟩ := q0 ns (some x) pt lv h t b k le ho bs fnd due kk five asks bad hb
  obtain ⟨v1, st1, e1, f1, g1, hb1⟩ := q1 ns (some x) pt lv h t b k le ho bs fnd due kk five asks b0 b1 b2 b3 b4 b5 b6 b7 hb0
  obtain ⟨v2, st2, e2, f2, g2, hb2⟩ := q2 ns (some x) pt (some v1) h t b k le ho bs fnd due kk five asks b0 b1 b2 b3 b4 b5 b6 b7 hb1
  obtain ⟨v3, v4, st3, e3, f3, f4, g3, g4, hb3⟩ := q3 ns (some x) pt (some v1) (some v2) t b k le ho bs fnd due kk five asks b0 b1 b2 b3 b4 b5 b6 b7 hb2
  obtain ⟨v5, st4, e4, f5, g5, hb4⟩ := q4 ns (some x) pt (some v1) (some v2) (some v3) (some v4) k le ho bs fnd due kk five asks b0 b1 b2 b3 b4 b5 b6 b7 hb3
  obtain ⟨v6, v7, st5, e5, f6, f7, g6, g7, hb5⟩ := q5 ns (some x) pt (some v1) (some v2) (some v3) (some v4) (some v5) le ho bs fnd due kk five asks b0 b1 b2 b3 b4 b5 b6 b7 hb4
  obtain ⟨v8, st6, e6, f8, g8, hb6⟩ := q6 ns (some x) pt (some v1) (some v2) (some v3) (some v4) (some v5) (some v6) (some v7) bs fnd due kk five asks b0 b1 b2 b3 b4 b5 b6 b7 hb5
  have pre : ∀ ss, evalSs T.prog (call T.prog 24) (b_law_3_0 :: b_law_3_1 :: b_law_3_2 :: b_law_3_3 :: b_law_3_4 :: b_law_3_5 :: b_law_3_6 :: ss) (tE ns (some x) bad pt lv h t b k le ho bs fnd due kk five asks) st = evalSs T.prog (call T.prog 24) ss (tE ns (some x) (some (bV8 b0 b1 b2 b3 b4 b5 b6 b7)) pt (some v1) (some v2) (some v3) (some v4) (some v5) (some v6) (some v7) (some v8) fnd due kk five asks) st6 := fun ss =>
    (Ss_next e0).trans ((Ss_next e1).trans ((Ss_next e2).trans ((Ss_next e3).trans ((Ss_next e4).trans ((Ss_next e5).trans (Ss_next e6))))))
  have du := due_fw b0 b1 b2 b3 b4 b5 b6 b7
  show ∃ env' st', evalSs T.prog (call T.prog 24) b_law_3b (tE ns (some x) bad pt lv h t b k le ho bs fnd due kk five asks) st = .ok (.next env') st' ∧ InvT ns env' st'
  cases ew : fw [!b0, !b1, !b2, !b3, !b4, !b5, !b6, !b7] Ws with
  | some w =>
    rw [ew] at du
    obtain ⟨r, er⟩ := du
    have lm := lam_bad ⟨v2, v3, v4, v5, v6, v7, v8, [L0, v1]⟩ v1 rfl (tE ns (some x) (some (bV8 b0 b1 b2 b3 b4 b5 b6 b7)) pt (some v1) (some v2) (some v3) (some v4) (some v5) (some v6) (some v7) (some v8) fnd due kk five asks) st6 rfl rfl rfl rfl rfl rfl rfl rfl f1 f2 f3 f4 f5 f6 f7 f8 ew
    have hb7 := bag_push hb6 (.ins "Book" [] [])
    have e7 : evalS T.prog (call T.prog 24) b_law_3_7 (tE ns (some x) (some (bV8 b0 b1 b2 b3 b4 b5 b6 b7)) pt (some v1) (some v2) (some v3) (some v4) (some v5) (some v6) (some v7) (some v8) fnd due kk five asks) st6 = .ok (.next (tE ns (some x) (some (bV8 b0 b1 b2 b3 b4 b5 b6 b7)) pt (some v1) (some v2) (some v3) (some v4) (some v5) (some v6) (some v7) (some v8) (some (.tup [.str "BadBook", .str w])) due kk five asks)) (S0 st6) := by
      unfold b_law_3_7
      rw [S_set, E_got, show T.prog.lam (call T.prog 24) 0 (tE ns (some x) (some (bV8 b0 b1 b2 b3 b4 b5 b6 b7)) pt (some v1) (some v2) (some v3) (some v4) (some v5) (some v6) (some v7) (some v8) fnd due kk five asks) st6 = _ from lm, gotB]
      rfl
    have e8 := q8 ns (some x) pt (some (.tup [.str "BadBook", .str w])) due kk five asks b0 b1 b2 b3 b4 b5 b6 b7 v1 v2 v3 v4 v5 v6 v7 v8 (S0 st6)
    rw [er] at e8
    have e9 := q9_bad ns (some x) pt kk five asks b0 b1 b2 b3 b4 b5 b6 b7 v1 v2 v3 v4 v5 v6 v7 v8 w r (S0 st6)
    exact ⟨_, _, (pre _).trans ((Ss_next e7).trans ((Ss_next e8).trans ((Ss_next e9).trans rfl))), ⟨_, _, _, _, _, _, _, _, _, _, _, _, _, _, _, _, rfl, _, hb7⟩⟩
  | none =>
    rw [ew] at du
    have er : r8.filterMap (gW b0 b1 b2 b3 b4 b5 b6 b7) = [] := du
    obtain ⟨rfl, rfl, rfl, rfl, rfl, rfl, rfl, rfl⟩ := fw_none ew
    have c1 := g1 rfl; have c2 := g2 rfl; have c3 := g3 rfl; have c4 := g4 rfl; have c5 := g5 rfl; have c6 := g6 rfl; have c7 := g7 rfl; have c8 := g8 rfl
    subst c1 c2 c3 c4 c5 c6 c7 c8
    have lm := lam_good (tE ns (some x) (some (bV8 false false false false false false false false)) pt (some L0) (some (.int 9)) (some (.int 1)) (some (.int 2)) (some (.lst [.int 1, .int 2])) (some (.int 0)) (some (.int 2)) (some (.lst [Bo .non, Bo (.int 0)])) fnd due kk five asks) st6 rfl rfl rfl rfl rfl rfl rfl rfl
    have e7 : evalS T.prog (call T.prog 24) b_law_3_7 (tE ns (some x) (some (bV8 false false false false false false false false)) pt (some L0) (some (.int 9)) (some (.int 1)) (some (.int 2)) (some (.lst [.int 1, .int 2])) (some (.int 0)) (some (.int 2)) (some (.lst [Bo .non, Bo (.int 0)])) fnd due kk five asks) st6 = .ok (.next (tE ns (some x) (some (bV8 false false false false false false false false)) pt (some L0) (some (.int 9)) (some (.int 1)) (some (.int 2)) (some (.lst [.int 1, .int 2])) (some (.int 0)) (some (.int 2)) (some (.lst [Bo .non, Bo (.int 0)])) (some (.tup [.str Str.empty, .lst [.int 1, .int 2]])) due kk five asks)) st6 := by
      unfold b_law_3_7
      rw [S_set, E_got, show T.prog.lam (call T.prog 24) 0 (tE ns (some x) (some (bV8 false false false false false false false false)) pt (some L0) (some (.int 9)) (some (.int 1)) (some (.int 2)) (some (.lst [.int 1, .int 2])) (some (.int 0)) (some (.int 2)) (some (.lst [Bo .non, Bo (.int 0)])) fnd due kk five asks) st6 = _ from lm, gotOK]
      rfl
    have e8 := q8 ns (some x) pt (some (.tup [.str Str.empty, .lst [.int 1, .int 2]])) due kk five asks false false false false false false false false L0 (.int 9) (.int 1) (.int 2) (.lst [.int 1, .int 2]) (.int 0) (.int 2) (.lst [Bo .non, Bo (.int 0)]) st6
    rw [er] at e8
    have e9 := q9_good ns (some x) pt kk five asks false false false false false false false false L0 (.int 9) (.int 1) (.int 2) (.lst [.int 1, .int 2]) (.int 0) (.int 2) (.lst [Bo .non, Bo (.int 0)]) st6
    exact ⟨_, _, (pre _).trans ((Ss_next e7).trans ((Ss_next e8).trans ((Ss_next e9).trans rfl))), ⟨_, _, _, _, _, _, _, _, _, _, _, _, _, _, _, _, rfl, _, hb6⟩⟩
theorem bad_levels (env : Mp.Env) (st : Store) (e19 : env[19]? = some (some L0)) (e3 : env[3]? = some (some (Bo .non))) : ∀ i ∈ [1, 2, 3], T.lamE (call T.prog 24) i env st = eB "levels" (S0 st) := by
  intro i hi
  have w0 : ∀ lv h, Li lv false → (∃ r, Wi h 1 40 r) → call T.prog 24 "Book.__init__" (pArgs st.length ⟨h, .int 0, .int 0, .tup [.int 1], .int 0, .int 0, .tup [], lv⟩) (S0 st) = eB "levels" (S0 st) := fun lv h hl ⟨r, hr⟩ =>
    init_bad 20 st ⟨h, .int 0, .int 0, .tup [.int 1], .int 0, .int 0, .tup [], lv⟩ hl hr (wi_int _ _ _ rfl) (wi_int _ _ _ rfl) ki_1 (wi_int _ _ _ rfl) (wi_int _ _ _ rfl) bi_none rfl
  simp only [List.mem_cons, List.not_mem_nil, or_false] at hi
  rcases hi with rfl | rfl | rfl
  · show evalE T.prog0 (call T.prog 24) lam_1 env st = _
    have mb : makeM T.prog0 (call T.prog 24) .pure "Book" [] [.int 0] [] st = eB "levels" (S0 st) := make_err' rfl rfl rfl rfl (w0 [] (.int 0) li_nil ⟨_, wi_int _ _ _ rfl⟩)
    exact mb
  · show evalE T.prog0 (call T.prog 24) lam_2 env st = _
    have mb : makeM T.prog0 (call T.prog 24) .pure "Book" [] [.int 9, L0, L0, L0, L0, L0] [] st = eB "levels" (S0 st) := make_err' rfl rfl rfl rfl (w0 [L0, L0, L0, L0, L0] (.int 9) li_five ⟨_, wi_int _ _ _ rfl⟩)
    unfold lam_2
    rw [E_make]
    simp only [Es_cons, Es_nil, E_int, E_var, e19, R.then_ok]
    exact mb
  · show evalE T.prog0 (call T.prog 24) lam_3 env st = _
    have mb : makeM T.prog0 (call T.prog 24) .pure "Book" [] [.int 41, Bo .non] [] st = eB "levels" (S0 st) := make_err' rfl rfl rfl rfl (w0 [Bo .non] (.int 41) li_box ⟨_, wi_int _ _ _ rfl⟩)
    unfold lam_3
    rw [E_make]
    simp only [Es_cons, Es_nil, E_int, E_var, e3, R.then_ok]
    exact mb
theorem law_ok (ns : List Int) (hn : ns.length ≤ 63) : ∃ st', call T.prog 25 "law" [.scr ns] [] = .ok (.bl true) st' := by
  obtain ⟨st0, e0, hb0⟩ := bag_ok 23 ns
  have s0 : evalS T.prog (call T.prog 24) b_law_0 [some (.scr ns), none, none, none, none, none, none, none, none, none, none, none, none, none, none, none, none, none, none, none, none] [] = .ok (.next (lE ns none none none none none none none none none none none none none none none none none none none)) st0 := by
    unfold b_law_0
    rw [S_set]
    show (callM T.prog (call T.prog 24) .raw "_law_bag" [] [.scr ns] [] []).then_ _ = _
    rw [e0]; rfl
  have s1 : evalS T.prog (call T.prog 24) b_law_1 (lE ns none none none none none none none none none none none none none none none none none none none) st0 = .ok (.next (lE ns (some wV) none none none none none none none none none none none none none none none none none none)) st0 := rfl
  have s2 : evalS T.prog (call T.prog 24) b_law_2 (lE ns (some wV) none none none none none none none none none none none none none none none none none none) st0 = .ok (.next (tE ns none none none none none none none none none none none none none none none none)) st0 := by
    have m0 := mkB 21 st0
    have p9 : ∀ st, binV st .pow (.int 10) (.int 9) = some (.int 1000000000) := fun _ => rfl
    have e1 : evalE T.prog (call T.prog 24) (.tup [(.make .pure "Box" [] [] []), (.lst false [(.int 3), (.neg (.int 1)), (.non), (.bl true), (.str "1"), (.lst false [(.int 1)]), (.bin .pow (.int 10) (.int 9))])]) (lE ns (some wV) none none none none none none none none none none none none none none none none none none) st0 = .ok (.tup [Bo .non, .lst oddN]) st0 := by
      simp only [E_var, E_non, E_bl, E_int, E_str, E_glob, E_bin, E_neg, E_cmp, E_chain, E_and, E_or, E_not, E_ite, E_tup, E_lstF, E_lstT, E_ix, E_slc, E_attr, E_call, E_make, E_meth, E_methk, E_bcall, E_bmeth, E_isin, Es_nil, Es_cons, and_one, and_two, or_one, or_two, T_and, T_or, T_not, T_cmp, T_chain, T_var, T_bl, T_attr, T_call, T_bcall, T_ix, T_isin, andT_one, andT_two, orT_one, orT_two, test_nil, test_one, S_expr, S_set, S_sett, S_setc, S_par, S_fld, S_sub, S_ret, S_retN, S_ite, S_for, S_pass, Ss_nil, Ss_cons, R.then_ok, R.of_some, List.getElem?_cons_zero, List.getElem?_cons_succ, Option.map_some, asB, E_dget, T_dget, S_dput, List.map_cons, List.map_nil, m0, p9]
      rfl
    unfold b_law_2
    rw [S_sett, e1]
    rfl
  obtain ⟨env', st3, e3, hi⟩ := loop_inv (I := InvT ns) (step := forF T.prog (call T.prog 24) (.v 5) b_law_3b) (items := ((List.range 5).map fun (k : Nat) => Val.int (0 + k))) (fun x _ env st h => turn_ok ns x env st h) (tE ns none none none none none none none none none none none none none none none none) st0 ⟨_, _, _, _, _, _, _, _, _, _, _, _, _, _, _, _, rfl, _, hb0⟩
  have s3 : evalS T.prog (call T.prog 24) b_law_3 (tE ns none none none none none none none none none none none none none none none none) st0 = .ok (.next env') st3 := by
    unfold b_law_3
    rw [S_for]
    exact e3
  obtain ⟨turn, bad, pt, lv, h, t, b, k, le, ho, bs, fnd, due, kk, five, asks, rfl, XS, hb⟩ := hi
  have s4 : evalS T.prog (call T.prog 24) b_law_4 (tE ns turn bad pt lv h t b k le ho bs fnd due kk five asks) st3 = .ok (.next (tE ns turn bad pt lv h t b k le ho bs fnd due kk (some L0) asks)) st3 := by
    have ml := mkL 21 st3
    unfold b_law_4
    simp only [E_var, E_non, E_bl, E_int, E_str, E_glob, E_bin, E_neg, E_cmp, E_chain, E_and, E_or, E_not, E_ite, E_tup, E_lstF, E_lstT, E_ix, E_slc, E_attr, E_call, E_make, E_meth, E_methk, E_bcall, E_bmeth, E_isin, Es_nil, Es_cons, and_one, and_two, or_one, or_two, T_and, T_or, T_not, T_cmp, T_chain, T_var, T_bl, T_attr, T_call, T_bcall, T_ix, T_isin, andT_one, andT_two, orT_one, orT_two, test_nil, test_one, S_expr, S_set, S_sett, S_setc, S_par, S_fld, S_sub, S_ret, S_retN, S_ite, S_for, S_pass, Ss_nil, Ss_cons, R.then_ok, R.of_some, List.getElem?_cons_zero, List.getElem?_cons_succ, Option.map_some, asB, E_dget, T_dget, S_dput, List.map_cons, List.map_nil, ml]
    rfl
  have s5 : evalS T.prog (call T.prog 24) b_law_5 (tE ns turn bad pt lv h t b k le ho bs fnd due kk (some L0) asks) st3 = .ok (.next (tE ns turn bad pt lv h t b k le ho bs fnd due kk (some L0) (some (.lst ([1, 2, 3].map Val.clo))))) st3 := rfl
  obtain ⟨st4, e4, _⟩ := all_same (P := T.prog) (F := fun i st => T.prog.lam (call T.prog 24) i (tE ns turn bad pt lv h t b k le ho bs fnd due kk (some L0) (some (.lst ([1, 2, 3].map Val.clo)))) st) (live := []) (I := fun _ => True) (y := .tup [.str "BadBook", .str "levels"]) (fun _ _ => rfl) [1, 2, 3] [] st3 trivial (fun i hi st _ => ⟨S0 st, by
    show gotR T.prog (T.lamE (call T.prog 24) i (tE ns turn bad pt lv h t b k le ho bs fnd due kk (some L0) (some (.lst ([1, 2, 3].map Val.clo)))) st) = _
    rw [bad_levels _ st rfl rfl i hi]; exact gotB _ _, trivial⟩)
  have g : evalE T.prog (call T.prog 24) (.gotall (.var 20)) (tE ns turn bad pt lv h t b k le ho bs fnd due kk (some L0) (some (.lst ([1, 2, 3].map Val.clo)))) st3 = .ok (.lst (List.replicate 3 (.tup [.str "BadBook", .str "levels"]))) st4 := by
    rw [E_gotall, E_var]
    show (if 3 ≤ sizeLine then (compL (gotF T.prog fun i st => T.prog.lam (call T.prog 24) i (tE ns turn bad pt lv h t b k le ho bs fnd due kk (some L0) (some (.lst ([1, 2, 3].map Val.clo)))) st) [] ([1, 2, 3].map Val.clo) [] st3).then_ fun ys st => R.ok (Val.lst ys) st else .stuck) = _
    rw [if_pos (by rw [sizeLine_eq]; decide), e4]
    rfl
  have g2 : evalE T.prog (call T.prog 24) (.bin .mul (.lst false [(.tup [(.str "BadBook"), (.str "levels")])]) (.int 3)) (tE ns turn bad pt lv h t b k le ho bs fnd due kk (some L0) (some (.lst ([1, 2, 3].map Val.clo)))) st4 = .ok (.lst (List.replicate 3 (.tup [.str "BadBook", .str "levels"]))) st4 := rfl
  have g3 : cmpM T.prog (call T.prog 24) .eq (.lst (List.replicate 3 (.tup [.str "BadBook", .str "levels"]))) (.lst (List.replicate 3 (.tup [.str "BadBook", .str "levels"]))) st4 = .ok (.bl true) st4 := by kernel_rfl
  refine ⟨st4, ?_⟩
  rw [unf f_law]
  refine run_ret rfl ((Ss_next s0).trans ((Ss_next s1).trans ((Ss_next s2).trans ((Ss_next s3).trans ((Ss_next s4).trans ((Ss_next s5).trans (Ss_ret ?_)))))))
  unfold b_law_6
  rw [S_ret, E_cmp, g, R.then_ok, g2, R.then_ok]
  first
  | rfl
  | (show (cmpM T.prog (call T.prog 24) .eq _ _ st4).then_ _ = _; rw [g3]; rfl)
end L_k07
end
theorem PySem.Challenge.cw_sheetsums_k07_books_refused_holds : PySem.Challenge.rw_sheetsums_k07_books_refused.Holds := by
  exact L_k07.done L_k07.law_ok
