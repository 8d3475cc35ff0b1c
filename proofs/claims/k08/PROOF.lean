import PyProof.Rows.All
import Wide.All
import OpenK.AllK
import Wide.FinOn
import HandS.ForMost
import HandS.Wide
import HandS.StrMore
import HandS.Replace
import HandS.Exc
import HandS.Lambda
import HandS.EndTab
import HandS.Style
import HandS.Steps
import HandS.IsInst
import HandS.Deep
import KE.KRevSl
import HandS.ExcOwn
import HandS.CallSlots
import HandS.FStr
import HandS.Text
import HandS.More
import HandS.Defaults
import HandS.ClsMeth
import HandS.ExcInit
import HandS.ExcField
import HandS.WordsExc
import KE.KTryMore
import HandS.HeadHook1
import HandS.HeadHook2
import KE.KStateDown
import HandS.Base
import HandS.Call
import HandS.MakeKw
import HandS.MakeKwOnly
import HandS.Head0
import HandS.Head1
import HandS.Head2
import HandS.HeadEnd
import HandS.HeadHook3
import HandS.HeadHook4
import KE.KNestM
import HandS.Codes
import HandS.Keys
import PySem.Challenge.RW_gapstone_k08_whole_looks_and_touchings
set_option Elab.async false
set_option linter.all false
set_option maxRecDepth 100000
/-! The data, my terms, the evaluator: plain Lean. -/
namespace G
open PySem L2

/-- a text, by its code points -/
abbrev T := List Nat
def tS (t : T) : Str := ⟨t.toArray⟩

/-- data: trees; ref n is the n-th cell of the store -/
inductive D where
  | non | bl (b : Bool) | int (i : Int) | str (s : T)
  | tup (xs : List D) | lst (xs : List D) | scr (ns : List Int)
  | ins (c : Nat) (fs : List D)
  | ref (n : Nat)
  | dfn (f : Nat)

inductive Cell where
  | lst (xs : List D)
  | ins (c : Nat) (fs : List D)

abbrev Stt := List Cell
abbrev Env := List (Option D)

/-- an expression's end -/
inductive R (α : Type) where
  | ok (a : α) (s : Stt)
  | exc (c : Nat) (fs : List D) (s : Stt)
  | stuck
def R.bind {α β : Type} (r : R α) (f : α → Stt → R β) : R β := match r with
  | .ok a s => f a s
  | .exc c fs s => .exc c fs s
  | .stuck => .stuck
def R.of {α : Type} (o : Option α) (s : Stt) : R α := match o with
  | some a => .ok a s
  | none => .stuck
/-- a statement's end -/
inductive RS where
  | nx (ρ : Env) (s : Stt)
  | rt (d : D) (s : Stt)
  | bk (ρ : Env) (s : Stt)
  | ct (ρ : Env) (s : Stt)
  | exc (c : Nat) (fs : List D) (ρ : Env) (s : Stt)
  | stuck
def RS.seq (r : RS) (f : Env → Stt → RS) : RS := match r with
  | .nx ρ s => f ρ s
  | r => r
/-- an expression within a statement -/
def R.st {α : Type} (r : R α) (ρ : Env) (f : α → Stt → RS) : RS := match r with
  | .ok a s => f a s
  | .exc c fs s => .exc c fs ρ s
  | .stuck => .stuck

inductive Bin | add | sub | mul | fdiv | mod | pow
  deriving DecidableEq
inductive Cmp | eq | ne | lt | le | gt | ge | isN | isnN | isB | isnB | in_ | nin
  deriving DecidableEq
/-- built-ins by their name -/
inductive Bi | len | abs | list | tuple | int | str | all | any | sum | min | max
  deriving DecidableEq
/-- built-in methods -/
inductive Me | append | pop | popAt | index | rfind | upper | lower | lindex | join | split | part | reverse | clear | insert
  deriving DecidableEq
/-- what is walked -/
inductive It | seq | range1 | range2 | range3 | enum
  deriving DecidableEq

inductive E where
  | var (i : Nat)
  | int (i : Int) | bl (b : Bool) | non | str (s : T)
  | glob (g : Nat)
  | bin (o : Bin) (a b : E)
  | neg (a : E) | not (a : E)
  | cmp (o : Cmp) (a b : E)
  | chain (o o' : Cmp) (a b c : E)
  | and (as : List E) | or (as : List E)
  | ite (c a b : E)
  | tup (as : List E)
  | lst (cell : Bool) (as : List E)
  | ix (a i : E)
  | sl (a : E) (lo hi : Option E)
  | call (f : Nat) (as : List E)
  | callk (j : Nat) (as ks : List E)
  | bi (b : Bi) (a : E)
  | isi (a : E) (many : Bool) (ts : List String)
  | met (m : Me) (a : E) (as : List E)
  | rev (a : E)
  | mk (a : E)
  | comp (cell : Bool) (e : E) (own : List Nat) (tg : List Nat) (k : It) (src : List E) (c : Option E)
  | told (j : Nat) (e : E)
  | fstr (ps : List E)
  | fmt (e : E)

inductive S where
  | set (i : Nat) (e : E)
  | par (is : List Nat) (es : List E)
  | unp (is : List Nat) (e : E)
  | setix (o i e : E)
  | aug (i : Nat) (o : Bin) (e : E)
  | expr (e : E)
  | ret (e : E) | retN
  | ite (c : E) (a b : List S)
  | for (tg : List Nat) (k : It) (src : List E) (b : List S)
  | while (c : E) (b : List S)
  | pass | brk | cont
  | raise (c : Nat) (as : List E)
  | never

structure Def where
  name : Str
  pos : Bool
  ps : List Str
  N : List Str
  body : List S
  keep : Bool
  lam : Bool := false
/-- a call with keywords: the def, how many by place, the names, where each parameter comes from (inl j: the j-th value of all that are written; inr: a default) -/
structure Shape where
  f : Nat
  n : Nat
  ks : List Str
  src : List (Sum Nat D)
/-- an exception's class: its name, the fields behind called -/
structure XCls where
  name : T
  fs : List Str
/-- a def that calls what it got and tells how that ended: its name, its parameter, which classes are caught, what is told of them -/
structure Told where
  name : Str
  par : Str
  as_ : Str
  hs : List (List Str × List Nat × List Str)
structure Prog where
  defs : List Def
  shapes : List Shape
  consts : List (Str × D)
  xcls : List XCls := []
  tolds : List Told := []
/-- an exception's fields: called ahead -/
def XCls.all (x : XCls) : List Str := "called" :: x.fs
def tellF (x : XCls) (fs : List D) : List Str → Option (List D)
  | [] => some []
  | n :: ns => match (x.all.zip fs).lookup n, tellF x fs ns with
    | some d, some ds => some (d :: ds)
    | _, _ => none
def tellH (x : XCls) (c : Nat) (fs : List D) : List (List Str × List Nat × List Str) → Option D
  | [] => none
  | (_, cs, ns) :: r => if cs.contains c = true then (tellF x fs ns).map .tup else tellH x c fs r
/-- what is told of an exception -/
def toldD (P : Prog) (j c : Nat) (fs : List D) : Option D := match P.tolds[j]?, P.xcls[c]? with
  | some td, some x => tellH x c fs td.hs
  | _, _ => none
def toldT : T := [116, 111, 108, 100]

/-! ### values -/
mutual
def D.toP : D → Option PyData
  | .non => some .none
  | .bl b => some (.bool b)
  | .int i => some (.int i)
  | .str s => some (.str (tS s))
  | .tup xs => (D.toPs xs).map .tuple
  | .lst xs => (D.toPs xs).map .list
  | _ => none
def D.toPs : List D → Option (List PyData)
  | [] => some []
  | x :: xs => match D.toP x, D.toPs xs with
    | some p, some ps => some (p :: ps)
    | _, _ => none
end
/-! no ref at n or behind it -/
mutual
def D.under (n : Nat) : D → Bool
  | .tup xs => D.unders n xs
  | .lst xs => D.unders n xs
  | .ins _ xs => D.unders n xs
  | .ref m => decide (m < n)
  | _ => true
def D.unders (n : Nat) : List D → Bool
  | [] => true
  | x :: xs => D.under n x && D.unders n xs
end
def Cell.under (n : Nat) : Cell → Bool
  | .lst xs => D.unders n xs
  | .ins _ xs => D.unders n xs
/-! refs at n or behind it are told as they stand -/
mutual
def D.freeze (n : Nat) (s : Stt) : D → Option D
  | .tup xs => (D.freezes n s xs).map .tup
  | .lst xs => (D.freezes n s xs).map .lst
  | .ins c xs => (D.freezes n s xs).map (.ins c)
  | .ref m => if m < n then some (.ref m) else match s[m]? with
    | some (.lst xs) => if D.unders n xs then some (.lst xs) else none
    | _ => none
  | d => some d
def D.freezes (n : Nat) (s : Stt) : List D → Option (List D)
  | [] => some []
  | x :: xs => match D.freeze n s x, D.freezes n s xs with
    | some p, some ps => some (p :: ps)
    | _, _ => none
end

def cut {α : Type} (xs : List α) (lo hi : Option Int) : List α := (xs.drop (HT.sIx xs.length 0 lo)).take (HT.sIx xs.length xs.length hi - HT.sIx xs.length 0 lo)

def binF (o : Bin) (a b : D) : Option D := match o, a, b with
  | .add, .int i, .int j => some (.int (i + j))
  | .add, .str s, .str t => if s.length + t.length ≤ sizeLine then some (.str (s ++ t)) else none
  | .add, .tup s, .tup t => if s.length + t.length ≤ sizeLine then some (.tup (s ++ t)) else none
  | .add, .lst s, .lst t => if s.length + t.length ≤ sizeLine then some (.lst (s ++ t)) else none
  | .sub, .int i, .int j => some (.int (i - j))
  | .mul, .int i, .int j => if i.natAbs.log2 + j.natAbs.log2 < 1000000 then some (.int (i * j)) else none
  | .mul, .str t, .int n => if 2 ≤ n ∧ n < 2 ^ 62 ∧ t.length ≠ 0 ∧ t.length * n.toNat ≤ sizeLine then some (.str (List.replicate n.toNat t).flatten) else none
  | .mul, .lst xs, .int j => if -(2 ^ 63) ≤ j ∧ j < 2 ^ 63 ∧ xs.length * j.toNat ≤ sizeLine then some (.lst (List.replicate j.toNat xs).flatten) else none
  | .fdiv, .int i, .int j => if 0 < j ∧ j.natAbs.log2 < 9000 then some (.int (i / j)) else none
  | .mod, .int i, .int j => if 0 < j then some (.int (i % j)) else none
  | .pow, .int i, .int j => if 0 ≤ j ∧ j ≤ 1000000 ∧ i.natAbs < 2 ^ 64 then some (.int (i ^ j.toNat)) else none
  | _, _, _ => none

def augF (o : Bin) (a b : D) : Option D := match o, a, b with
  | .add, .int a, .int b => some (.int (a + b))
  | .add, .str a, .str b => if a.length + b.length ≤ sizeLine then some (.str (a ++ b)) else none
  | _, _, _ => none
def eqF (a b : D) : Option Bool := match a.toP, b.toP with
  | some p, some q => if SeqAt.shaped p = true ∧ SeqAt.shaped q = true then some (PyData.eqv p q) else none
  | _, _ => none
def strsD : List D → Option (List T)
  | [] => some []
  | .str b :: xs => (strsD xs).map (b :: ·)
  | _ :: _ => none
def intsF : List D → Option (List Int)
  | [] => some []
  | .int b :: xs => (intsF xs).map (b :: ·)
  | _ :: _ => none
/-- which are None, among numbers and texts -/
def nonsF : List D → Option (List Bool)
  | [] => some []
  | .non :: xs => (nonsF xs).map (true :: ·)
  | .int _ :: xs => (nonsF xs).map (false :: ·)
  | .str _ :: xs => (nonsF xs).map (false :: ·)
  | _ :: _ => none
/-- a text in a text -/
def inT (i j : T) : Bool := match i with
  | [c] => decide (c ∈ j)
  | i => !(Builtin.Str.occurrences (tS j) (tS i) 0 (tS j).length 1).isEmpty
/-- a text or a number in a row of such -/
def inF (a : D) (xs : List D) : Option Bool := match a with
  | .str t => (strsD xs).map fun ts => decide (t ∈ ts)
  | .int i => (intsF xs).map fun is => decide (i ∈ is)
  | .non => (nonsF xs).map fun bs => bs.any id
  | _ => none
/-- data in a list of data -/
def inL (a : D) (xs : List D) : Option Bool := match a.toP, D.toPs xs with
  | some d, some ds => if SeqAt.shaped d = true ∧ SeqAt.shaped (.list ds) = true then some (ds.any fun z => PyData.eqv z d) else none
  | _, _ => none
def inD (a b : D) : Option Bool := match a, b with
  | .str i, .str j => some (inT i j)
  | a, .tup xs => inF a xs
  | a, .lst xs => match inF a xs with
    | some k => some k
    | none => inL a xs
  | _, _ => none
def cmpF (o : Cmp) (a b : D) : Option D := match o, a, b with
  | .eq, a, b => (eqF a b).map .bl
  | .ne, a, b => (eqF a b).map fun k => .bl (!k)
  | .lt, .int i, .int j => some (.bl (decide (i < j)))
  | .le, .int i, .int j => some (.bl (decide (i ≤ j)))
  | .gt, .int i, .int j => some (.bl (decide (j < i)))
  | .ge, .int i, .int j => some (.bl (decide (j ≤ i)))
  | .isN, a, .non => match a with
    | .non => some (.bl true)
    | _ => some (.bl false)
  | .isnN, a, .non => match a with
    | .non => some (.bl false)
    | _ => some (.bl true)
  | .isB, .bl i, .bl j => some (.bl (decide (i = j)))
  | .isnB, .bl i, .bl j => some (.bl (!decide (i = j)))
  | .in_, a, b => (inD a b).map .bl
  | .nin, a, b => (inD a b).map fun k => .bl (!k)
  | _, _, _ => none

def truF (s : Stt) : D → Option Bool
  | .non => some false
  | .bl b => some b
  | .int i => some (i != 0)
  | .str t => if t.length ≤ sizeLine then some ((t.length : Int) != 0) else none
  | .tup xs => some (!xs.isEmpty)
  | .lst xs => some (!xs.isEmpty)
  | .ref n => match s[n]? with
    | some (.lst xs) => some (!xs.isEmpty)
    | _ => none
  | _ => none

def ixF (s : Stt) (a i : D) : Option D := match a, i with
  | .tup xs, .int i => atI xs i
  | .lst xs, .int i => atI xs i
  | .str t, .int i => if t.length ≤ sizeLine then (atI t i).map fun c => .str [c] else none
  | .ref n, .int i => match s[n]? with
    | some (.lst xs) => atI xs i
    | _ => none
  | _, _ => none
def slF (a : D) (lo hi : Option Int) : Option D := match a with
  | .lst xs => some (.lst (cut xs lo hi))
  | .scr ns => some (.lst ((cut ns lo hi).map .int))
  | .tup xs => if HT.sIx xs.length 0 lo = 0 ∧ HT.sIx xs.length xs.length hi = xs.length then none else some (.tup (cut xs lo hi))
  | .str t => if t.length ≤ sizeLine then some (.str (cut t lo hi)) else none
  | _ => none
/-- turned about -/
def revF : D → Option D
  | .str t => if t.length ≤ sizeLine then some (.str t.reverse) else none
  | .lst xs => some (.lst xs.reverse)
  | _ => none
def bools : List D → Option (List Bool)
  | [] => some []
  | .bl b :: xs => (bools xs).map (b :: ·)
  | _ :: _ => none
def intsD : List D → Option (List Int)
  | [] => some []
  | .int b :: xs => (intsD xs).map (b :: ·)
  | _ :: _ => none
/-- a list, a tuple or a cell, as it stands -/
def itemsF (s : Stt) : D → Option (List D)
  | .lst xs => some xs
  | .tup xs => some xs
  | .ref n => match s[n]? with
    | some (.lst xs) => some xs
    | _ => none
  | _ => none
def listF (s : Stt) : D → Option (List D)
  | .lst xs => some xs
  | .ref n => match s[n]? with
    | some (.lst xs) => some xs
    | _ => none
  | _ => none
/-- a number's figures -/
def intT (i : Int) : T := (Str.ofString (toString i)).cps.toList
/-- a value as a text within a text -/
def fmtF : D → Option D
  | .str t => if t.length ≤ sizeLine then some (.str t) else none
  | .int i => if i.natAbs.log2 < 1920 then some (.str (intT i)) else none
  | _ => none
def biF (b : Bi) (s : Stt) (a : D) : Option D := match b, a with
  | .len, .str t => if t.length ≤ sizeLine then some (.int t.length) else none
  | .len, a => (itemsF s a).map fun xs => .int xs.length
  | .abs, .int i => some (.int (if i < 0 then -i else i))
  | .list, a => (itemsF s a).map .lst
  | .int, .int i => some (.int i)
  | .int, .bl k => some (.int (if k then 1 else 0))
  | .int, .str t => if t.length ≤ 640 then (PySem.intText? (tS t)).map .int else none
  | .str, .int i => if i.natAbs.log2 < 1920 then some (.str (intT i)) else none
  | .all, a => (listF s a).bind fun xs => (bools xs).map fun bs => .bl (bs.all id)
  | .any, a => (listF s a).bind fun xs => (bools xs).map fun bs => .bl (bs.any id)
  | .sum, a => (listF s a).bind fun xs => (intsD xs).map fun bs => .int bs.sum
  | .tuple, .tup xs => some (.tup xs)
  | .tuple, a => (listF s a).map .tup
  | .min, a => (listF s a).bind fun xs => (intsD xs).bind fun bs => bs.min?.map .int
  | .max, a => (listF s a).bind fun xs => (intsD xs).bind fun bs => bs.max?.map .int
  | _, _ => none
def tyN : D → Option String
  | .non => some "NoneType"
  | .bl _ => some "bool"
  | .int _ => some "int"
  | .str _ => some "str"
  | .tup _ => some "tuple"
  | .lst _ => some "list"
  | _ => none
/-- a built-in type's heirs among those in use -/
def heir (a b : String) : Bool := a == b || (a == "bool" && b == "int")
def isiF (a : D) (ts : List String) : Option D := (tyN a).map fun n => .bl (ts.any (heir n))

/-- a list's method: what it tells, the list behind it -/
def lmF (m : Me) (xs ys : List D) : Option (D × List D) := match m, ys with
  | .append, [d] => if xs.length < sizeLine then some (.non, xs ++ [d]) else none
  | .pop, [] => match xs[xs.length - 1]? with
    | some y => some (y, xs.dropLast)
    | none => none
  | .popAt, [.int i] => if -(2 ^ 63) ≤ i ∧ i < 2 ^ 63 then (match ixN xs.length i with
    | some k => (match xs[k]? with
      | some y => some (y, xs.eraseIdx k)
      | none => none)
    | none => none) else none
  | .reverse, [] => some (.non, xs.reverse)
  | .clear, [] => some (.non, [])
  | .insert, [.int i, d] => if 0 ≤ i ∧ i < 2 ^ 63 ∧ xs.length < sizeLine then some (.non, xs.take i.toNat ++ [d] ++ xs.drop i.toNat) else none
  | _, _ => none
/-- a method of a cell or a value -/
def meF (m : Me) (s : Stt) (a : D) (as : List D) : R D := match a with
  | .ref n => match s[n]? with
    | some (.lst xs) => match lmF m xs as with
      | some (z, xs') => .ok z (s.set n (.lst xs'))
      | none => .stuck
    | _ => .stuck
  | .str t => match m, as with
    | .rfind, [.str u] => .ok (.int (Txt.rfind (tS t) (tS u))) s
    | .index, [.str u] => match Builtin.Str.occurrences (tS t) (tS u) 0 (tS t).length 1 with
      | i :: _ => .ok (.int (i : Nat)) s
      | [] => .stuck
    | .upper, [] => if t.length ≤ 5592405 then .ok (.str (Txt.upper (tS t)).cps.toList) s else .stuck
    | .lower, [] => if t.length ≤ 5592405 then .ok (.str (Txt.lower (tS t)).cps.toList) s else .stuck
    | .join, [d] => match (itemsF s d).bind strsD with
      | some ts => if (ts.map List.length).sum + ts.length * t.length ≤ 16777216 then .ok (.str (Txt.join (tS t) (ts.map tS)).cps.toList) s else .stuck
      | none => .stuck
    | .split, [.str u] => if u.length ≠ 0 ∧ t.length + 2 ≤ sizeLine then .ok (.lst ((Txt.split (tS t) (tS u)).map fun z => .str z.cps.toList)) s else .stuck
    | .part, [.str u] => if u.length ≠ 0 ∧ t.length ≤ sizeLine then .ok (.tup [.str (Txt.partition (tS t) (tS u)).1.cps.toList, .str (Txt.partition (tS t) (tS u)).2.1.cps.toList, .str (Txt.partition (tS t) (tS u)).2.2.cps.toList]) s else .stuck
    | _, _ => .stuck
  | .lst xs => match m, as with
    | .lindex, [.bl b] => match bools xs with
      | some bs => match bs.findIdx? (· == b) with
        | some j => .ok (.int (j : Nat)) s
        | none => .stuck
      | none => .stuck
    | _, _ => .stuck
  | _ => .stuck

/-- the receiver is of the method's type -/
def isCell (s : Stt) : D → Bool
  | .ref n => match s[n]? with
    | some (.lst _) => true
    | _ => false
  | _ => false
def meOk (m : Me) (s : Stt) (x : D) : Bool := match m, x with
  | .append, x => isCell s x
  | .pop, x => isCell s x
  | .popAt, x => isCell s x
  | .reverse, x => isCell s x
  | .clear, x => isCell s x
  | .insert, x => isCell s x
  | .join, .str _ => true
  | .split, .str _ => true
  | .part, .str _ => true
  | .index, .str _ => true
  | .rfind, .str _ => true
  | .upper, .str _ => true
  | .lower, .str _ => true
  | .lindex, .lst _ => true
  | _, _ => false

/-- what is walked, item by item -/
def srcF (k : It) (s : Stt) (ds : List D) : Option (List D) := match k, ds with
  | .seq, [.lst xs] => some xs
  | .seq, [.tup xs] => some xs
  | .seq, [.str t] => some (t.map fun c => .str [c])
  | .range1, [.int j] => if -(2 ^ 62) ≤ j ∧ j < 2 ^ 62 then some ((List.range j.toNat).map fun i => .int (i : Nat)) else none
  | .range2, [.int i, .int j] => if -(2 ^ 62) ≤ i ∧ i < 2 ^ 62 ∧ -(2 ^ 62) ≤ j ∧ j < 2 ^ 62 then some ((List.range (j - i).toNat).map fun n => .int (i + (n : Nat))) else none
  | .range3, [.int i, .int j, .int c] => if c = -1 ∧ -(2 ^ 62) ≤ i ∧ i < 2 ^ 62 ∧ -(2 ^ 62) ≤ j ∧ j < 2 ^ 62 then some ((List.range (i - j).toNat).map fun n => .int (i - (n : Nat))) else none
  | .enum, [.lst xs] => some (xs.mapIdx fun i x => .tup [.int i, x])
  | .enum, [.str t] => some (t.mapIdx fun i c => .tup [.int i, .str [c]])
  | _, _ => none

def wipeE (ρ : Env) : List Nat → Env
  | [] => ρ
  | v :: vs => (wipeE ρ vs).set v none
/-- one name, or several of a tuple -/
def tgF (tg : List Nat) (d : D) (ρ : Env) : Option Env := match tg, d with
  | [i], d => some (ρ.set i (some d))
  | is, .tup ds => if is.length = ds.length then some ((is.zip ds).foldl (fun ρ p => ρ.set p.1 (some p.2)) ρ) else none
  | _, _ => none

/-! ### the evaluator -/
abbrev CallS := Nat → List D → Stt → R D
/-- a comprehension's turns -/
def loopC (body : D → List D → Stt → R (List D)) : List D → List D → Stt → R (List D)
  | [], acc, s => .ok acc s
  | d :: ds, acc, s => match body d acc s with
    | .ok acc' s' => loopC body ds acc' s'
    | _ => .stuck
def loopF (body : D → Env → Stt → RS) : List D → Env → Stt → RS
  | [], ρ, s => .nx ρ s
  | d :: ds, ρ, s => match body d ρ s with
    | .nx ρ' s' => loopF body ds ρ' s'
    | .ct ρ' s' => loopF body ds ρ' s'
    | .bk ρ' s' => .nx ρ' s'
    | .rt d s' => .rt d s'
    | .exc c fs ρ' s' => .exc c fs ρ' s'
    | .stuck => .stuck
def loopW (c : Env → Stt → R Bool) (body : Env → Stt → RS) : Nat → Env → Stt → RS
  | 0, _, _ => .stuck
  | n + 1, ρ, s => (c ρ s).st ρ fun b s' => if b = true then (match body ρ s' with
    | .nx ρ' s' => loopW c body n ρ' s'
    | .ct ρ' s' => loopW c body n ρ' s'
    | .bk ρ' s' => .nx ρ' s'
    | .rt d s' => .rt d s'
    | .exc c fs ρ' s' => .exc c fs ρ' s'
    | .stuck => .stuck) else .nx ρ s'
/-- a shape's arguments -/
def srcs (src : List (Sum Nat D)) (ds : List D) : Option (List D) := src.mapM fun
  | .inl j => ds[j]?
  | .inr d => some d

def callK (sh : Shape) (g : List D → Stt → R D) (xs ys : List D) (s : Stt) : R D := if xs.length = sh.n ∧ ys.length = sh.ks.length then (match srcs sh.src (xs ++ ys) with
      | some zs => g zs s
      | none => .stuck) else .stuck
section
variable (P : Prog) (call : CallS)
mutual
def evE : E → Env → Stt → R D
  | .var i, ρ, s => R.of (ρ[i]?.join) s
  | .int i, _, s => .ok (.int i) s
  | .bl b, _, s => .ok (.bl b) s
  | .non, _, s => .ok .non s
  | .str t, _, s => .ok (.str t) s
  | .glob g, _, s => R.of (P.consts[g]?.map (·.2)) s
  | .bin o a b, ρ, s => (evE a ρ s).bind fun x s => (evE b ρ s).bind fun y s => R.of (binF o x y) s
  | .neg a, ρ, s => (evE a ρ s).bind fun x s => match x with
    | .int i => .ok (.int (-i)) s
    | _ => .stuck
  | .not a, ρ, s => (evE a ρ s).bind fun x s => match x with
    | .bl k => .ok (.bl (!k)) s
    | _ => .stuck
  | .cmp o a b, ρ, s => (evE a ρ s).bind fun x s => (evE b ρ s).bind fun y s => R.of (cmpF o x y) s
  | .chain o o' a b c, ρ, s => (evE a ρ s).bind fun x s => (evE b ρ s).bind fun y s => (R.of (cmpF o x y) s).bind fun z s => match z with
    | .bl true => (evE c ρ s).bind fun w s => R.of (cmpF o' y w) s
    | .bl false => .ok (.bl false) s
    | _ => .stuck
  | .and as, ρ, s => evAnd as ρ s
  | .or as, ρ, s => evOr as ρ s
  | .ite c a b, ρ, s => (evT c ρ s).bind fun k s => if k = true then evE a ρ s else evE b ρ s
  | .tup as, ρ, s => (evEs as ρ s).bind fun xs s => if xs.length ≤ sizeLine then .ok (.tup xs) s else .stuck
  | .lst false as, ρ, s => (evEs as ρ s).bind fun xs s => if xs.length ≤ sizeLine then .ok (.lst xs) s else .stuck
  | .lst true as, ρ, s => (evEs as ρ s).bind fun xs s => if xs.length ≤ sizeLine then .ok (.ref s.length) (s ++ [.lst xs]) else .stuck
  | .ix a i, ρ, s => (evE a ρ s).bind fun x s => (evE i ρ s).bind fun y s => R.of (ixF s x y) s
  | .sl a lo hi, ρ, s => (evE a ρ s).bind fun x s => (evO lo ρ s).bind fun l s => (evO hi ρ s).bind fun h s => R.of (slF x l h) s
  | .call f as, ρ, s => (evEs as ρ s).bind fun xs s => call f xs s
  | .callk j as ks, ρ, s => match P.shapes[j]? with
    | some sh => (evEs as ρ s).bind fun xs s => (evEs ks ρ s).bind fun ys s => callK sh (call sh.f) xs ys s
    | none => .stuck
  | .bi b a, ρ, s => (evE a ρ s).bind fun x s => R.of (biF b s x) s
  | .isi a _ ts, ρ, s => (evE a ρ s).bind fun x s => R.of (isiF x ts) s
  | .met m a as, ρ, s => (evE a ρ s).bind fun x s => if meOk m s x = true then (evEs as ρ s).bind fun ys s => meF m s x ys else .stuck
  | .rev a, ρ, s => (evE a ρ s).bind fun x s => R.of (revF x) s
  | .mk a, ρ, s => (evE a ρ s).bind fun x s => match itemsF s x with
    | some xs => .ok (.ref s.length) (s ++ [.lst xs])
    | none => .stuck
  | .comp cell e own tg k src c, ρ, s => ((evEs src ρ s).bind fun ds s => R.of (srcF k s ds) s).bind fun xs s =>
    (loopC (fun d acc s => match tgF tg d (wipeE ρ own) with
      | none => .stuck
      | some ρ' => (evC c ρ' s).bind fun k s => if k = true then (evE e ρ' s).bind fun y s => if acc.length < sizeLine then .ok (acc ++ [y]) s else .stuck else .ok acc s) xs [] s).bind fun acc s =>
    if cell = true then .ok (.ref s.length) (s ++ [.lst acc]) else .ok (.lst acc) s
  | .fstr ps, ρ, s => evFs ps [] ρ s
  | .fmt e, ρ, s => (evE e ρ s).bind fun x s => R.of (fmtF x) s
  | .told j e, ρ, s => match evE e ρ s with
    | .ok v s => .ok (.tup [.str toldT, v]) s
    | .exc c fs s => R.of (toldD P j c fs) s
    | .stuck => .stuck
/-- as a test -/
def evT : E → Env → Stt → R Bool
  | .not a, ρ, s => (evT a ρ s).bind fun k s => .ok (!k) s
  | .and as, ρ, s => evTAnd as ρ s
  | .or as, ρ, s => evTOr as ρ s
  | .cmp o a b, ρ, s => (evE a ρ s).bind fun x s => (evE b ρ s).bind fun y s => (R.of (cmpF o x y) s).bind fun z s => match z with
    | .bl k => .ok k s
    | _ => .stuck
  | .chain o o' a b c, ρ, s => (evE a ρ s).bind fun x s => (evE b ρ s).bind fun y s => (R.of (cmpF o x y) s).bind fun z s => match z with
    | .bl true => (evE c ρ s).bind fun w s => (R.of (cmpF o' y w) s).bind fun z s => match z with
      | .bl k => .ok k s
      | _ => .stuck
    | .bl false => .ok false s
    | _ => .stuck
  | .var i, ρ, s => (R.of (ρ[i]?.join) s).bind fun x s => R.of (truF s x) s
  | .call f as, ρ, s => ((evEs as ρ s).bind fun xs s => call f xs s).bind fun x s => R.of (truF s x) s
  | .bi b a, ρ, s => ((evE a ρ s).bind fun x s => R.of (biF b s x) s).bind fun x s => R.of (truF s x) s
  | .isi a _ ts, ρ, s => ((evE a ρ s).bind fun x s => R.of (isiF x ts) s).bind fun x s => R.of (truF s x) s
  | _, _, _ => .stuck
def evEs : List E → Env → Stt → R (List D)
  | [], _, s => .ok [] s
  | e :: es, ρ, s => (evE e ρ s).bind fun x s => (evEs es ρ s).bind fun xs s => .ok (x :: xs) s
def evFs : List E → T → Env → Stt → R D
  | [], acc, _, s => .ok (.str acc) s
  | p :: ps, acc, ρ, s => (evE p ρ s).bind fun x s => match x with
    | .str y => if (acc ++ y).length ≤ sizeLine then evFs ps (acc ++ y) ρ s else .stuck
    | _ => .stuck
def evO : Option E → Env → Stt → R (Option Int)
  | none, _, s => .ok none s
  | some e, ρ, s => (evE e ρ s).bind fun x s => match x with
    | .int i => .ok (some i) s
    | _ => .stuck
def evC : Option E → Env → Stt → R Bool
  | none, _, s => .ok true s
  | some e, ρ, s => evT e ρ s
def evAnd : List E → Env → Stt → R D
  | [], _, _ => .stuck
  | [a], ρ, s => evE a ρ s
  | a :: b :: r, ρ, s => (evE a ρ s).bind fun x s => match x with
    | .bl true => evAnd (b :: r) ρ s
    | .bl false => .ok (.bl false) s
    | _ => .stuck
def evOr : List E → Env → Stt → R D
  | [], _, _ => .stuck
  | [a], ρ, s => evE a ρ s
  | a :: b :: r, ρ, s => (evE a ρ s).bind fun x s => match x with
    | .bl false => evOr (b :: r) ρ s
    | .bl true => .ok (.bl true) s
    | _ => .stuck
def evTAnd : List E → Env → Stt → R Bool
  | [], _, _ => .stuck
  | [a], ρ, s => evT a ρ s
  | a :: b :: r, ρ, s => (evT a ρ s).bind fun k s => if k = true then evTAnd (b :: r) ρ s else .ok false s
def evTOr : List E → Env → Stt → R Bool
  | [], _, _ => .stuck
  | [a], ρ, s => evT a ρ s
  | a :: b :: r, ρ, s => (evT a ρ s).bind fun k s => if k = true then .ok true s else evTOr (b :: r) ρ s
end

/-- how often a while may turn: more than any measure here -/
def WF : Nat := 2 ^ 1000000

mutual
def evS : S → Env → Stt → RS
  | .set i e, ρ, s => (evE P call e ρ s).st ρ fun x s => .nx (ρ.set i (some x)) s
  | .par is es, ρ, s => (evEs P call es ρ s).st ρ fun xs s => if is.length = xs.length then .nx ((is.zip xs).foldl (fun ρ p => ρ.set p.1 (some p.2)) ρ) s else .stuck
  | .unp is e, ρ, s => (evE P call e ρ s).st ρ fun x s => match x with
    | .tup xs => if is.length = xs.length then .nx ((is.zip xs).foldl (fun ρ p => ρ.set p.1 (some p.2)) ρ) s else .stuck
    | _ => .stuck
  | .setix o i e, ρ, s => (evE P call e ρ s).st ρ fun y s => (evE P call o ρ s).st ρ fun x s => (evE P call i ρ s).st ρ fun z s => match x, z with
    | .ref n, .int i => match s[n]? with
      | some (.lst xs) => match ixN xs.length i with
        | some j => .nx ρ (s.set n (.lst (xs.set j y)))
        | none => .stuck
      | _ => .stuck
    | _, _ => .stuck
  | .aug i o e, ρ, s => (R.of (ρ[i]?.join) s).st ρ fun x s => (evE P call e ρ s).st ρ fun y s => (R.of (augF o x y) s).st ρ fun z s => .nx (ρ.set i (some z)) s
  | .expr e, ρ, s => (evE P call e ρ s).st ρ fun _ s => .nx ρ s
  | .ret e, ρ, s => (evE P call e ρ s).st ρ fun x s => .rt x s
  | .retN, _, s => .rt .non s
  | .ite c a b, ρ, s => (evT P call c ρ s).st ρ fun k s => if k = true then evSs a ρ s else evSs b ρ s
  | .for tg k src b, ρ, s => ((evEs P call src ρ s).bind fun ds s => R.of (srcF k s ds) s).st ρ fun xs s =>
    loopF (fun d ρ s => match tgF tg d ρ with
      | none => .stuck
      | some ρ' => evSs b ρ' s) xs ρ s
  | .while c b, ρ, s => loopW (evT P call c) (evSs b) WF ρ s
  | .pass, ρ, s => .nx ρ s
  | .brk, ρ, s => .bk ρ s
  | .cont, ρ, s => .ct ρ s
  | .raise c as, ρ, s => (evEs P call as ρ s).st ρ fun xs s => match P.xcls[c]? with
    | some x => if xs.length = x.fs.length then .exc c (.str x.name :: xs) ρ s else .stuck
    | none => .stuck
  | .never, _, _ => .stuck
def evSs : List S → Env → Stt → RS
  | [], ρ, s => .nx ρ s
  | a :: r, ρ, s => (evS a ρ s).seq fun ρ s => evSs r ρ s
end
end

/-- a call's end: the cells that it made go; what it tells is told as it stands -/
def leave (keep : Bool) (n : Nat) (d : D) (s : Stt) : R D :=
  if keep = true then .ok d s else if s.length = n then .ok d s else match d.freeze n s with
    | some d' => if (s.take n).all (·.under n) then .ok d' (s.take n) else .stuck
    | none => .stuck
/-- a call's end by an exception -/
def leaveX (n : Nat) (c : Nat) (fs : List D) (s : Stt) : R D :=
  if s.length = n then .exc c fs s else match D.freezes n s fs with
    | some fs' => if (s.take n).all (·.under n) then .exc c fs' (s.take n) else .stuck
    | none => .stuck
def callD (P : Prog) : Nat → CallS
  | 0, _, _, _ => .stuck
  | k + 1, f, ds, s => match P.defs[f]? with
    | none => .stuck
    | some df => if ds.length = df.ps.length then (match evSs P (callD P k) df.body (ds.map some ++ List.replicate (df.N.length - ds.length) none) s with
      | .rt d s' => leave df.keep s.length d s'
      | .nx _ s' => leave df.keep s.length .non s'
      | .exc c fs _ s' => leaveX s.length c fs s'
      | _ => .stuck) else .stuck
end G

set_option Elab.async false
set_option linter.all false
set_option maxRecDepth 100000
/-! How data lies in the abstract heap. -/
namespace G
open PySem L2

/-- what of the text is known: the written part, the classes' addresses with their fields, the defs' addresses, the exceptions' classes -/
structure Gm where
  K : PySem.W.Frag
  cls : Nat → Option (Addr × List Str)
  dfn : Nat → Option Addr
  xcl : Nat → Option (Addr × List Str)
  /-- the tables of code objects, with their lambdas' name -/
  T : List (Addr × Str)

/-- no table of code objects -/
def NoT (o : HO) : Prop := ∀ ps, o ≠ .tbl ps
/-- nothing but a table stands there -/
def Nn (H : Hp) (a : Addr) : Prop := ∀ o, H a = some o → ∃ ps, o = .tbl ps
theorem Nn.of {H : Hp} {a : Addr} (h : H a = none) : Nn H a := fun o e => by rw [h] at e; cases e
theorem Nn.no {H : Hp} {a : Addr} {o : HO} (h : Nn H a) (e : H a = some o) (n : NoT o) : False := let ⟨ps, z⟩ := h o e; n ps z
theorem not_lst {xs : List V} : NoT (.lst xs) := fun _ z => nomatch z
theorem not_ins {C dx : Addr} {fs : List (Str × V)} : NoT (.ins C dx fs) := fun _ z => nomatch z
/-- a list or an instance -/
def Cellish (o : HO) : Prop := (∃ xs, o = .lst xs) ∨ ∃ C dx fs, o = .ins C dx fs
theorem Cellish.nt {o : HO} (h : Cellish o) : NoT o := by
  rcases h with ⟨_, rfl⟩ | ⟨_, _, _, rfl⟩
  · exact not_lst
  · exact not_ins
theorem Cellish.l {xs : List V} : Cellish (.lst xs) := .inl ⟨_, rfl⟩
theorem Cellish.i {C dx : Addr} {fs : List (Str × V)} : Cellish (.ins C dx fs) := .inr ⟨_, _, _, rfl⟩
theorem tabs_write {H : Hp} {p : Addr} {o o0 : HO} (h : H p = some o0) (c : Cellish o0) {T : List (Addr × Str)} (t : LamX.Tabs T H) : LamX.Tabs T (upd H p o) := fun q hq => by
  obtain ⟨ps, h1, h2, h3⟩ := t q hq
  have n1 : q.1 ≠ p := fun z => by
    rw [z, h] at h1
    exact c.nt ps (Option.some.inj h1)
  refine ⟨ps, by rw [upd_ne n1]; exact h1, h2, fun pos cv hc => ?_⟩
  obtain ⟨c', e1, e2⟩ := h3 pos cv hc
  refine ⟨c', e1, ?_⟩
  have n2 : c' ≠ p := fun z => by
    rw [z, h] at e2
    have e3 := Option.some.inj e2
    unfold LamX.CodeO at e3
    rcases c with ⟨_, e⟩ | ⟨_, _, _, e⟩
    · rw [e] at e3; cases e3
    · rw [e] at e3; cases e3
  rw [upd_ne n2]
  exact e2

/-- the cells' addresses; those of lists that are being made -/
structure Fx where
  cs : List Addr
  hd : List Addr
def Fx.out (φ : Fx) (a : Addr) : Prop := a ∉ φ.cs ∧ a ∉ φ.hd
mutual
inductive Rep (Γ : Gm) (φ : Fx) (H : Hp) : V → D → Prop
  | non : Rep Γ φ H .non .non
  | bl (b : Bool) : Rep Γ φ H (.bl b) (.bl b)
  | int (i : Int) : Rep Γ φ H (.int i) (.int i)
  | str (t : T) : Rep Γ φ H (.str (tS t)) (.str t)
  | tup {a : Addr} {xs : List V} {ds : List D} : SqT Γ.K H a xs → Reps Γ φ H xs ds → Rep Γ φ H (.ref a) (.tup ds)
  | lst {a : Addr} {xs : List V} {ds : List D} : H a = some (.lst xs) → φ.out a → Reps Γ φ H xs ds → Rep Γ φ H (.ref a) (.lst ds)
  | scr {a : Addr} {ns : List Int} : (∃ o, H a = some (.frz o (.lst (ns.map V.int)))) ∨ (∃ (o : Obj) (its : Array Value) (n : Nat), Γ.K.lookup a = some o ∧ o.cls = .type "list" ∧ o.dict = none ∧ o.data = .seq its n ∧ its.size ≤ sizeLine ∧ Vals (ns.map V.int) its.toList) → Rep Γ φ H (.ref a) (.scr ns)
  | scrL {a : Addr} {ns : List Int} : H a = some (.lst (ns.map V.int)) → φ.out a → Rep Γ φ H (.ref a) (.scr ns)
  | ins {a C dx : Addr} {c : Nat} {fn : List Str} {xs : List V} {ds : List D} : Γ.cls c = some (C, fn) → H a = some (.ins C dx (fn.zip xs)) → xs.length = fn.length → φ.out a → Reps Γ φ H xs ds → Rep Γ φ H (.ref a) (.ins c ds)
  | ref {a : Addr} {n : Nat} : φ.cs[n]? = some a → Rep Γ φ H (.ref a) (.ref n)
  | dfn {a : Addr} {f : Nat} : Γ.dfn f = some a → Rep Γ φ H (.ref a) (.dfn f)
inductive Reps (Γ : Gm) (φ : Fx) (H : Hp) : List V → List D → Prop
  | nil : Reps Γ φ H [] []
  | cons {v : V} {vs : List V} {d : D} {ds : List D} : Rep Γ φ H v d → Reps Γ φ H vs ds → Reps Γ φ H (v :: vs) (d :: ds)
end

def CellRep (Γ : Gm) (φ : Fx) (H : Hp) (a : Addr) : Cell → Prop
  | .lst ds => ∃ xs, H a = some (.lst xs) ∧ Reps Γ φ H xs ds
  | .ins c ds => ∃ C fn dx xs, Γ.cls c = some (C, fn) ∧ H a = some (.ins C dx (fn.zip xs)) ∧ xs.length ≤ fn.length ∧ Reps Γ φ H xs ds

structure Rel (Γ : Gm) (φ : Fx) (H : Hp) (s : Stt) : Prop where
  len : φ.cs.length = s.length
  nd : φ.cs.Nodup
  dis : ∀ a ∈ φ.cs, a ∉ φ.hd
  hid : ∀ a ∈ φ.hd, ∃ o, H a = some o ∧ NoT o
  cell : ∀ (n : Nat) a c, φ.cs[n]? = some a → s[n]? = some c → CellRep Γ φ H a c
  tab : LamX.Tabs Γ.T H

/-- from one heap to a later one: new cells behind the old ones, all but the cells kept -/
structure After (φ : Fx) (H : Hp) (φ' : Fx) (H' : Hp) : Prop where
  grow : ∃ ψ, φ'.cs = φ.cs ++ ψ ∧ ∀ a ∈ ψ, Nn H a
  hid : (∀ a ∈ φ.hd, a ∈ φ'.hd) ∧ ∀ a ∈ φ'.hd, a ∈ φ.hd ∨ Nn H a
  keep : ∀ a o, H a = some o → NoT o → a ∉ φ.cs → H' a = some o
  tups : ∀ a xs, H a = some (.tup xs) → H' a = some (.tup xs)
  frzs : ∀ a o u, H a = some (.frz o u) → H' a = some (.frz o u)
  there : ∀ a o, H a = some o → NoT o → ∃ o', H' a = some o' ∧ NoT o'

theorem After.refl (φ : Fx) (H : Hp) : After φ H φ H := ⟨⟨[], by simp, fun _ h => nomatch h⟩, ⟨fun _ h => h, fun _ h => .inl h⟩, fun _ _ h _ _ => h, fun _ _ h => h, fun _ _ _ h => h, fun a o h n => ⟨o, h, n⟩⟩
theorem After.nn {φ φ' : Fx} {H H' : Hp} (x : After φ H φ' H') {a : Addr} (h : Nn H' a) : Nn H a := fun o e => Classical.byContradiction fun q => by
  obtain ⟨o', e', n⟩ := x.there a o e fun ps z => q ⟨ps, z⟩
  exact h.no e' n
theorem After.trans {φ φ1 φ2 : Fx} {H H1 H2 : Hp} (x : After φ H φ1 H1) (y : After φ1 H1 φ2 H2) : After φ H φ2 H2 := by
  obtain ⟨ψ1, e1, f1⟩ := x.grow
  obtain ⟨ψ2, e2, f2⟩ := y.grow
  refine ⟨⟨ψ1 ++ ψ2, by rw [e2, e1, List.append_assoc], fun a ha => ?_⟩, ⟨fun a h => y.hid.1 a (x.hid.1 a h), fun a h => ?_⟩, fun a o h nt n => y.keep a o (x.keep a o h nt n) nt fun q => ?_, fun a xs h => y.tups a xs (x.tups a xs h), fun a o u h => y.frzs a o u (x.frzs a o u h), fun a o h nt => ?_⟩
  · rcases List.mem_append.mp ha with h | h
    · exact f1 a h
    · exact x.nn (f2 a h)
  · rcases y.hid.2 a h with h | h
    · exact x.hid.2 a h
    · exact .inr (x.nn h)
  · rw [e1] at q
    rcases List.mem_append.mp q with q | q
    · exact n q
    · exact (f1 a q).no h nt
  · obtain ⟨o1, h1, n1⟩ := x.there a o h nt
    exact y.there a o1 h1 n1
theorem keep_upd {H : Hp} {p : Addr} {o : HO} (h : H p = none) : ∀ b u, H b = some u → upd H p o b = some u := fun b u e => by rw [upd_ne (ne_of_none e h)]; exact e
/-- a new object, no cell -/
theorem After.fresh {φ : Fx} {H : Hp} {p : Addr} {o : HO} (h : H p = none) : After φ H φ (upd H p o) :=
  ⟨⟨[], by simp, fun _ h => nomatch h⟩, ⟨fun _ h => h, fun _ h => .inl h⟩, fun a o' e _ _ => keep_upd h _ _ e, fun a xs e => keep_upd h _ _ e, fun a u xs e => keep_upd h _ _ e,
    fun a o' e n => ⟨o', keep_upd h _ _ e, n⟩⟩
/-- a new object that is a cell -/
theorem After.cell {φ : Fx} {H : Hp} {p : Addr} {o : HO} (h : H p = none) : After φ H ⟨φ.cs ++ [p], φ.hd⟩ (upd H p o) :=
  ⟨⟨[p], rfl, fun a q => by rw [List.mem_singleton.mp q]; exact .of h⟩, ⟨fun _ h => h, fun _ h => .inl h⟩, fun a o' e _ _ => keep_upd h _ _ e, fun a xs e => keep_upd h _ _ e, fun a u xs e => keep_upd h _ _ e,
    fun a o' e n => ⟨o', keep_upd h _ _ e, n⟩⟩
/-- a cell is written -/
theorem After.write {φ : Fx} {H : Hp} {p : Addr} {o : HO} (hp : p ∈ φ.cs) (h : ∃ o, H p = some o ∧ Cellish o) (ho : NoT o) : After φ H φ (upd H p o) := by
  obtain ⟨o0, e0, c0⟩ := h
  refine ⟨⟨[], by simp, fun _ h => nomatch h⟩, ⟨fun _ h => h, fun _ h => .inl h⟩, fun a o' e _ n => ?_, fun a xs e => ?_, fun a u xs e => ?_, fun a o' e nt => ?_⟩
  · rw [upd_ne (fun q => n (by rw [q]; exact hp))]; exact e
  · rw [upd_ne (fun q => by rw [q, e0] at e; cases e; rcases c0 with ⟨_, z⟩ | ⟨_, _, _, z⟩ <;> cases z)]; exact e
  · rw [upd_ne (fun q => by rw [q, e0] at e; cases e; rcases c0 with ⟨_, z⟩ | ⟨_, _, _, z⟩ <;> cases z)]; exact e
  · by_cases q : a = p
    · exact ⟨o, by rw [q, upd_same], ho⟩
    · exact ⟨o', by rw [upd_ne q]; exact e, nt⟩

theorem After.get {φ φ' : Fx} {H H' : Hp} (x : After φ H φ' H') {n : Nat} {a : Addr} (h : φ.cs[n]? = some a) : φ'.cs[n]? = some a := by
  obtain ⟨ψ, e, _⟩ := x.grow
  rw [e, List.getElem?_append_left (List.getElem?_eq_some_iff.mp h).1]
  exact h
theorem After.out {φ φ' : Fx} {H H' : Hp} (x : After φ H φ' H') {a : Addr} {o : HO} (n : φ.out a) (h : H a = some o) (nt : NoT o) : φ'.out a := by
  refine ⟨fun q => ?_, fun q => (x.hid.2 a q).elim n.2 fun z => z.no h nt⟩
  obtain ⟨ψ, e, f⟩ := x.grow
  rw [e] at q
  rcases List.mem_append.mp q with q | q
  · exact n.1 q
  · exact (f a q).no h nt
theorem SqT.mono {K : PySem.W.Frag} {φ φ' : Fx} {H H' : Hp} (x : After φ H φ' H') {a : Addr} {xs : List V} (h : SqT K H a xs) : SqT K H' a xs := by
  rcases h with (h | ⟨o, h⟩) | h
  · exact .inl (.inl (x.tups _ _ h))
  · exact .inl (.inr ⟨o, x.frzs _ _ _ h⟩)
  · exact .inr h

section
variable {Γ : Gm} {φ φ' : Fx} {H H' : Hp}
mutual
theorem Rep.mono (x : After φ H φ' H') : ∀ {v : V} {d : D}, Rep Γ φ H v d → Rep Γ φ' H' v d
  | _, _, .non => .non
  | _, _, .bl b => .bl b
  | _, _, .int i => .int i
  | _, _, .str t => .str t
  | _, _, .tup h r => .tup (SqT.mono x h) (Reps.mono x r)
  | _, _, .lst h n r => .lst (x.keep _ _ h not_lst n.1) (x.out n h not_lst) (Reps.mono x r)
  | _, _, .scr h => .scr (by
    rcases h with ⟨o, h⟩ | h
    · exact .inl ⟨o, x.frzs _ _ _ h⟩
    · exact .inr h)
  | _, _, .scrL h n => .scrL (x.keep _ _ h not_lst n.1) (x.out n h not_lst)
  | _, _, .ins a1 a2 a3 a4 r => .ins a1 (x.keep _ _ a2 not_ins a4.1) a3 (x.out a4 a2 not_ins) (Reps.mono x r)
  | _, _, .ref h => .ref (x.get h)
  | _, _, .dfn h => .dfn h
theorem Reps.mono (x : After φ H φ' H') : ∀ {v : List V} {d : List D}, Reps Γ φ H v d → Reps Γ φ' H' v d
  | _, _, .nil => .nil
  | _, _, .cons a b => .cons (Rep.mono x a) (Reps.mono x b)
end
end

section
variable {Γ : Gm} {φ φ' : Fx} {H H' : Hp}
theorem Reps.len : ∀ {vs : List V} {ds : List D}, Reps Γ φ H vs ds → vs.length = ds.length
  | _, _, .nil => rfl
  | _, _, .cons _ r => by simp [Reps.len r]
theorem Reps.get : ∀ {vs : List V} {ds : List D} {i : Nat} {d : D}, Reps Γ φ H vs ds → ds[i]? = some d → ∃ v, vs[i]? = some v ∧ Rep Γ φ H v d
  | _, _, _, _, .nil, h => by simp at h
  | _, _, 0, _, .cons a _, h => by simp at h; subst h; exact ⟨_, rfl, a⟩
  | _, _, i + 1, _, .cons _ r, h => by
    obtain ⟨v, h1, h2⟩ := Reps.get (i := i) r (by simpa using h)
    exact ⟨v, by simpa using h1, h2⟩
theorem Reps.append : ∀ {vs ws : List V} {ds es : List D}, Reps Γ φ H vs ds → Reps Γ φ H ws es → Reps Γ φ H (vs ++ ws) (ds ++ es)
  | _, _, _, _, .nil, r => r
  | _, _, _, _, .cons a b, r => .cons a (Reps.append b r)
theorem Reps.take : ∀ {vs : List V} {ds : List D} (n : Nat), Reps Γ φ H vs ds → Reps Γ φ H (vs.take n) (ds.take n)
  | _, _, 0, _ => by simpa using .nil
  | _, _, n + 1, .nil => by simpa using .nil
  | _, _, n + 1, .cons a r => by simpa using .cons a (Reps.take n r)
theorem Reps.drop : ∀ {vs : List V} {ds : List D} (n : Nat), Reps Γ φ H vs ds → Reps Γ φ H (vs.drop n) (ds.drop n)
  | _, _, 0, r => by simpa using r
  | _, _, n + 1, .nil => by simpa using .nil
  | _, _, n + 1, .cons a r => by simpa using Reps.drop n r
theorem Reps.set {v : V} {d : D} (h : Rep Γ φ H v d) : ∀ {vs : List V} {ds : List D} (n : Nat), Reps Γ φ H vs ds → Reps Γ φ H (vs.set n v) (ds.set n d)
  | _, _, _, .nil => by simpa using .nil
  | _, _, 0, .cons _ r => by simpa using .cons h r
  | _, _, n + 1, .cons a r => by simpa using .cons a (Reps.set h n r)
theorem Reps.erase : ∀ {vs : List V} {ds : List D} (n : Nat), Reps Γ φ H vs ds → Reps Γ φ H (vs.eraseIdx n) (ds.eraseIdx n)
  | _, _, _, .nil => by simpa using .nil
  | _, _, 0, .cons _ r => by simpa using r
  | _, _, n + 1, .cons a r => by simpa using .cons a (Reps.erase n r)
theorem Reps.dropLast {vs : List V} {ds : List D} (r : Reps Γ φ H vs ds) : Reps Γ φ H vs.dropLast ds.dropLast := by
  rw [List.dropLast_eq_take, List.dropLast_eq_take, r.len]
  exact r.take _
theorem Reps.cut {vs : List V} {ds : List D} (r : Reps Γ φ H vs ds) (lo hi : Option Int) : Reps Γ φ H (cutV vs lo hi) (cut ds lo hi) := by
  unfold cutV G.cut
  rw [r.len]
  exact (r.drop _).take _
theorem Reps.intsL : ∀ (ns : List Int), Reps Γ φ H (ns.map V.int) (ns.map D.int)
  | [] => .nil
  | n :: ns => .cons (.int n) (Reps.intsL ns)
theorem Reps.ne_nil {vs : List V} {ds : List D} (r : Reps Γ φ H vs ds) (h : ds ≠ []) : vs ≠ [] := fun q => by
  subst q
  cases r
  exact h rfl
theorem Reps.isEmpty {vs : List V} {ds : List D} (r : Reps Γ φ H vs ds) : vs.isEmpty = ds.isEmpty := by cases r <;> rfl
theorem cut_length {α : Type} (xs : List α) (lo hi : Option Int) : (cut xs lo hi).length ≤ xs.length := by
  unfold cut
  rw [List.length_take, List.length_drop]
  omega
theorem Reps.bools : ∀ {vs : List V} {ds : List D} {bs : List Bool}, Reps Γ φ H vs ds → G.bools ds = some bs → vs = bs.map V.bl
  | _, _, _, .nil, h => by simp [G.bools] at h; subst h; rfl
  | _, _, _, .cons (d := d) a r, h => by
    cases d <;> simp only [G.bools, Option.map_eq_some_iff, reduceCtorEq] at h
    obtain ⟨bs', h1, rfl⟩ := h
    cases a
    rw [Reps.bools r h1]
    rfl
theorem Reps.ints : ∀ {vs : List V} {ds : List D} {bs : List Int}, Reps Γ φ H vs ds → G.intsD ds = some bs → vs = bs.map V.int
  | _, _, _, .nil, h => by simp [G.intsD] at h; subst h; rfl
  | _, _, _, .cons (d := d) a r, h => by
    cases d <;> simp only [G.intsD, Option.map_eq_some_iff, reduceCtorEq] at h
    obtain ⟨bs', h1, rfl⟩ := h
    cases a
    rw [Reps.ints r h1]
    rfl
mutual
theorem Rep.dp : ∀ {v : V} {d : D} {p : PyData}, Rep Γ φ H v d → d.toP = some p → Dp Γ.K H v p
  | _, _, _, .non, h => by simp [D.toP] at h; subst h; exact .non
  | _, _, _, .bl b, h => by simp [D.toP] at h; subst h; exact .bl b
  | _, _, _, .int b, h => by simp [D.toP] at h; subst h; exact .int b
  | _, _, _, .str b, h => by simp [D.toP] at h; subst h; exact .str _
  | _, _, _, .tup s r, h => by
    simp only [D.toP, Option.map_eq_some_iff] at h
    obtain ⟨ps, h1, rfl⟩ := h
    exact .tup s (Reps.dp r h1)
  | _, _, _, .lst s n r, h => by
    simp only [D.toP, Option.map_eq_some_iff] at h
    obtain ⟨ps, h1, rfl⟩ := h
    exact .lst (SqL.of s) (Reps.dp r h1)
  | _, _, _, .scr _, h => by simp [D.toP] at h
  | _, _, _, .scrL _ _, h => by simp [D.toP] at h
  | _, _, _, .ins .., h => by simp [D.toP] at h
  | _, _, _, .ref _, h => by simp [D.toP] at h
  | _, _, _, .dfn _, h => by simp [D.toP] at h
theorem Reps.dp : ∀ {v : List V} {d : List D} {p : List PyData}, Reps Γ φ H v d → D.toPs d = some p → DpAll Γ.K H v p
  | _, _, _, .nil, h => by simp [D.toPs] at h; subst h; exact .nil
  | _, d :: ds, _, .cons a b, h => by
    simp only [D.toPs] at h
    cases e1 : d.toP with
    | none => simp [e1] at h
    | some q =>
      cases e2 : D.toPs ds with
      | none => simp [e1, e2] at h
      | some qs =>
        simp [e1, e2] at h
        subst h
        exact .cons (Rep.dp a e1) (Reps.dp b e2)
end

/-! ### the store -/
theorem CellRep.mono {a : Addr} {c : Cell} (x : After φ H φ' H') (h : CellRep Γ φ H a c) (e : H' a = H a) : CellRep Γ φ' H' a c := by
  cases c with
  | lst ds =>
    obtain ⟨xs, h1, r⟩ := h
    exact ⟨xs, e.trans h1, r.mono x⟩
  | ins c ds =>
    obtain ⟨C, fn, dx, xs, h0, h1, l, r⟩ := h
    exact ⟨C, fn, dx, xs, h0, e.trans h1, l, r.mono x⟩
theorem CellRep.there {a : Addr} {c : Cell} (h : CellRep Γ φ H a c) : ∃ o, H a = some o ∧ Cellish o := by
  cases c with
  | lst ds =>
    obtain ⟨xs, h1, r⟩ := h
    exact ⟨_, h1, .l⟩
  | ins c ds =>
    obtain ⟨C, fn, dx, xs, h0, h1, l, r⟩ := h
    exact ⟨_, h1, .i⟩
theorem Rel.at_ {s : Stt} (r : Rel Γ φ H s) {n : Nat} {c : Cell} (h : s[n]? = some c) : ∃ a, φ.cs[n]? = some a ∧ CellRep Γ φ H a c := by
  have hn := (List.getElem?_eq_some_iff.mp h).1
  have : n < φ.cs.length := by rw [r.len]; exact hn
  exact ⟨φ.cs[n], List.getElem?_eq_getElem this, r.cell n _ c (List.getElem?_eq_getElem this) h⟩
theorem Rel.there {s : Stt} (r : Rel Γ φ H s) {n : Nat} {a : Addr} (h : φ.cs[n]? = some a) : ∃ c, s[n]? = some c ∧ CellRep Γ φ H a c := by
  have hn := (List.getElem?_eq_some_iff.mp h).1
  have : n < s.length := by rw [← r.len]; exact hn
  exact ⟨s[n], List.getElem?_eq_getElem this, r.cell n _ _ h (List.getElem?_eq_getElem this)⟩
theorem Rel.fresh {s : Stt} {p : Addr} {o : HO} (r : Rel Γ φ H s) (h : H p = none) : Rel Γ φ (upd H p o) s :=
  ⟨r.len, r.nd, r.dis, fun a ha => let ⟨o, e, n⟩ := r.hid a ha; (After.fresh (φ := φ) h).there a o e n, fun n a c h1 h2 => by
    have q := r.cell n a c h1 h2
    obtain ⟨o', e, _⟩ := q.there
    exact q.mono (After.fresh h) (by rw [upd_ne (ne_of_none e h)]), r.tab.ext (keep_upd h)⟩
theorem Rel.push {s : Stt} {p : Addr} {xs : List V} {ds : List D} (r : Rel Γ φ H s) (h : H p = none) (q : Reps Γ φ H xs ds) : Rel Γ ⟨φ.cs ++ [p], φ.hd⟩ (upd H p (.lst xs)) (s ++ [.lst ds]) := by
  refine ⟨by simp [r.len], ?_, fun a ha hb => ?_, fun a ha => let ⟨o, e, n⟩ := r.hid a ha; (After.fresh (φ := φ) h).there a o e n, fun n a c h1 h2 => ?_, r.tab.ext (keep_upd h)⟩
  · refine List.nodup_append.mpr ⟨r.nd, by simp, fun a ha b hb e => ?_⟩
    rw [List.mem_singleton.mp hb] at e
    obtain ⟨n, hn⟩ := List.getElem?_of_mem ha
    obtain ⟨c, _, hc⟩ := r.there hn
    obtain ⟨o, e', _⟩ := hc.there
    rw [e, h] at e'
    cases e'
  · rcases List.mem_append.mp ha with ha | ha
    · exact r.dis a ha hb
    · rw [List.mem_singleton.mp ha] at hb
      obtain ⟨o, e, _⟩ := r.hid p hb
      rw [h] at e
      cases e
  · have A : After φ H ⟨φ.cs ++ [p], φ.hd⟩ (upd H p (.lst xs)) := After.cell h
    by_cases hn : n < φ.cs.length
    · rw [List.getElem?_append_left hn] at h1
      rw [List.getElem?_append_left (by rw [← r.len]; exact hn)] at h2
      have q := r.cell n a c h1 h2
      obtain ⟨o', e, _⟩ := q.there
      exact q.mono A (by rw [upd_ne (ne_of_none e h)])
    · have l1 := (List.getElem?_eq_some_iff.mp h1).1
      have e : n = φ.cs.length := by simp at l1; omega
      subst e
      have e1 : a = p := by simpa using h1.symm
      have e2 : c = .lst ds := by rw [r.len] at h2; simpa using h2.symm
      subst e1 e2
      exact ⟨xs, upd_same, q.mono A⟩
theorem nodup_ixN {l : List Addr} (hN : l.Nodup) {i j : Nat} {x : Addr} (a : l[i]? = some x) (b : l[j]? = some x) : i = j := by
  obtain ⟨h1, e1⟩ := List.getElem?_eq_some_iff.mp a
  obtain ⟨h2, e2⟩ := List.getElem?_eq_some_iff.mp b
  exact (List.getElem_inj hN).mp (e1.trans e2.symm)
theorem Rel.write {s : Stt} {p : Addr} {n : Nat} {xs : List V} {ds : List D} (r : Rel Γ φ H s) (h : φ.cs[n]? = some p) (q : Reps Γ φ H xs ds) : Rel Γ φ (upd H p (.lst xs)) (s.set n (.lst ds)) := by
  obtain ⟨c0, hc0, hr0⟩ := r.there h
  have A : After φ H φ (upd H p (.lst xs)) := After.write (List.mem_of_getElem? h) hr0.there not_lst
  refine ⟨by simp [r.len], r.nd, r.dis, fun a ha => let ⟨o, e, n⟩ := r.hid a ha; A.there a o e n, fun m a c h1 h2 => ?_, let ⟨_, e0, c0⟩ := hr0.there; tabs_write e0 c0 r.tab⟩
  by_cases e : m = n
  · subst e
    rw [h] at h1
    cases h1
    rw [List.getElem?_set_self (List.getElem?_eq_some_iff.mp hc0).1] at h2
    cases h2
    exact ⟨xs, upd_same, q.mono A⟩
  · rw [List.getElem?_set_ne (Ne.symm e)] at h2
    refine (r.cell m a c h1 h2).mono A (upd_ne fun z => e ?_)
    subst z
    exact nodup_ixN r.nd h1 h

/-! ### a list that is being made -/
def Fx.hide (φ : Fx) (p : Addr) : Fx := ⟨φ.cs, p :: φ.hd⟩
theorem After.hide {p : Addr} {o : HO} (h : H p = none) : After φ H (φ.hide p) (upd H p o) :=
  ⟨⟨[], by simp [Fx.hide], fun _ h => nomatch h⟩, ⟨fun a q => List.mem_cons_of_mem _ q, fun a q => (List.mem_cons.mp q).elim (fun e => .inr (by rw [e]; exact .of h)) .inl⟩, fun a o' e _ _ => keep_upd h _ _ e, fun a xs e => keep_upd h _ _ e, fun a u xs e => keep_upd h _ _ e,
    fun a o' e n => ⟨o', keep_upd h _ _ e, n⟩⟩
theorem Rel.hide {s : Stt} {p : Addr} {o : HO} (r : Rel Γ φ H s) (h : H p = none) (ho : NoT o) : Rel Γ (φ.hide p) (upd H p o) s :=
  ⟨r.len, r.nd, fun a ha hb => by
    rcases List.mem_cons.mp hb with e | e
    · obtain ⟨n, hn⟩ := List.getElem?_of_mem ha
      obtain ⟨c, _, hc⟩ := r.there hn
      obtain ⟨o, e', _⟩ := hc.there
      rw [e, h] at e'
      cases e'
    · exact r.dis a ha e, fun a ha => by
    rcases List.mem_cons.mp ha with e | e
    · exact ⟨o, by rw [e, upd_same], ho⟩
    · obtain ⟨o', q, n⟩ := r.hid a e
      exact ⟨o', keep_upd h _ _ q, n⟩, fun n a c h1 h2 => by
    have q := r.cell n a c h1 h2
    obtain ⟨o', e, _⟩ := q.there
    exact q.mono (After.hide h) (by rw [upd_ne (ne_of_none e h)]), r.tab.ext (keep_upd h)⟩
/-! the hidden list is written -/
mutual
theorem Rep.hidW {p : Addr} {xs0 : List V} {o : HO} (hp : p ∈ φ.hd) (h0 : H p = some (.lst xs0)) : ∀ {v : V} {d : D}, Rep Γ φ H v d → Rep Γ φ (upd H p o) v d
  | _, _, .non => .non
  | _, _, .bl b => .bl b
  | _, _, .int i => .int i
  | _, _, .str t => .str t
  | _, _, .tup h r => .tup (by
    rcases h with (h | ⟨o, h⟩) | h
    · exact .inl (.inl (by rw [upd_ne (ne_of h h0 (fun z => nomatch z))]; exact h))
    · exact .inl (.inr ⟨o, by rw [upd_ne (ne_of h h0 (fun z => nomatch z))]; exact h⟩)
    · exact .inr h) (Reps.hidW hp h0 r)
  | _, _, .lst h n r => .lst (by rw [upd_ne (fun z => n.2 (by rw [z]; exact hp))]; exact h) n (Reps.hidW hp h0 r)
  | _, _, .scr h => .scr (by
    rcases h with ⟨o, h⟩ | h
    · exact .inl ⟨o, by rw [upd_ne (ne_of h h0 (fun z => nomatch z))]; exact h⟩
    · exact .inr h)
  | _, _, .scrL h n => .scrL (by rw [upd_ne (fun z => n.2 (by rw [z]; exact hp))]; exact h) n
  | _, _, .ins a1 a2 a3 a4 r => .ins a1 (by rw [upd_ne (fun z => a4.2 (by rw [z]; exact hp))]; exact a2) a3 a4 (Reps.hidW hp h0 r)
  | _, _, .ref h => .ref h
  | _, _, .dfn h => .dfn h
theorem Reps.hidW {p : Addr} {xs0 : List V} {o : HO} (hp : p ∈ φ.hd) (h0 : H p = some (.lst xs0)) : ∀ {v : List V} {d : List D}, Reps Γ φ H v d → Reps Γ φ (upd H p o) v d
  | _, _, .nil => .nil
  | _, _, .cons a b => .cons (Rep.hidW hp h0 a) (Reps.hidW hp h0 b)
end
mutual
theorem Rep.less {φ φ' : Fx} (x : ∀ (n : Nat) a, φ.cs[n]? = some a → φ'.cs[n]? = some a) (y : ∀ a, φ.out a → φ'.out a) : ∀ {v : V} {d : D}, Rep Γ φ H v d → Rep Γ φ' H v d
  | _, _, .non => .non
  | _, _, .bl b => .bl b
  | _, _, .int i => .int i
  | _, _, .str t => .str t
  | _, _, .tup h r => .tup h (Reps.less x y r)
  | _, _, .lst h n r => .lst h (y _ n) (Reps.less x y r)
  | _, _, .scr h => .scr h
  | _, _, .scrL h n => .scrL h (y _ n)
  | _, _, .ins a1 a2 a3 a4 r => .ins a1 a2 a3 (y _ a4) (Reps.less x y r)
  | _, _, .ref h => .ref (x _ _ h)
  | _, _, .dfn h => .dfn h
theorem Reps.less {φ φ' : Fx} (x : ∀ (n : Nat) a, φ.cs[n]? = some a → φ'.cs[n]? = some a) (y : ∀ a, φ.out a → φ'.out a) : ∀ {v : List V} {d : List D}, Reps Γ φ H v d → Reps Γ φ' H v d
  | _, _, .nil => .nil
  | _, _, .cons a b => .cons (Rep.less x y a) (Reps.less x y b)
end
theorem Rel.hidW {s : Stt} {p : Addr} {xs0 xs1 : List V} (r : Rel Γ φ H s) (hp : p ∈ φ.hd) (h0 : H p = some (.lst xs0)) (hc : p ∉ φ.cs) : Rel Γ φ (upd H p (.lst xs1)) s := by
  refine ⟨r.len, r.nd, r.dis, fun a ha => ?_, fun n a c h1 h2 => ?_, tabs_write h0 .l r.tab⟩
  · by_cases e : a = p
    · exact ⟨_, by rw [e, upd_same], not_lst⟩
    · obtain ⟨o, q, n⟩ := r.hid a ha
      exact ⟨o, by rw [upd_ne e]; exact q, n⟩
  · have ne : a ≠ p := fun e => hc (by rw [← e]; exact List.mem_of_getElem? h1)
    have q := r.cell n a c h1 h2
    cases c with
    | lst ds =>
      obtain ⟨xs, e, r'⟩ := q
      exact ⟨xs, by rw [upd_ne ne]; exact e, r'.hidW hp h0⟩
    | ins c ds =>
      obtain ⟨C, fn, dx, xs, h0', e, l, r'⟩ := q
      exact ⟨C, fn, dx, xs, h0', by rw [upd_ne ne]; exact e, l, r'.hidW hp h0⟩
theorem Rel.show {s : Stt} {hd : List Addr} (r : Rel Γ φ H s) (h : ∀ a ∈ hd, a ∈ φ.hd) : Rel Γ ⟨φ.cs, hd⟩ H s :=
  ⟨r.len, r.nd, fun a ha hb => r.dis a ha (h a hb), fun a ha => r.hid a (h a ha), fun n a c h1 h2 => by
    have q := r.cell n a c h1 h2
    have L : ∀ a, φ.out a → (⟨φ.cs, hd⟩ : Fx).out a := fun a ⟨x, y⟩ => ⟨x, fun z => y (h a z)⟩
    cases c with
    | lst ds =>
      obtain ⟨xs, e, r'⟩ := q
      exact ⟨xs, e, Reps.less (φ := φ) (φ' := ⟨φ.cs, hd⟩) (fun _ _ h => h) L r'⟩
    | ins c ds =>
      obtain ⟨C, fn, dx, xs, h0', e, l, r'⟩ := q
      exact ⟨C, fn, dx, xs, h0', e, l, Reps.less (φ := φ) (φ' := ⟨φ.cs, hd⟩) (fun _ _ h => h) L r'⟩, r.tab⟩

/-- the tables grow -/
theorem After.extN (e : LamX.ExtN H H') : After φ H φ H' :=
  ⟨⟨[], by simp, fun _ h => nomatch h⟩, ⟨fun _ h => h, fun _ h => .inl h⟩, fun a o h n _ => e a o h n, fun a xs h => e a _ h (fun _ z => nomatch z), fun a o u h => e a _ h (fun _ z => nomatch z), fun a o h n => ⟨o, e a o h n, n⟩⟩
theorem Rel.extN {s : Stt} (r : Rel Γ φ H s) (e : LamX.ExtN H H') (t : LamX.Tabs Γ.T H') : Rel Γ φ H' s :=
  ⟨r.len, r.nd, r.dis, fun a ha => let ⟨o, q, n⟩ := r.hid a ha; ⟨o, e a o q n, n⟩, fun n a c h1 h2 => by
    have q := r.cell n a c h1 h2
    obtain ⟨o', q', c'⟩ := q.there
    exact q.mono (After.extN e) (by rw [e a _ q' c'.nt, q']), t⟩
/-! ### the frame's names -/
structure ER (Γ : Gm) (φ : Fx) (H : Hp) (σ : St) (ρ : G.Env) : Prop where
  len : σ.length = ρ.length
  get : ∀ (i : Nat) d, ρ[i]? = some (some d) → ∃ v, σ[i]? = some (some v) ∧ Rep Γ φ H v d
theorem ER.mono {σ : St} {ρ : G.Env} (x : After φ H φ' H') (r : ER Γ φ H σ ρ) : ER Γ φ' H' σ ρ :=
  ⟨r.len, fun i d h => let ⟨v, h1, h2⟩ := r.get i d h; ⟨v, h1, h2.mono x⟩⟩
theorem ER.set {σ : St} {ρ : G.Env} {v : V} {d : D} (r : ER Γ φ H σ ρ) (h : Rep Γ φ H v d) (i : Nat) : ER Γ φ H (σ.set i (some v)) (ρ.set i (some d)) :=
  ⟨by simp [r.len], fun j e h1 => by
    by_cases q : j = i
    · subst q
      by_cases l : j < ρ.length
      · rw [List.getElem?_set_self l] at h1
        cases h1
        exact ⟨v, List.getElem?_set_self (by rw [r.len]; exact l), h⟩
      · rw [List.getElem?_eq_none (by simpa using l)] at h1
        cases h1
    · rw [List.getElem?_set_ne (Ne.symm q)] at h1 ⊢
      exact r.get j e h1⟩
theorem ER.clear {σ : St} {ρ : G.Env} (r : ER Γ φ H σ ρ) (i : Nat) : ER Γ φ H (σ.set i none) (ρ.set i none) :=
  ⟨by simp [r.len], fun j e h1 => by
    by_cases q : j = i
    · subst q
      by_cases l : j < ρ.length
      · rw [List.getElem?_set_self l] at h1
        cases h1
      · rw [List.getElem?_eq_none (by simpa using l)] at h1
        cases h1
    · rw [List.getElem?_set_ne (Ne.symm q)] at h1 ⊢
      exact r.get j e h1⟩
theorem ER.wipe {σ : St} {ρ : G.Env} (r : ER Γ φ H σ ρ) : ∀ vs : List Nat, ER Γ φ H (L2.wipe σ vs) (wipeE ρ vs)
  | [] => r
  | v :: vs => (ER.wipe r vs).clear v
theorem ER.var {σ : St} {ρ : G.Env} (r : ER Γ φ H σ ρ) {i : Nat} {d : D} (h : ρ[i]?.join = some d) : ∃ v, σ[i]? = some (some v) ∧ Rep Γ φ H v d := r.get i d (by
  cases q : ρ[i]? with
  | none => rw [q] at h; cases h
  | some o => rw [q] at h; exact congrArg some h)

/-! ### what an end asks -/
def XR (Γ : Gm) (φ : Fx) (H : Hp) (cls : Value) (dd : Option Addr) (c : Nat) (fs : List D) : Prop :=
  ∃ C fn d l, Γ.xcl c = some (C, fn) ∧ cls = .ref C ∧ dd = some d ∧ H d = some (.xd l) ∧ fn.length = fs.length ∧ ∀ (i : Nat) f e, fn[i]? = some f → fs[i]? = some e → ∃ v, l.lookup f = some v ∧ Rep Γ φ H v e
def Go (Γ : Gm) (W : WX) (φ : Fx) (H : Hp) (σ : St) {α : Type} (r : R α) (K : α → Stt → Fx → Hp → Prop) : Prop := match r with
  | .ok a s => ∀ φ' H', After φ H φ' H' → Rel Γ φ' H' s → K a s φ' H'
  | .exc c fs s => ∀ φ' H' cls dd, After φ H φ' H' → Rel Γ φ' H' s → XR Γ φ' H' cls dd c fs → W cls dd σ H'
  | .stuck => False
theorem Go.imp {W : WX} {σ : St} {α : Type} {r : R α} {K K' : α → Stt → Fx → Hp → Prop} (h : Go Γ W φ H σ r K) (f : ∀ a s φ' H', After φ H φ' H' → Rel Γ φ' H' s → K a s φ' H' → K' a s φ' H') : Go Γ W φ H σ r K' := by
  cases r with
  | ok a s => exact fun φ' H' x y => f a s φ' H' x y (h φ' H' x y)
  | exc c fs s => exact h
  | stuck => exact h
theorem Go.bind {W : WX} {σ : St} {α β : Type} {r : R α} {f : α → Stt → R β} {K : β → Stt → Fx → Hp → Prop} (h : Go Γ W φ H σ (r.bind f) K) : Go Γ W φ H σ r fun a s φ1 H1 => Go Γ W φ1 H1 σ (f a s) K := by
  cases r with
  | ok a s =>
    intro φ1 H1 x y
    have h : Go Γ W φ H σ (f a s) K := h
    cases e : f a s with
    | ok b s2 => rw [e] at h; exact fun φ2 H2 x2 y2 => h φ2 H2 (x.trans x2) y2
    | exc c fs s2 => rw [e] at h; exact fun φ2 H2 cls dd x2 y2 q => h φ2 H2 cls dd (x.trans x2) y2 q
    | stuck => rw [e] at h; exact h
  | exc c fs s => exact h
  | stuck => exact h
def GoS (Γ : Gm) (W : WX) (φ : Fx) (H : Hp) (r : RS) (D : Ends) : Prop := match r with
  | .nx ρ s => ∀ φ' H' σ', After φ H φ' H' → Rel Γ φ' H' s → ER Γ φ' H' σ' ρ → D.nx σ' H'
  | .bk ρ s => ∀ φ' H' σ', After φ H φ' H' → Rel Γ φ' H' s → ER Γ φ' H' σ' ρ → D.bk σ' H'
  | .ct ρ s => ∀ φ' H' σ', After φ H φ' H' → Rel Γ φ' H' s → ER Γ φ' H' σ' ρ → D.ct σ' H'
  | .rt d s => ∀ φ' H' v, After φ H φ' H' → Rel Γ φ' H' s → Rep Γ φ' H' v d → D.rt v H'
  | .exc c fs ρ s => ∀ φ' H' σ' cls dd, After φ H φ' H' → Rel Γ φ' H' s → ER Γ φ' H' σ' ρ → XR Γ φ' H' cls dd c fs → W cls dd σ' H'
  | .stuck => False
/-- an earlier ground -/
theorem GoS.from {W : WX} {r : RS} {D : Ends} (x : After φ H φ' H') (h : GoS Γ W φ H r D) : GoS Γ W φ' H' r D := by
  cases r with
  | nx ρ s => exact fun φ2 H2 σ2 x2 => h φ2 H2 σ2 (x.trans x2)
  | bk ρ s => exact fun φ2 H2 σ2 x2 => h φ2 H2 σ2 (x.trans x2)
  | ct ρ s => exact fun φ2 H2 σ2 x2 => h φ2 H2 σ2 (x.trans x2)
  | rt d s => exact fun φ2 H2 σ2 x2 => h φ2 H2 σ2 (x.trans x2)
  | exc c fs ρ s => exact fun φ2 H2 σ2 cls dd x2 => h φ2 H2 σ2 cls dd (x.trans x2)
  | stuck => exact h
theorem Go.from {W : WX} {σ : St} {α : Type} {r : R α} {K : α → Stt → Fx → Hp → Prop} (x : After φ H φ' H') (h : Go Γ W φ H σ r K) : Go Γ W φ' H' σ r K := by
  cases r with
  | ok a s => exact fun φ2 H2 x2 => h φ2 H2 (x.trans x2)
  | exc c fs s => exact fun φ2 H2 cls dd x2 => h φ2 H2 cls dd (x.trans x2)
  | stuck => exact h
theorem GoS.st {W : WX} {σ : St} {ρ : G.Env} {α : Type} {r : R α} {f : α → Stt → RS} {D : Ends} (e : ER Γ φ H σ ρ) (h : GoS Γ W φ H (r.st ρ f) D) : Go Γ W φ H σ r fun a s φ1 H1 => GoS Γ W φ1 H1 (f a s) D := by
  cases r with
  | ok a s => exact fun φ1 H1 x y => GoS.from x h
  | exc c fs s => exact fun φ1 H1 cls dd x y q => h φ1 H1 σ cls dd x y (e.mono x) q
  | stuck => exact h
theorem GoS.seq {W : WX} {r : RS} {f : G.Env → Stt → RS} {D : Ends} (h : GoS Γ W φ H (r.seq f) D) : GoS Γ W φ H r { D with nx := fun σ1 H1 => ∃ ρ s φ1, ER Γ φ1 H1 σ1 ρ ∧ Rel Γ φ1 H1 s ∧ GoS Γ W φ1 H1 (f ρ s) D } := by
  cases r with
  | nx ρ s => exact fun φ1 H1 σ1 x y e => ⟨ρ, s, φ1, e, y, GoS.from x h⟩
  | bk ρ s => exact h
  | ct ρ s => exact h
  | rt d s => exact h
  | exc c fs ρ s => exact h
  | stuck => exact h

/-- the readings -/
def dE (Γ : Gm) (W : WX) (g : G.Env → Stt → R D) : TE := fun σ H Q => ∃ φ ρ s, ER Γ φ H σ ρ ∧ Rel Γ φ H s ∧ Go Γ W φ H σ (g ρ s) fun d s' φ' H' => ∀ v, Rep Γ φ' H' v d → Q v H'
def dT (Γ : Gm) (W : WX) (g : G.Env → Stt → R Bool) : TT := fun σ H Q => ∃ φ ρ s, ER Γ φ H σ ρ ∧ Rel Γ φ H s ∧ Go Γ W φ H σ (g ρ s) fun k s' φ' H' => Q k H'
def dA (Γ : Gm) (W : WX) (g : G.Env → Stt → R (List D)) : TA := fun σ H Q => ∃ φ ρ s, ER Γ φ H σ ρ ∧ Rel Γ φ H s ∧ Go Γ W φ H σ (g ρ s) fun ds s' φ' H' => ∀ vs, Reps Γ φ' H' vs ds → Q vs H'
def dS (Γ : Gm) (W : WX) (g : G.Env → Stt → RS) : TS := fun D σ H => ∃ φ ρ s, ER Γ φ H σ ρ ∧ Rel Γ φ H s ∧ GoS Γ W φ H (g ρ s) D
end
section
variable {X : Cx} {e : Expr} {es : List Expr} {st : Stmt} {sts : List Stmt}
theorem _root_.L2.PE.mono {t t' : TE} (h : PE X e t) (f : ∀ σ H Q, t' σ H Q → t σ H Q) : PE X e t' := ⟨fun pins s σ H Q I q => h.run pins s σ H Q I (f _ _ _ q)⟩
theorem _root_.L2.PT.mono {t t' : TT} (h : PT X e t) (f : ∀ σ H Q, t' σ H Q → t σ H Q) : PT X e t' := ⟨fun pins s σ H Q I q => h.run pins s σ H Q I (f _ _ _ q)⟩
theorem _root_.L2.PW.mono {t t' : TT} (h : PW X e t) (f : ∀ σ H Q, t' σ H Q → t σ H Q) : PW X e t' := ⟨fun wh pins s σ H Q I q => h.run wh pins s σ H Q I (f _ _ _ q)⟩
theorem _root_.L2.PA.mono {t t' : TA} (h : PA X es t) (f : ∀ σ H Q, t' σ H Q → t σ H Q) : PA X es t' := ⟨fun pos pins s σ H Q I q => h.run pos pins s σ H Q I (f _ _ _ q)⟩
theorem _root_.L2.PS.mono {t t' : TS} (h : PS X st t) (f : ∀ D σ H, t' D σ H → t D σ H) : PS X st t' := ⟨fun pins s σ H D I q => h.run pins s σ H D I (f _ _ _ q)⟩
theorem _root_.L2.PSs.mono {t t' : TS} (h : PSs X sts t) (f : ∀ D σ H, t' D σ H → t D σ H) : PSs X sts t' := ⟨fun pins s σ H D I q => h.run pins s σ H D I (f _ _ _ q)⟩
theorem _root_.L2.PI.mono {tg it : Expr} {t t' : TI} (h : PI X tg it t) (f : ∀ σ H R, t' σ H R → t σ H R) : PI X tg it t' := ⟨fun pins s σ H R I q => h.run pins s σ H R I (f _ _ _ q)⟩
theorem _root_.L2.PI.or {tg it : Expr} {t t' : TI} (h : PI X tg it t) (h' : PI X tg it t') : PI X tg it (fun σ H R => t σ H R ∨ t' σ H R) := ⟨fun pins s σ H R I q => q.elim (h.run pins s σ H R I) (h'.run pins s σ H R I)⟩
end
end G

set_option Elab.async false
set_option linter.all false
set_option maxRecDepth 100000
/-! The operations on values: the rules of the hand layer answer as the evaluator's functions do. -/
namespace G
open PySem L2

theorem tS_inj {s t : T} (h : tS s = tS t) : s = t := congrArg (fun z : Str => z.cps.toList) h
theorem tS_app (s t : T) : tS (s ++ t) = tS s ++ tS t := by
  show (⟨(s ++ t).toArray⟩ : Str) = ⟨s.toArray ++ t.toArray⟩
  rw [List.append_toArray]
theorem tS_len (s : T) : (tS s).length = s.length := by simp [tS, Str.length]

section
variable {Γ : Gm} {φ φ' : Fx} {H H' : Hp} {s : Stt} {X : Cx}

/-- what follows a value: at this heap, or at one with a new object -/
abbrev Ko (Γ : Gm) (φ : Fx) (H : Hp) (s : Stt) (d : D) (Q : VK) : Prop := ∀ φ' H', After φ H φ' H' → Rel Γ φ' H' s → ∀ v, Rep Γ φ' H' v d → Q v H'
theorem Ko.here {d : D} {Q : VK} {v : V} (k : Ko Γ φ H s d Q) (r : Rel Γ φ H s) (h : Rep Γ φ H v d) : Q v H := k φ H (.refl _ _) r v h
theorem Ko.tup {ds : List D} {Q : VK} {p : Addr} {xs : List V} (k : Ko Γ φ H s (.tup ds) Q) (r : Rel Γ φ H s) (h : Reps Γ φ H xs ds) (hp : H p = none) : Q (.ref p) (upd H p (.tup xs)) :=
  k φ _ (.fresh hp) (r.fresh hp) _ (.tup (SqT.of upd_same) (h.mono (.fresh hp)))
theorem Rel.out (r : Rel Γ φ H s) {p : Addr} (hp : H p = none) : φ.out p := by
  refine ⟨fun q => ?_, fun q => ?_⟩
  · obtain ⟨n, hn⟩ := List.getElem?_of_mem q
    obtain ⟨c, _, hc⟩ := r.there hn
    obtain ⟨o, e, _⟩ := hc.there
    rw [hp] at e
    cases e
  · obtain ⟨o, e, _⟩ := r.hid p q
    rw [hp] at e
    cases e
theorem Ko.lst {ds : List D} {Q : VK} {p : Addr} {xs : List V} (k : Ko Γ φ H s (.lst ds) Q) (r : Rel Γ φ H s) (h : Reps Γ φ H xs ds) (hp : H p = none) : Q (.ref p) (upd H p (.lst xs)) := by
  exact k φ _ (.fresh hp) (r.fresh hp) _ (.lst upd_same (r.out hp) (h.mono (.fresh hp)))

/-! ### operators -/
def Bin.op : Bin → Operator
  | .add => .Add | .sub => .Sub | .mul => .Mult | .fdiv => .FloorDiv | .mod => .Mod | .pow => .Pow
/-- () + t is t -/
theorem tuple_addW0 (l b : Addr) (items items2 : Array Value) (n n2 : Nat) (dd dd2 : Option Addr) (sl sl2 : Array (Option Value)) (hc0 : items.isEmpty = true) :
    Meets (Builtin.«tuple.__add__» ⟨[.ref l, .ref b], []⟩) (fun _ R s => s.heap.get? l = some { cls := .type "tuple", dict := dd, data := .seq items n, slots := sl } ∧ s.heap.get? b = some { cls := .type "tuple", dict := dd2, data := .seq items2 n2, slots := sl2 } ∧ R (.ok (.ret (Value.ref b))) { s with heap := s.heap, toks := s.toks }) :=
  .of_wp fun prog w A R s h => by obtain ⟨hp, g, d, tk, os⟩ := s; obtain ⟨hl, hb, h⟩ := h; have f1 := AutoSeq1.idx_int; have f2 := AutoSeq1.sub_tuple_tuple; have f3 := AutoSeq1.sub_list_list; have f4 := AutoSeq1.sub_tuple_list; have f5 := AutoSeq1.sub_list_tuple; wp_walk using wpAny_loadPart' hl, wpAny_loadPart' hb; exact ⟨_, rfl, h⟩
def rCatT0 (K : PySem.W.Frag) : R2 := fun x y H Q => ∃ a b ys, x = .ref a ∧ y = .ref b ∧ SqT K H a [] ∧ SqT K H b ys ∧ Q (.ref b) H
theorem op_catT0 : OpR X (binaryOp .Add) (rCatT0 X.K) := by
  intro pins s σ H x y v u Q I rx ry h
  obtain ⟨a, b, ys, rfl, rfl, ha, hb, q⟩ := h
  cases rx
  cases ry
  obtain ⟨its, r1, p1, _⟩ := I.tuple ha
  obtain ⟨its2, r2, p2, _⟩ := I.tuple hb
  cases r1
  obtain ⟨⟨cls, dd, data, sl⟩, ho, hc, n, hd⟩ := id p1
  obtain ⟨⟨cls2, dd2, data2, sl2⟩, ho2, hc2, n2, hd2⟩ := id p2
  simp only at hc hd hc2 hd2
  subst hc hd hc2 hd2
  exact PySem.concat_meets ⟨_, ho, rfl⟩ ⟨_, ho2, rfl⟩ PySem.noFill_tuple_add PySem.seq_tuple_add PySem.F.slot_tuple_add PySem.F.entry_tuple_add (PySem.F.args_tuple_add_2 _ _)
      (tuple_addW0 a b #[] its2.toArray n n2 dd dd2 sl sl2 rfl) ⟨ho, ho2, ⟨.ref b, H, I, rfl, q⟩⟩
/-- a text several times -/
def rRepS : R2 := fun x y H Q => ∃ (t : T) (n : Int), x = .str (tS t) ∧ y = .int n ∧ 2 ≤ n ∧ n < 2 ^ 62 ∧ t.length ≠ 0 ∧ t.length * n.toNat ≤ sizeLine ∧ Q (.str (tS (List.replicate n.toNat t).flatten)) H
theorem fold_rep (t : T) : ∀ (m : Nat) (acc : T), (List.replicate m t.toArray).foldl (fun x1 x2 => x1 ++ x2) acc.toArray = (acc ++ (List.replicate m t).flatten).toArray
  | 0, acc => by simp
  | m + 1, acc => by
    rw [List.replicate_succ, List.replicate_succ, List.foldl_cons, List.flatten_cons]
    have : acc.toArray ++ t.toArray = (acc ++ t).toArray := by simp
    rw [this, fold_rep t m (acc ++ t), List.append_assoc]
theorem op_repS : OpR X (binaryOp .Mult) rRepS := by
  intro pins s σ H x y v u Q I rx ry h
  obtain ⟨t, n, rfl, rfl, h1, h2, h3, h4, q⟩ := h
  obtain ⟨tk, rfl⟩ := rx
  obtain ⟨tk2, rfl⟩ := ry
  have sl : (sizeLine : Nat) = 16777216 := sizeLine_eq
  have hlen : (tS t).length = t.length := tS_len t
  refine PySem.P.mul_str ?_ (fun _ _ => ?_) (fun _ _ => ?_) ?_
  · have a1 : ¬ n < -(2 ^ 63 : Int) := by omega
    have a2 : ¬ n ≥ 2 ^ 63 := by omega
    rw [decide_eq_false a1, decide_eq_false a2]
    rfl
  · rw [hlen]
    have h6 : ((n.toNat : Nat) : Int) = n := Int.toNat_of_nonneg (by omega)
    have h5 : ((t.length * n.toNat : Nat) : Int) ≤ 16777216 := by
      have h4' := h4
      rw [sl] at h4'
      exact Int.ofNat_le.mpr h4'
    have this : (t.length : Int) * n ≤ 16777216 := by
      rw [Int.natCast_mul, h6] at h5
      exact h5
    have h7 : (t.length : Int) ≤ (2 ^ 63 - 1) / n := by
      refine Int.le_ediv_of_mul_le (by omega) ?_
      omega
    omega
  · rw [hlen]
    unfold Builtin.Str.tooLong
    rw [decide_eq_false]
    omega
  · rw [if_neg (by omega), if_neg ?_]
    · have e : (⟨(List.replicate n.toNat (tS t).cps).foldl (fun x1 x2 => x1 ++ x2) #[]⟩ : Str) = tS (List.replicate n.toNat t).flatten := by
        have := fold_rep t n.toNat []
        rw [List.nil_append] at this
        unfold tS
        rw [← this]
      rw [e]
      refine ⟨?_, .str _, H, I.tok _, ⟨_, rfl⟩, q⟩
      rw [tS_len, List.length_flatten, List.map_replicate, List.sum_replicate_nat]
      rw [Nat.mul_comm]
      omega
    · rw [hlen]
      simp
      refine ⟨by omega, ?_⟩
      intro z
      exact h3 (by rw [z]; rfl)
def rBin (K : PySem.W.Frag) : Bin → R2
  | .add => fun x y H Q => rI0 (fun i j => .int (i + j)) x y H Q ∨ (∃ i j, x = .str i ∧ y = .str j ∧ i.length + j.length ≤ sizeLine ∧ Q (.str (i ++ j)) H) ∨ rCat x y H Q ∨ rCatT K x y H Q ∨ rCatT0 K x y H Q
  | .sub => rI0 fun i j => .int (i - j)
  | .mul => fun x y H Q => rI CMulW (fun i j => .int (i * j)) x y H Q ∨ rRep x y H Q ∨ rRepS x y H Q
  | .fdiv => rI CDivW fun i j => .int (i / j)
  | .mod => rI (fun _ j => 0 < j) fun i j => .int (i % j)
  | .pow => rI CPow fun i j => .int (i ^ j.toNat)
theorem op_bin : ∀ o : Bin, OpR X (binaryOp o.op) (rBin X.K o)
  | .add => op_add.or (op_add_str.or (op_cat.or (op_catT.or op_catT0)))
  | .sub => op_sub
  | .mul => op_mulW.or (op_rep.or op_repS)
  | .fdiv => op_fdivW
  | .mod => op_mod
  | .pow => op_pow
theorem Reps.rep {φ : Fx} {H : Hp} {vs : List V} {ds : List D} (h : Reps Γ φ H vs ds) : ∀ n : Nat, Reps Γ φ H (List.replicate n vs).flatten (List.replicate n ds).flatten
  | 0 => .nil
  | n + 1 => by
    rw [List.replicate_succ, List.replicate_succ, List.flatten_cons, List.flatten_cons]
    exact h.append (Reps.rep h n)
theorem binF_ok {o : Bin} {x y z : D} {v u : V} {Q : VK} (e : binF o x y = some z) (hx : Rep Γ φ H v x) (hy : Rep Γ φ H u y) (r : Rel Γ φ H s) (k : Ko Γ φ H s z Q) : rBin Γ.K o v u H Q := by
  unfold binF at e
  split at e
  · cases e; cases hx; cases hy
    exact .inl ⟨_, _, rfl, rfl, k.here r (.int _)⟩
  · split at e
    · rename_i s1 t1 hl
      cases e; cases hx; cases hy
      exact .inr (.inl ⟨_, _, rfl, rfl, by rw [tS_len, tS_len]; exact hl, by rw [← tS_app]; exact k.here r (.str _)⟩)
    · cases e
  · split at e
    · rename_i s1 t1 hl
      cases e
      cases hx with
      | tup a1 r1 =>
        cases hy with
        | tup a2 r2 =>
          by_cases h1 : s1 = []
          · subst h1
            cases r1
            exact .inr (.inr (.inr (.inr ⟨_, _, _, rfl, rfl, a1, a2, k.here r (.tup a2 r2)⟩)))
          · refine .inr (.inr (.inr (.inl ⟨_, _, _, _, rfl, rfl, a1, a2, r1.ne_nil h1, by rw [r1.len, r2.len]; exact hl, fun z => ?_, fun z p hp => ?_⟩)))
            · subst z
              cases r2
              rw [List.append_nil] at k
              exact k.here r (.tup a1 r1)
            · exact k.tup r (r1.append r2) hp
    · cases e
  · split at e
    · rename_i s1 t1 hl
      cases e
      cases hx with
      | lst a1 n1 r1 =>
        cases hy with
        | lst a2 n2 r2 =>
          exact .inr (.inr (.inl ⟨_, _, _, _, rfl, rfl, a1, a2, by rw [r1.len, r2.len]; exact hl, fun p hp => k.lst r (r1.append r2) hp⟩))
    · cases e
  · cases e; cases hx; cases hy
    exact ⟨_, _, rfl, rfl, k.here r (.int _)⟩
  · split at e
    · cases e; cases hx; cases hy
      exact .inl ⟨_, _, rfl, rfl, by assumption, k.here r (.int _)⟩
    · cases e
  · split at e
    · rename_i hb
      cases e; cases hx; cases hy
      exact .inr (.inr ⟨_, _, rfl, rfl, hb.1, hb.2.1, hb.2.2.1, hb.2.2.2, k.here r (.str _)⟩)
    · cases e
  · split at e
    · rename_i hb
      cases e
      cases hy
      cases hx with
      | lst a1 n1 r1 => exact .inr (.inl ⟨_, _, _, rfl, rfl, a1, hb.1, hb.2.1, by rw [r1.len]; exact hb.2.2, fun p hp => k.lst r (r1.rep _) hp⟩)
    · cases e
  · split at e
    · cases e; cases hx; cases hy
      exact ⟨_, _, rfl, rfl, by assumption, k.here r (.int _)⟩
    · cases e
  · split at e
    · cases e; cases hx; cases hy
      exact ⟨_, _, rfl, rfl, by assumption, k.here r (.int _)⟩
    · cases e
  · split at e
    · cases e; cases hx; cases hy
      exact ⟨_, _, rfl, rfl, by assumption, k.here r (.int _)⟩
    · cases e
  · cases e

def Cmp.op : Cmp → CmpOp
  | .eq => .Eq | .ne => .NotEq | .lt => .Lt | .le => .LtE | .gt => .Gt | .ge => .GtE | .isN => .Is | .isnN => .IsNot | .isB => .Is | .isnB => .IsNot | .in_ => .In | .nin => .NotIn
def rCmp (K : PySem.W.Frag) : Cmp → R2
  | .eq => rEqD K
  | .ne => rNeD K
  | .lt => rI0 fun i j => .bl (decide (i < j))
  | .le => rI0 fun i j => .bl (decide (i ≤ j))
  | .gt => rI0 fun i j => .bl (decide (j < i))
  | .ge => rI0 fun i j => .bl (decide (j ≤ i))
  | .isN => fun x y H Q => y = .non ∧ Q (.bl (decide (x = .non))) H
  | .isnN => fun x y H Q => y = .non ∧ Q (.bl (!decide (x = .non))) H
  | .isB => rIsB
  | .isnB => rNotB
  | .in_ => fun x y H Q => rInS x y H Q ∨ (∃ i j, x = .str i ∧ y = .str j ∧ Q (.bl (!(Builtin.Str.occurrences j i 0 j.length 1).isEmpty)) H) ∨ rIn K false x y H Q ∨ rInD K x y H Q
  | .nin => fun x y H Q => rNotInS x y H Q ∨ (∃ i j, x = .str i ∧ y = .str j ∧ Q (.bl (!(!(Builtin.Str.occurrences j i 0 j.length 1).isEmpty))) H) ∨ rIn K true x y H Q ∨ rNotInD K x y H Q
theorem op_none {f : Value → Value → Sem Value} : OpR X f (fun _ _ _ _ => False) := fun _ _ _ _ _ _ _ _ _ _ _ _ h => h.elim
theorem op_cmp (hu : X.A.units + 65 < cLine) : ∀ o : Cmp, OpR X (compareOp o.op) (rCmp X.K o)
  | .eq => op_eqD (by omega)
  | .ne => op_neD (by omega)
  | .lt => op_lt
  | .le => op_le
  | .gt => op_gt
  | .ge => op_ge
  | .isN => op_isN
  | .isnN => op_notN
  | .isB => op_isBl
  | .isnB => op_notBl
  | .in_ => op_inS.or (op_in_str.or (op_in_seq.or (op_inD hu)))
  | .nin => op_notInS.or (op_notIn_str.or (op_notIn_seq.or (op_notInD hu)))
theorem eqF_ok {x y : D} {v u : V} {b : Bool} (e : eqF x y = some b) (hx : Rep Γ φ H v x) (hy : Rep Γ φ H u y) : ∃ p q, Dp Γ.K H v p ∧ Dp Γ.K H u q ∧ SeqAt.shaped p = true ∧ SeqAt.shaped q = true ∧ PyData.eqv p q = b := by
  unfold eqF at e
  cases e1 : x.toP with
  | none => simp [e1] at e
  | some p =>
    cases e2 : y.toP with
    | none => simp [e1, e2] at e
    | some q =>
      simp only [e1, e2] at e
      split at e
      · rename_i h
        cases e
        exact ⟨p, q, hx.dp e1, hy.dp e2, h.1, h.2, rfl⟩
      · cases e
theorem mem_cps {c : Nat} {t : T} : decide (c ∈ (tS t).cps.toList) = decide (c ∈ t) := by
  rw [decide_eq_decide]
  simp [tS]
theorem strsD_in {φ : Fx} {H : Hp} {t : T} : ∀ {vs : List V} {xs : List D} {ts : List T}, strsD xs = some ts → Reps Γ φ H vs xs → vs.all flatV = true ∧ inV (.str (tS t)) vs = decide (t ∈ ts)
  | [], [], _, e, _ => by
    simp [strsD] at e
    subst e
    exact ⟨rfl, by simp [inV]⟩
  | _ :: _, x :: xs, ts, e, .cons h r => by
    unfold strsD at e
    split at e
    · cases ‹_ :: _ = []›
    · rename_i b ys e1
      cases e1
      obtain ⟨us, h1, rfl⟩ := Option.map_eq_some_iff.mp e
      obtain ⟨h2, h3⟩ := strsD_in (t := t) h1 r
      cases h
      refine ⟨by simp [flatV, h2], ?_⟩
      unfold inV at h3 ⊢
      rw [List.any_cons, h3]
      by_cases q : t = b
      · subst q
        simp [eqV]
      · have : ¬ tS b = tS t := fun z => q (tS_inj z).symm
        simp [eqV, q, this]
    · cases e
theorem intsF_in {φ : Fx} {H : Hp} {t : Int} : ∀ {vs : List V} {xs : List D} {ts : List Int}, intsF xs = some ts → Reps Γ φ H vs xs → vs.all flatV = true ∧ inV (.int t) vs = decide (t ∈ ts)
  | [], [], _, e, _ => by
    simp [intsF] at e
    subst e
    exact ⟨rfl, by simp [inV]⟩
  | _ :: _, x :: xs, ts, e, .cons h r => by
    unfold intsF at e
    split at e
    · cases ‹_ :: _ = []›
    · rename_i b ys e1
      cases e1
      obtain ⟨us, h1, rfl⟩ := Option.map_eq_some_iff.mp e
      obtain ⟨h2, h3⟩ := intsF_in (t := t) h1 r
      cases h
      refine ⟨by simp [flatV, h2], ?_⟩
      unfold inV at h3 ⊢
      rw [List.any_cons, h3]
      by_cases q : t = b
      · subst q
        simp [eqV]
      · have : ¬ b = t := fun z => q z.symm
        simp [eqV, q, this]
    · cases e
theorem nonsF_in {φ : Fx} {H : Hp} : ∀ {vs : List V} {xs : List D} {bs : List Bool}, nonsF xs = some bs → Reps Γ φ H vs xs → vs.all flatV = true ∧ inV .non vs = bs.any id
  | [], [], _, e, _ => by
    simp [nonsF] at e
    subst e
    exact ⟨rfl, by simp [inV]⟩
  | _ :: _, x :: xs, bs, e, .cons h r => by
    unfold nonsF at e
    split at e
    · cases ‹_ :: _ = []›
    · rename_i ys e1
      cases e1
      obtain ⟨us, h1, rfl⟩ := Option.map_eq_some_iff.mp e
      obtain ⟨h2, h3⟩ := nonsF_in h1 r
      cases h
      refine ⟨by simp [flatV, h2], ?_⟩
      unfold inV at h3 ⊢
      rw [List.any_cons, h3]
      simp [eqV]
    · rename_i b ys e1
      cases e1
      obtain ⟨us, h1, rfl⟩ := Option.map_eq_some_iff.mp e
      obtain ⟨h2, h3⟩ := nonsF_in h1 r
      cases h
      refine ⟨by simp [flatV, h2], ?_⟩
      unfold inV at h3 ⊢
      rw [List.any_cons, h3]
      simp [eqV]
    · rename_i b ys e1
      cases e1
      obtain ⟨us, h1, rfl⟩ := Option.map_eq_some_iff.mp e
      obtain ⟨h2, h3⟩ := nonsF_in h1 r
      cases h
      refine ⟨by simp [flatV, h2], ?_⟩
      unfold inV at h3 ⊢
      rw [List.any_cons, h3]
      simp [eqV]
    · cases e
theorem inF_ok {φ : Fx} {H : Hp} {a : D} {v : V} {vs : List V} {xs : List D} {b : Bool} (e : inF a xs = some b) (hv : Rep Γ φ H v a) (r : Reps Γ φ H vs xs) : flatV v = true ∧ vs.all flatV = true ∧ inV v vs = b := by
  unfold inF at e
  split at e
  · obtain ⟨ts, h1, rfl⟩ := Option.map_eq_some_iff.mp e
    cases hv
    obtain ⟨h2, h3⟩ := strsD_in h1 r
    exact ⟨rfl, h2, h3⟩
  · obtain ⟨ts, h1, rfl⟩ := Option.map_eq_some_iff.mp e
    cases hv
    obtain ⟨h2, h3⟩ := intsF_in h1 r
    exact ⟨rfl, h2, h3⟩
  · obtain ⟨ts, h1, rfl⟩ := Option.map_eq_some_iff.mp e
    cases hv
    obtain ⟨h2, h3⟩ := nonsF_in h1 r
    exact ⟨rfl, h2, h3⟩
  · cases e
theorem inD_ok {φ : Fx} {H : Hp} {x y : D} {v u : V} {b : Bool} (e : inD x y = some b) (hx : Rep Γ φ H v x) (hy : Rep Γ φ H u y) :
    (∃ (c : Nat) (z : Str), v = .str ⟨#[c]⟩ ∧ u = .str z ∧ decide (c ∈ z.cps.toList) = b) ∨ (∃ i j, v = .str i ∧ u = .str j ∧ (!(Builtin.Str.occurrences j i 0 j.length 1).isEmpty) = b) ∨ (∃ p xs, u = .ref p ∧ (SqL Γ.K H p xs ∨ SqT Γ.K H p xs) ∧ flatV v = true ∧ xs.all flatV = true ∧ inV v xs = b) ∨ ∃ d ds, Dp Γ.K H v d ∧ Dp Γ.K H u (.list ds) ∧ SeqAt.shaped d = true ∧ SeqAt.shaped (.list ds) = true ∧ (ds.any fun z => PyData.eqv z d) = b := by
  unfold inD at e
  split at e
  · cases e
    cases hx
    cases hy
    unfold inT
    split
    · exact .inl ⟨_, _, rfl, rfl, mem_cps⟩
    · exact .inr (.inl ⟨_, _, rfl, rfl, rfl⟩)
  · cases hy with
    | tup a1 r1 =>
      obtain ⟨h1, h2, h3⟩ := inF_ok e hx r1
      exact .inr (.inr (.inl ⟨_, _, rfl, .inr a1, h1, h2, h3⟩))
  · split at e
    · rename_i k q
      cases e
      cases hy with
      | lst a1 n1 r1 =>
        obtain ⟨h1, h2, h3⟩ := inF_ok q hx r1
        exact .inr (.inr (.inl ⟨_, _, rfl, .inl (SqL.of a1), h1, h2, h3⟩))
    · rename_i xs _ _
      unfold inL at e
      split at e
      · rename_i d ds e1 e2
        split at e
        · rename_i h
          cases e
          exact .inr (.inr (.inr ⟨d, ds, hx.dp e1, hy.dp (by simp [D.toP, e2]), h.1, h.2, rfl⟩))
        · cases e
      · cases e
  · cases e
theorem cmpF_ok {o : Cmp} {x y z : D} {v u : V} {Q : VK} (e : cmpF o x y = some z) (hx : Rep Γ φ H v x) (hy : Rep Γ φ H u y) (r : Rel Γ φ H s) (k : Ko Γ φ H s z Q) : rCmp Γ.K o v u H Q := by
  unfold cmpF at e
  split at e
  · obtain ⟨b, h, rfl⟩ := Option.map_eq_some_iff.mp e
    obtain ⟨p, q, h1, h2, h3, h4, rfl⟩ := eqF_ok h hx hy
    exact ⟨p, q, h1, h2, h3, h4, k.here r (.bl _)⟩
  · obtain ⟨b, h, rfl⟩ := Option.map_eq_some_iff.mp e
    obtain ⟨p, q, h1, h2, h3, h4, rfl⟩ := eqF_ok h hx hy
    exact ⟨p, q, h1, h2, h3, h4, k.here r (.bl _)⟩
  · cases e; cases hx; cases hy
    exact ⟨_, _, rfl, rfl, k.here r (.bl _)⟩
  · cases e; cases hx; cases hy
    exact ⟨_, _, rfl, rfl, k.here r (.bl _)⟩
  · cases e; cases hx; cases hy
    exact ⟨_, _, rfl, rfl, k.here r (.bl _)⟩
  · cases e; cases hx; cases hy
    exact ⟨_, _, rfl, rfl, k.here r (.bl _)⟩
  · cases hy
    split at e
    · cases e; cases hx
      exact ⟨rfl, k.here r (.bl true)⟩
    · rename_i n
      cases e
      have : decide (v = V.non) = false := by
        cases hx <;> first | exact absurd rfl n | simp
      exact ⟨rfl, by rw [this]; exact k.here r (.bl _)⟩
  · cases hy
    split at e
    · cases e; cases hx
      exact ⟨rfl, k.here r (.bl false)⟩
    · rename_i n
      cases e
      have : decide (v = V.non) = false := by
        cases hx <;> first | exact absurd rfl n | simp
      exact ⟨rfl, by rw [this]; exact k.here r (.bl _)⟩
  · cases e; cases hx; cases hy
    exact ⟨_, _, rfl, rfl, k.here r (.bl _)⟩
  · cases e; cases hx; cases hy
    exact ⟨_, _, rfl, rfl, k.here r (.bl _)⟩
  · obtain ⟨b, h, rfl⟩ := Option.map_eq_some_iff.mp e
    rcases inD_ok h hx hy with ⟨c, z, e1, e2, e3⟩ | ⟨i, j, e1, e2, e3⟩ | ⟨p, xs, e1, e2, e3, e4, e5⟩ | ⟨d, ds, e1, e2, e3, e4, e5⟩
    · exact .inl ⟨c, z, e1, e2, by rw [e3]; exact k.here r (.bl _)⟩
    · exact .inr (.inl ⟨i, j, e1, e2, by rw [e3]; exact k.here r (.bl _)⟩)
    · exact .inr (.inr (.inl ⟨p, xs, e1, e2, e3, e4, by rw [e5]; exact k.here r (.bl _)⟩))
    · exact .inr (.inr (.inr ⟨d, ds, e1, e2, e3, e4, by rw [e5]; exact k.here r (.bl _)⟩))
  · obtain ⟨b, h, rfl⟩ := Option.map_eq_some_iff.mp e
    rcases inD_ok h hx hy with ⟨c, z, e1, e2, e3⟩ | ⟨i, j, e1, e2, e3⟩ | ⟨p, xs, e1, e2, e3, e4, e5⟩ | ⟨d, ds, e1, e2, e3, e4, e5⟩
    · exact .inl ⟨c, z, e1, e2, by rw [e3]; exact k.here r (.bl _)⟩
    · exact .inr (.inl ⟨i, j, e1, e2, by rw [e3]; exact k.here r (.bl _)⟩)
    · exact .inr (.inr (.inl ⟨p, xs, e1, e2, e3, e4, by rw [e5]; exact k.here r (.bl _)⟩))
    · exact .inr (.inr (.inr ⟨d, ds, e1, e2, e3, e4, by rw [e5]; exact k.here r (.bl _)⟩))
  · cases e

/-! ### truth -/
theorem Rep.refL {a : Addr} {n : Nat} {xs : List D} (h : Rep Γ φ H (.ref a) (.ref n)) (r : Rel Γ φ H s) (e : s[n]? = some (.lst xs)) : ∃ vs, H a = some (.lst vs) ∧ Reps Γ φ H vs xs ∧ φ.cs[n]? = some a := by
  cases h with
  | ref h =>
    exact let ⟨vs, h1, h2⟩ := r.cell n a _ h e; ⟨vs, h1, h2, h⟩
theorem truF_ok {x : D} {v : V} {k : Bool} (e : truF s x = some k) (hx : Rep Γ φ H v x) (r : Rel Γ φ H s) : TruV Γ.K v H k := by
  unfold truF at e
  split at e
  · cases e; cases hx; rfl
  · cases e; cases hx; rfl
  · cases e; cases hx; rfl
  · split at e
    · rename_i h
      cases e; cases hx
      exact ⟨by rw [tS_len]; exact h, by rw [tS_len]⟩
    · cases e
  · cases e
    cases hx with
    | tup a1 r1 => exact .inr (.inl ⟨_, a1, by rw [r1.isEmpty]⟩)
  · cases e
    cases hx with
    | lst a1 n1 r1 => exact .inl ⟨_, SqL.of a1, by rw [r1.isEmpty]⟩
  · split at e
    · rename_i h
      cases e
      cases hx with
      | ref h' =>
        obtain ⟨vs, h1, h2⟩ := r.cell _ _ _ h' h
        exact .inl ⟨vs, SqL.of h1, by rw [h2.isEmpty]⟩
    · cases e
  · cases e

/-! ### subscripts, slices -/
theorem Reps.at {vs : List V} {ds : List D} {i : Int} {d : D} (r : Reps Γ φ H vs ds) (h : atI ds i = some d) : ∃ v, atI vs i = some v ∧ Rep Γ φ H v d := by
  unfold atI at h ⊢
  rw [r.len]
  cases e : ixN ds.length i with
  | none => rw [e] at h; cases h
  | some j =>
    rw [e] at h
    obtain ⟨v, h1, h2⟩ := r.get (i := j) h
    exact ⟨v, h1, h2⟩
theorem ixF_ok {x y z : D} {v u : V} {Q : VK} (e : ixF s x y = some z) (hx : Rep Γ φ H v x) (hy : Rep Γ φ H u y) (r : Rel Γ φ H s) (k : Ko Γ φ H s z Q) : rIx Γ.K v u H Q := by
  unfold ixF at e
  split at e
  · cases hy
    cases hx with
    | tup a1 r1 =>
      obtain ⟨w, h1, h2⟩ := r1.at e
      exact .inr (.inl ⟨_, _, _, _, rfl, rfl, a1, h1, k.here r h2⟩)
  · cases hy
    cases hx with
    | lst a1 n1 r1 =>
      obtain ⟨w, h1, h2⟩ := r1.at e
      exact .inl ⟨_, _, _, _, rfl, rfl, SqL.of a1, h1, k.here r h2⟩
  · split at e
    · rename_i h
      obtain ⟨c, h1, rfl⟩ := Option.map_eq_some_iff.mp e
      cases hx; cases hy
      exact .inr (.inr ⟨_, _, c, rfl, rfl, by rw [tS_len]; exact h, h1, k.here r (.str [c])⟩)
    · cases e
  · split at e
    · rename_i h
      cases hy
      cases hx with
      | ref h' =>
        obtain ⟨vs, h1, h2⟩ := r.cell _ _ _ h' h
        obtain ⟨w, h3, h4⟩ := h2.at e
        exact .inl ⟨_, _, _, _, rfl, rfl, SqL.of h1, h3, k.here r h4⟩
    · cases e
  · cases e
theorem cutV_map {α : Type} (f : α → V) (xs : List α) (lo hi : Option Int) : cutV (xs.map f) lo hi = (cut xs lo hi).map f := by
  unfold cutV cut
  rw [List.length_map, List.map_take, List.map_drop]
theorem cutS_tS (t : T) (lo hi : Option Int) : cutS (tS t) lo hi = tS (cut t lo hi) := by
  unfold cutS cut
  rw [tS_len]
  rfl
def rSl (K : PySem.W.Frag) : V → Option Int → Option Int → Hp → VK → Prop := fun x lo hi H Q => rSlL K x lo hi H Q ∨ rSlT K x lo hi H Q ∨ rSlS x lo hi H Q
theorem sl_any : SlR X (rSl X.K) := sl_list.or (sl_tup.or sl_str)
theorem scr_sq {a : Addr} {ns : List Int} (h : (∃ o, H a = some (.frz o (.lst (ns.map V.int)))) ∨ (∃ (o : Obj) (its : Array Value) (n : Nat), Γ.K.lookup a = some o ∧ o.cls = .type "list" ∧ o.dict = none ∧ o.data = .seq its n ∧ its.size ≤ sizeLine ∧ Vals (ns.map V.int) its.toList)) : SqL Γ.K H a (ns.map V.int) := by
  rcases h with ⟨o, h⟩ | h
  · exact .inl (.inr ⟨o, h⟩)
  · exact .inr h
theorem slF_ok {x z : D} {v : V} {lo hi : Option Int} {Q : VK} (e : slF x lo hi = some z) (hx : Rep Γ φ H v x) (r : Rel Γ φ H s) (k : Ko Γ φ H s z Q) : rSl Γ.K v lo hi H Q := by
  unfold slF at e
  split at e
  · cases e
    cases hx with
    | lst a1 n1 r1 => exact .inl ⟨_, _, rfl, SqL.of a1, fun p hp => k.lst r (r1.cut lo hi) hp⟩
  · cases e
    cases hx with
    | scr h =>
      refine .inl ⟨_, _, rfl, scr_sq h, fun p hp => ?_⟩
      rw [cutV_map]
      exact k.lst r (Reps.intsL _) hp
    | scrL h n =>
      refine .inl ⟨_, _, rfl, SqL.of h, fun p hp => ?_⟩
      rw [cutV_map]
      exact k.lst r (Reps.intsL _) hp
  · split at e
    · cases e
    · rename_i h
      cases e
      cases hx with
      | tup a1 r1 => exact .inr (.inl ⟨_, _, rfl, a1, by rw [r1.len]; exact h, fun p hp => k.tup r (r1.cut lo hi) hp⟩)
  · split at e
    · rename_i h
      cases e; cases hx
      exact .inr (.inr ⟨_, rfl, by rw [tS_len]; exact h, by rw [cutS_tS]; exact k.here r (.str _)⟩)
    · cases e
  · cases e

/-! ### built-ins of one argument -/
def Bi.nm : Bi → Str
  | .len => "len" | .abs => "abs" | .list => "list" | .tuple => "tuple" | .int => "int" | .str => "str" | .all => "all" | .any => "any" | .sum => "sum" | .min => "min" | .max => "max"
/-- the built-in's value: a function or a type -/
def Bi.ty : Bi → Bool
  | .list => true | .tuple => true | .int => true | .str => true | _ => false
def Bi.id : Bi → String
  | .len => "len" | .abs => "abs" | .list => "list" | .tuple => "tuple" | .int => "int" | .str => "str" | .all => "all" | .any => "any" | .sum => "sum" | .min => "min" | .max => "max"
def Bi.val (b : Bi) : Value := if b.ty = true then .type b.id else .builtin b.id
def rBi (K : PySem.W.Frag) : Bi → List V → Hp → VK → Prop
  | .len => fun xs H Q => ∃ x n, xs = [x] ∧ LenV K x H n ∧ Q (.int n) H
  | .abs => fun xs H Q => ∃ i, xs = [.int i] ∧ Q (.int (if i < 0 then -i else i)) H
  | .list => fun xs H Q => ∃ p ys, xs = [.ref p] ∧ (SqL K H p ys ∨ SqT K H p ys) ∧ ∀ l, H l = none → Q (.ref l) (upd H l (.lst ys))
  | .int => fun xs H Q => ((∃ i, xs = [.int i] ∧ Q (.int i) H) ∨ ∃ k, xs = [.bl k] ∧ Q (.int (if k then 1 else 0)) H) ∨ ∃ a n, xs = [.str a] ∧ PySem.intText? a = some n ∧ a.length ≤ 640 ∧ Q (.int n) H
  | .str => fun xs H Q => ∃ i : Int, xs = [.int i] ∧ i.natAbs.log2 < 1920 ∧ Q (.str (toString i)) H
  | .all => rAll K
  | .any => rAny K
  | .sum => rSum K
  | .tuple => fun xs H Q => ∃ p ys, xs = [.ref p] ∧ ((SqL K H p ys ∧ ∀ l, H l = none → Q (.ref l) (upd H l (.tup ys))) ∨ (SqT K H p ys ∧ Q (.ref p) H))
  | .min => rMin K
  | .max => rMax K
theorem call_none {f : Value} : CallR X f (fun _ _ _ => False) := fun _ _ _ _ _ _ _ _ _ h => h.elim
theorem _root_.L2.CallR.or' {f : Value} {r r' : List V → Hp → VK → Prop} (h : CallR X f r) (h' : CallR X f r') : CallR X f (fun xs H Q => r xs H Q ∨ r' xs H Q) := by
  intro pins s σ H xs us Q I rx q
  rcases q with q | q
  · exact h pins s σ H xs us Q I rx q
  · exact h' pins s σ H xs us Q I rx q
theorem tS_intT (i : Int) : tS (intT i) = Str.ofString (toString i) := rfl
theorem op_bi (hc : X.calm = true) : ∀ b : Bi, CallR X b.val (rBi X.K b)
  | .len => call_len
  | .abs => call_abs
  | .list => call_list_of
  | .tuple => call_tuple_of
  | .int => call_int1.or' call_int_str
  | .str => call_str_int
  | .all => cr_all hc
  | .any => cr_any hc
  | .sum => cr_sum hc
  | .min => cr_min hc
  | .max => cr_max hc
theorem Bi.boot : ∀ b : Bi, bootBuiltins b.nm = some b.val
  | .len => PySem.boot_len
  | .abs => by decide +kernel
  | .list => by decide +kernel
  | .tuple => by decide +kernel
  | .int => by decide +kernel
  | .str => by decide +kernel
  | .all => by decide +kernel
  | .any => by decide +kernel
  | .sum => by decide +kernel
  | .min => by decide +kernel
  | .max => by decide +kernel
theorem itemsF_ok {x : D} {v : V} {ds : List D} (e : itemsF s x = some ds) (hx : Rep Γ φ H v x) (r : Rel Γ φ H s) : ∃ a vs, v = .ref a ∧ (SqL Γ.K H a vs ∨ SqT Γ.K H a vs) ∧ Reps Γ φ H vs ds := by
  unfold itemsF at e
  split at e
  · cases e
    cases hx with
    | lst a1 n1 r1 => exact ⟨_, _, rfl, .inl (SqL.of a1), r1⟩
  · cases e
    cases hx with
    | tup a1 r1 => exact ⟨_, _, rfl, .inr a1, r1⟩
  · split at e
    · rename_i h
      cases e
      cases hx with
      | ref h' =>
        obtain ⟨vs, h1, h2⟩ := r.cell _ _ _ h' h
        exact ⟨_, vs, rfl, .inl (SqL.of h1), h2⟩
    · cases e
  · cases e
theorem listF_ok {x : D} {v : V} {ds : List D} (e : listF s x = some ds) (hx : Rep Γ φ H v x) (r : Rel Γ φ H s) : ∃ a vs, v = .ref a ∧ H a = some (.lst vs) ∧ Reps Γ φ H vs ds := by
  unfold listF at e
  split at e
  · cases e
    cases hx with
    | lst a1 n1 r1 => exact ⟨_, _, rfl, a1, r1⟩
  · split at e
    · rename_i h
      cases e
      cases hx with
      | ref h' =>
        obtain ⟨vs, h1, h2⟩ := r.cell _ _ _ h' h
        exact ⟨_, vs, rfl, h1, h2⟩
    · cases e
  · cases e
theorem biF_ok {b : Bi} {x z : D} {v : V} {Q : VK} (e : biF b s x = some z) (hx : Rep Γ φ H v x) (r : Rel Γ φ H s) (k : Ko Γ φ H s z Q) : rBi Γ.K b [v] H Q := by
  unfold biF at e
  split at e
  · split at e
    · rename_i h
      cases e; cases hx
      exact ⟨_, _, rfl, ⟨by rw [tS_len]; exact h, rfl⟩, by rw [tS_len]; exact k.here r (.int _)⟩
    · cases e
  · obtain ⟨ds, h, rfl⟩ := Option.map_eq_some_iff.mp e
    obtain ⟨a, vs, rfl, h1, h2⟩ := itemsF_ok h hx r
    refine ⟨_, ds.length, rfl, ?_, k.here r (.int _)⟩
    rcases h1 with h1 | h1
    · exact .inl ⟨vs, h1, h2.len.symm⟩
    · exact .inr ⟨vs, h1, h2.len.symm⟩
  · cases e; cases hx
    exact ⟨_, rfl, k.here r (.int _)⟩
  · obtain ⟨ds, h, rfl⟩ := Option.map_eq_some_iff.mp e
    obtain ⟨a, vs, rfl, h1, h2⟩ := itemsF_ok h hx r
    exact ⟨_, vs, rfl, h1, fun l hl => k.lst r h2 hl⟩
  · cases e; cases hx
    exact .inl (.inl ⟨_, rfl, k.here r (.int _)⟩)
  · cases e; cases hx
    exact .inl (.inr ⟨_, rfl, k.here r (.int _)⟩)
  · split at e
    · rename_i h
      obtain ⟨n, hn, rfl⟩ := Option.map_eq_some_iff.mp e
      cases hx
      exact .inr ⟨_, n, rfl, hn, by rw [tS_len]; exact h, k.here r (.int _)⟩
    · cases e
  · split at e
    · rename_i h
      cases e
      cases hx
      refine ⟨_, rfl, h, ?_⟩
      have := k.here r (.str (intT _))
      rw [tS_intT] at this
      exact this
    · cases e
  · obtain ⟨ds, h, e⟩ := Option.bind_eq_some_iff.mp e
    obtain ⟨bs, hb, rfl⟩ := Option.map_eq_some_iff.mp e
    obtain ⟨a, vs, rfl, h1, h2⟩ := listF_ok h hx r
    exact ⟨_, bs, rfl, by rw [← h2.bools hb]; exact SqL.of h1, k.here r (.bl _)⟩
  · obtain ⟨ds, h, e⟩ := Option.bind_eq_some_iff.mp e
    obtain ⟨bs, hb, rfl⟩ := Option.map_eq_some_iff.mp e
    obtain ⟨a, vs, rfl, h1, h2⟩ := listF_ok h hx r
    exact ⟨_, bs, rfl, by rw [← h2.bools hb]; exact SqL.of h1, k.here r (.bl _)⟩
  · obtain ⟨ds, h, e⟩ := Option.bind_eq_some_iff.mp e
    obtain ⟨bs, hb, rfl⟩ := Option.map_eq_some_iff.mp e
    obtain ⟨a, vs, rfl, h1, h2⟩ := listF_ok h hx r
    exact ⟨_, bs, rfl, by rw [← h2.ints hb]; exact SqL.of h1, k.here r (.int _)⟩
  · cases e
    cases hx with
    | tup a1 r1 => exact ⟨_, _, rfl, .inr ⟨a1, k.here r (.tup a1 r1)⟩⟩
  · obtain ⟨ds, h, rfl⟩ := Option.map_eq_some_iff.mp e
    obtain ⟨a, vs, rfl, h1, h2⟩ := listF_ok h hx r
    exact ⟨_, vs, rfl, .inl ⟨SqL.of h1, fun l hl => k.tup r h2 hl⟩⟩
  · obtain ⟨ds, h, e⟩ := Option.bind_eq_some_iff.mp e
    obtain ⟨bs, hb, e⟩ := Option.bind_eq_some_iff.mp e
    obtain ⟨m, hm, rfl⟩ := Option.map_eq_some_iff.mp e
    obtain ⟨a, vs, rfl, h1, h2⟩ := listF_ok h hx r
    obtain ⟨m1, m2⟩ := List.min?_eq_some_iff.mp hm
    refine ⟨_, bs, rfl, by rw [← h2.ints hb]; exact SqL.of h1, List.length_pos_of_mem m1, fun m' h3 h4 => ?_⟩
    have e2 : m' = m := Int.le_antisymm (h4 m m1) (m2 m' h3)
    rw [e2]
    exact k.here r (.int _)
  · obtain ⟨ds, h, e⟩ := Option.bind_eq_some_iff.mp e
    obtain ⟨bs, hb, e⟩ := Option.bind_eq_some_iff.mp e
    obtain ⟨m, hm, rfl⟩ := Option.map_eq_some_iff.mp e
    obtain ⟨a, vs, rfl, h1, h2⟩ := listF_ok h hx r
    obtain ⟨m1, m2⟩ := List.max?_eq_some_iff.mp hm
    refine ⟨_, bs, rfl, by rw [← h2.ints hb]; exact SqL.of h1, List.length_pos_of_mem m1, fun m' h3 h4 => ?_⟩
    have e2 : m' = m := Int.le_antisymm (m2 m' h3) (h4 m m1)
    rw [e2]
    exact k.here r (.int _)
  · cases e

/-! ### isinstance -/
theorem tyN_ok {x : D} {v : V} {n : String} (e : tyN x = some n) (hx : Rep Γ φ H v x) : TyX Γ.K H v (.type n) := by
  cases hx <;> simp only [tyN, Option.some.injEq, reduceCtorEq] at e <;> subst e
  · exact .base .non
  · exact .base (.bl _)
  · exact .base (.int _)
  · exact .base (.str _)
  · rename_i a xs ds h r
    rcases h with (h | ⟨o, h⟩) | ⟨o, its, n, h1, h2, _⟩
    · exact .base (.tup h)
    · exact .fTuple h
    · exact .kTuple h1 h2
  · exact .base (.lst (by assumption))
theorem tyN_in {x : D} {n : String} (e : tyN x = some n) : n = "NoneType" ∨ n = "bool" ∨ n = "int" ∨ n = "str" ∨ n = "tuple" ∨ n = "list" := by
  cases x <;> simp [tyN] at e <;> subst e <;> simp
/-- the classes that are asked for -/
def isTy (t : String) : Bool := t == "bool" || t == "int" || t == "str" || t == "tuple" || t == "list"
theorem heir_ok {n t : String} (h : n = "NoneType" ∨ n = "bool" ∨ n = "int" ∨ n = "str" ∨ n = "tuple" ∨ n = "list") (ht : isTy t = true) : kitB n t = some (heir n t) := by
  unfold isTy at ht
  simp only [Bool.or_eq_true, beq_iff_eq] at ht
  rcases ht with (((rfl | rfl) | rfl) | rfl) | rfl <;> rcases h with rfl | rfl | rfl | rfl | rfl | rfl <;> decide +kernel
theorem kitAny_ok {K : PySem.W.Frag} {n : String} (h : n = "NoneType" ∨ n = "bool" ∨ n = "int" ∨ n = "str" ∨ n = "tuple" ∨ n = "list") : ∀ ts : List String, ts.all isTy = true → PySem.W.kitAny K (.type n) (ts.map Value.type) = some (ts.any (heir n))
  | [], _ => kitAny_nil
  | t :: ts, ht => by
    simp only [List.all_cons, Bool.and_eq_true] at ht
    rw [List.map_cons, List.any_cons]
    exact kitAny_cons (b := heir n t) (kit_ty (heir_ok h ht.1)) (fun q => by rw [q, Bool.false_or]; exact kitAny_ok h ts ht.2) (fun q => by rw [q]; rfl)
theorem Paired_ty : ∀ ts : List String, Paired ClsV (ts.map V.ty) (ts.map Value.type)
  | [] => .nil
  | t :: ts => .cons (.ty t) (Paired_ty ts)
end
end G

set_option Elab.async false
set_option linter.all false
set_option maxRecDepth 100000
/-! Each expression's rule follows from the evaluator's answer. -/
namespace G
open PySem L2

section
variable {Γ : Gm} {W : WX} {X : Cx} {pos : Pos} {a b c e : Expr} {ga gb gc : G.Env → Stt → R D} {es : List Expr}

/-! ### leaves -/
theorem dE_ok {x : D} {v : V} {g : G.Env → Stt → R D} {σ : St} {H : Hp} {Q : VK} (hg : ∀ ρ s, g ρ s = .ok x s) (hv : ∀ φ H, Rep Γ φ H v x) (h : dE Γ W g σ H Q) : Q v H := by
  obtain ⟨φ, ρ, s, er, rel, go⟩ := h
  rw [hg] at go
  exact go φ H (.refl _ _) rel v (hv φ H)
theorem s_int {i : Int} {j} : PE X (.Constant (.int i) j pos) (dE Γ W fun _ s => .ok (.int i) s) := pe_int.mono fun _ _ _ h => dE_ok (fun _ _ => rfl) (fun _ _ => .int i) h
theorem s_bl {i : Bool} {j} : PE X (.Constant (.bool i) j pos) (dE Γ W fun _ s => .ok (.bl i) s) := pe_bl.mono fun _ _ _ h => dE_ok (fun _ _ => rfl) (fun _ _ => .bl i) h
theorem s_non {j} : PE X (.Constant .none j pos) (dE Γ W fun _ s => .ok .non s) := pe_non.mono fun _ _ _ h => dE_ok (fun _ _ => rfl) (fun _ _ => .non) h
theorem s_str {t : T} {j} : PE X (.Constant (.str (tS t)) j pos) (dE Γ W fun _ s => .ok (.str t) s) := pe_str.mono fun _ _ _ h => dE_ok (fun _ _ => rfl) (fun _ _ => .str t) h
theorem Go.of {φ : Fx} {H : Hp} {σ : St} {s : Stt} {α : Type} {o : Option α} {K : α → Stt → Fx → Hp → Prop} (h : Go Γ W φ H σ (R.of o s) K) : ∃ z, o = some z ∧ ∀ φ' H', After φ H φ' H' → Rel Γ φ' H' s → K z s φ' H' := by
  cases o with
  | none => exact h.elim
  | some z => exact ⟨z, rfl, h⟩
theorem s_var {i : Nat} (h : PE X e (tVar i)) : PE X e (dE Γ W fun ρ s => R.of (ρ[i]?.join) s) := h.mono fun σ H Q ⟨φ, ρ, s, er, rel, go⟩ => by
  obtain ⟨d, hd, k⟩ := go.of
  obtain ⟨v, h1, h2⟩ := er.var hd
  exact ⟨v, h1, k φ H (.refl _ _) rel v h2⟩

/-! ### two values -/
theorem s_op2 {r : R2} {F : Stt → D → D → Option D} (h : PE X e (tOp r (dE Γ W ga) (dE Γ W gb)))
    (ok : ∀ {φ H s x y z v u} {Q : VK}, F s x y = some z → Rep Γ φ H v x → Rep Γ φ H u y → Rel Γ φ H s → Ko Γ φ H s z Q → r v u H Q) :
    PE X e (dE Γ W fun ρ s => (ga ρ s).bind fun x s => (gb ρ s).bind fun y s => R.of (F s x y) s) := h.mono fun σ H Q ⟨φ, ρ, s, er, rel, go⟩ => by
  refine ⟨φ, ρ, s, er, rel, go.bind.imp fun x s1 φ1 H1 a1 r1 go1 v hv => ?_⟩
  refine ⟨φ1, ρ, s1, er.mono a1, r1, go1.bind.imp fun y s2 φ2 H2 a2 r2 go2 u hu => ?_⟩
  obtain ⟨z, hz, k⟩ := go2.of
  exact ok hz (hv.mono a2) hu r2 k
theorem s_op1 {r : V → Hp → VK → Prop} {F : Stt → D → Option D} (h : PE X e (tUn r (dE Γ W ga)))
    (ok : ∀ {φ H s x z v} {Q : VK}, F s x = some z → Rep Γ φ H v x → Rel Γ φ H s → Ko Γ φ H s z Q → r v H Q) :
    PE X e (dE Γ W fun ρ s => (ga ρ s).bind fun x s => R.of (F s x) s) := h.mono fun σ H Q ⟨φ, ρ, s, er, rel, go⟩ => by
  refine ⟨φ, ρ, s, er, rel, go.bind.imp fun x s1 φ1 H1 a1 r1 go1 v hv => ?_⟩
  obtain ⟨z, hz, k⟩ := go1.of
  exact ok hz hv r1 k
theorem s_bin {o : G.Bin} (hK : X.K = Γ.K) (ha : PE X a (dE Γ W ga)) (hb : PE X b (dE Γ W gb)) :
    PE X (.BinOp a o.op b pos) (dE Γ W fun ρ s => (ga ρ s).bind fun x s => (gb ρ s).bind fun y s => R.of (binF o x y) s) :=
  s_op2 (F := fun _ => binF o) (pe_op (hK ▸ op_bin o) ha hb) fun e hx hy r k => binF_ok e hx hy r k
theorem s_cmp {o : Cmp} (hK : X.K = Γ.K) (hu : X.A.units + 65 < cLine) (hm : behindInMarks o.op b = false) (ha : PE X a (dE Γ W ga)) (hb : PE X b (dE Γ W gb)) :
    PE X (.Compare a [o.op] [b] pos) (dE Γ W fun ρ s => (ga ρ s).bind fun x s => (gb ρ s).bind fun y s => R.of (cmpF o x y) s) :=
  s_op2 (F := fun _ => cmpF o) (pe_cmpR (hK ▸ op_cmp hu o) ha hb hm) fun e hx hy r k => cmpF_ok e hx hy r k
theorem s_ix (hK : X.K = Γ.K) (hp : PlainIx b) (ha : PE X a (dE Γ W ga)) (hb : PE X b (dE Γ W gb)) :
    PE X (.Subscript a b pos) (dE Γ W fun ρ s => (ga ρ s).bind fun x s => (gb ρ s).bind fun y s => R.of (ixF s x y) s) :=
  s_op2 (F := ixF) (pe_ix (hK ▸ ix_seq) ha hb hp) fun e hx hy r k => ixF_ok e hx hy r k
theorem s_neg (ha : PE X a (dE Γ W ga)) : PE X (.UnaryOp .USub a pos) (dE Γ W fun ρ s => (ga ρ s).bind fun x s => match x with
    | .int i => .ok (.int (-i)) s
    | _ => .stuck) := (pe_un un_neg ha).mono fun σ H Q ⟨φ, ρ, s, er, rel, go⟩ => by
  refine ⟨φ, ρ, s, er, rel, go.bind.imp fun x s1 φ1 H1 a1 r1 go1 v hv => ?_⟩
  cases x <;> first | exact go1.elim | (cases hv; exact ⟨_, rfl, go1 φ1 H1 (.refl _ _) r1 _ (.int _)⟩)
theorem s_not (ha : PE X a (dE Γ W ga)) : PE X (.UnaryOp .Not a pos) (dE Γ W fun ρ s => (ga ρ s).bind fun x s => match x with
    | .bl i => .ok (.bl (!i)) s
    | _ => .stuck) := (pe_not ha).mono fun σ H Q ⟨φ, ρ, s, er, rel, go⟩ => by
  refine ⟨φ, ρ, s, er, rel, go.bind.imp fun x s1 φ1 H1 a1 r1 go1 v hv => ?_⟩
  cases x <;> first | exact go1.elim | (cases hv; exact ⟨_, rfl, go1 φ1 H1 (.refl _ _) r1 _ (.bl _)⟩)
theorem s_one {o} {g : G.Env → Stt → R D} (ha : PE X a (dE Γ W g)) : PE X (.BoolOp o [a] pos) (dE Γ W g) := pe_one ha
theorem s_and {r : List Expr} (ha : PE X a (dE Γ W ga)) (hb : PE X (.BoolOp .And (b :: r) pos) (dE Γ W gb)) : PE X (.BoolOp .And (a :: b :: r) pos) (dE Γ W fun ρ s => (ga ρ s).bind fun x s => match x with
    | .bl true => gb ρ s
    | .bl false => .ok (.bl false) s
    | _ => .stuck) := (pe_and ha hb).mono fun σ H Q ⟨φ, ρ, s, er, rel, go⟩ => by
  refine ⟨φ, ρ, s, er, rel, go.bind.imp fun x s1 φ1 H1 a1 r1 go1 v hv => ?_⟩
  cases x <;> try exact go1.elim
  cases hv
  rename_i k
  cases k with
  | true => exact ⟨true, rfl, by rw [if_pos rfl]; exact ⟨φ1, ρ, s1, er.mono a1, r1, go1⟩⟩
  | false => exact ⟨false, rfl, by rw [if_neg Bool.false_ne_true]; exact go1 φ1 H1 (.refl _ _) r1 _ (.bl _)⟩
theorem s_or {r : List Expr} (ha : PE X a (dE Γ W ga)) (hb : PE X (.BoolOp .Or (b :: r) pos) (dE Γ W gb)) : PE X (.BoolOp .Or (a :: b :: r) pos) (dE Γ W fun ρ s => (ga ρ s).bind fun x s => match x with
    | .bl false => gb ρ s
    | .bl true => .ok (.bl true) s
    | _ => .stuck) := (pe_or ha hb).mono fun σ H Q ⟨φ, ρ, s, er, rel, go⟩ => by
  refine ⟨φ, ρ, s, er, rel, go.bind.imp fun x s1 φ1 H1 a1 r1 go1 v hv => ?_⟩
  cases x <;> try exact go1.elim
  cases hv
  rename_i k
  cases k with
  | false => exact ⟨false, rfl, by rw [if_neg Bool.false_ne_true]; exact ⟨φ1, ρ, s1, er.mono a1, r1, go1⟩⟩
  | true => exact ⟨true, rfl, by rw [if_pos rfl]; exact go1 φ1 H1 (.refl _ _) r1 _ (.bl _)⟩
theorem s_ite {gt : G.Env → Stt → R Bool} (hc : PT X c (dT Γ W gt)) (ha : PE X a (dE Γ W ga)) (hb : PE X b (dE Γ W gb)) : PE X (.IfExp c a b pos) (dE Γ W fun ρ s => (gt ρ s).bind fun k s => if k = true then ga ρ s else gb ρ s) := (pe_ifExp hc ha hb).mono fun σ H Q ⟨φ, ρ, s, er, rel, go⟩ => by
  refine ⟨φ, ρ, s, er, rel, go.bind.imp fun k s1 φ1 H1 a1 r1 go1 => ?_⟩
  cases k with
  | true => exact ⟨φ1, ρ, s1, er.mono a1, r1, go1⟩
  | false => exact ⟨φ1, ρ, s1, er.mono a1, r1, go1⟩

/-! ### lists of expressions -/
def ns : Expr → Bool
  | .Starred _ _ => false
  | _ => true
theorem star_ns {env : PySem.Env} (h : ns e = true) : starEach (e :: es) env = (false, eval e env) :: starEach es env := by
  cases e <;> first | rfl | exact nomatch h
theorem s_nil : PA X [] (dA Γ W fun _ s => .ok [] s) := pa_nil.mono fun σ H Q ⟨φ, ρ, s, er, rel, go⟩ => go φ H (.refl _ _) rel [] .nil
theorem s_cons {gr : G.Env → Stt → R (List D)} (h : ns e = true) (ha : PE X e (dE Γ W ga)) (hr : PA X es (dA Γ W gr)) : PA X (e :: es) (dA Γ W fun ρ s => (ga ρ s).bind fun x s => (gr ρ s).bind fun xs s => .ok (x :: xs) s) :=
  (pa_cons ha hr (star_ns h)).mono fun σ H Q ⟨φ, ρ, s, er, rel, go⟩ => by
  refine ⟨φ, ρ, s, er, rel, go.bind.imp fun x s1 φ1 H1 a1 r1 go1 v hv => ?_⟩
  refine ⟨φ1, ρ, s1, er.mono a1, r1, go1.bind.imp fun xs s2 φ2 H2 a2 r2 go2 vs hvs => ?_⟩
  exact go2 φ2 H2 (.refl _ _) r2 _ (.cons (hv.mono a2) hvs)
theorem s_tup {k} {gr : G.Env → Stt → R (List D)} (h : PA X es (dA Γ W gr)) : PE X (.Tuple es k pos) (dE Γ W fun ρ s => (gr ρ s).bind fun xs s => if xs.length ≤ sizeLine then .ok (.tup xs) s else .stuck) := (pe_tup h).mono fun σ H Q ⟨φ, ρ, s, er, rel, go⟩ => by
  refine ⟨φ, ρ, s, er, rel, go.bind.imp fun x s1 φ1 H1 a1 r1 go1 vs hvs => ?_⟩
  split at go1
  · rename_i hl
    exact ⟨by rw [hvs.len]; exact hl, fun p hp => Ko.tup (s := s1) go1 r1 hvs hp⟩
  · exact go1.elim
theorem s_lst {gr : G.Env → Stt → R (List D)} (h : PA X es (dA Γ W gr)) : PE X (.List es pos) (dE Γ W fun ρ s => (gr ρ s).bind fun xs s => if xs.length ≤ sizeLine then .ok (.lst xs) s else .stuck) := (pe_lst h).mono fun σ H Q ⟨φ, ρ, s, er, rel, go⟩ => by
  refine ⟨φ, ρ, s, er, rel, go.bind.imp fun x s1 φ1 H1 a1 r1 go1 vs hvs => ?_⟩
  split at go1
  · rename_i hl
    exact ⟨by rw [hvs.len]; exact hl, fun p hp => Ko.lst (s := s1) go1 r1 hvs hp⟩
  · exact go1.elim
theorem s_lstC {gr : G.Env → Stt → R (List D)} (h : PA X es (dA Γ W gr)) : PE X (.List es pos) (dE Γ W fun ρ s => (gr ρ s).bind fun xs s => if xs.length ≤ sizeLine then .ok (.ref s.length) (s ++ [.lst xs]) else .stuck) := (pe_lst h).mono fun σ H Q ⟨φ, ρ, s, er, rel, go⟩ => by
  refine ⟨φ, ρ, s, er, rel, go.bind.imp fun x s1 φ1 H1 a1 r1 go1 vs hvs => ?_⟩
  split at go1
  · rename_i hl
    refine ⟨by rw [hvs.len]; exact hl, fun p hp => ?_⟩
    refine go1 ⟨φ1.cs ++ [p], φ1.hd⟩ _ (.cell hp) (r1.push hp hvs) _ (.ref ?_)
    rw [← r1.len]
    simp
  · exact go1.elim
/-! ### slices -/
def dO (Γ : Gm) (W : WX) (g : G.Env → Stt → R (Option Int)) : St → Hp → (Option Int → Hp → Prop) → Prop := fun σ H Q => ∃ φ ρ s, ER Γ φ H σ ρ ∧ Rel Γ φ H s ∧ Go Γ W φ H σ (g ρ s) fun o s' φ' H' => Q o H'
theorem _root_.L2.PO.mono {o : Option Expr} {t t' : TO} (h : PO X o t) (f : ∀ σ H Q, t' σ H Q → t σ H Q) : PO X o t' := ⟨fun pins s σ H Q I q => h.run pins s σ H Q I (f _ _ _ q)⟩
theorem s_onone : PO X none (dO Γ W fun _ s => .ok none s) := po_none.mono fun σ H Q ⟨φ, ρ, s, er, rel, go⟩ => go φ H (.refl _ _) rel
theorem s_osome (ha : PE X a (dE Γ W ga)) : PO X (some a) (dO Γ W fun ρ s => (ga ρ s).bind fun x s => match x with
    | .int i => .ok (some i) s
    | _ => .stuck) := (po_some ha).mono fun σ H Q ⟨φ, ρ, s, er, rel, go⟩ => by
  refine ⟨φ, ρ, s, er, rel, go.bind.imp fun x s1 φ1 H1 a1 r1 go1 v hv => ?_⟩
  cases x <;> first | exact go1.elim | (cases hv; exact ⟨_, rfl, go1 φ1 H1 (.refl _ _) r1⟩)
theorem s_sl {lo hi : Option Expr} {gl gh : G.Env → Stt → R (Option Int)} {p2 : Pos} (hK : X.K = Γ.K) (ha : PE X a (dE Γ W ga)) (hl : PO X lo (dO Γ W gl)) (hh : PO X hi (dO Γ W gh)) :
    PE X (.Subscript a (.Slice lo hi none p2) pos) (dE Γ W fun ρ s => (ga ρ s).bind fun x s => (gl ρ s).bind fun l s => (gh ρ s).bind fun h s => R.of (slF x l h) s) := (pe_slice (hK ▸ sl_any) ha hl hh).mono fun σ H Q ⟨φ, ρ, s, er, rel, go⟩ => by
  refine ⟨φ, ρ, s, er, rel, go.bind.imp fun x s1 φ1 H1 a1 r1 go1 v hv => ?_⟩
  refine ⟨φ1, ρ, s1, er.mono a1, r1, go1.bind.imp fun l s2 φ2 H2 a2 r2 go2 => ?_⟩
  refine ⟨φ2, ρ, s2, (er.mono a1).mono a2, r2, go2.bind.imp fun h s3 φ3 H3 a3 r3 go3 => ?_⟩
  obtain ⟨z, hz, k⟩ := go3.of
  exact slF_ok hz ((hv.mono a2).mono a3) r3 k

/-- x[::-1] -/
def tRev (K : PySem.W.Frag) (te : TE) : TE := fun σ H Q => te σ H fun x H1 => (∃ a xs, x = .ref a ∧ SqL K H1 a xs ∧ ∀ p, H1 p = none → Q (.ref p) (upd H1 p (.lst xs.reverse))) ∨ ∃ t : T, x = .str (tS t) ∧ t.length ≤ sizeLine ∧ Q (.str (tS t.reverse)) H1
theorem rev_pick (z : Str) : (Builtin.Str.strSliceIndices none none (-1) z.length).filterMap (z.cps[·]?) = z.cps.toList.reverse := by
  show ((sliceRange ((z.length : Int) - 1) (-1) (-1)).filterMap (z.cps[·]?)) = _
  rw [PySem.W.krv_sliceRange, PySem.W.krv_range, List.filterMap_reverse]
  show ((List.range z.cps.size).filterMap (z.cps[·]?)).reverse = _
  rw [PySem.W.krv_all]
theorem pe_rev {te : TE} {k : Nat} {p1 p2 p3 : Pos} (he : PE X a te) : PE X (.Subscript a (.Slice none none (some (.UnaryOp .USub (.Constant (.int 1) k p1) p2)) p3) pos) (tRev X.K te) := by
  refine ⟨fun pins s σ H Q I h => ?_⟩
  refine PyProof.Rows.Subscript_ (thn (he.run pins s σ H _ I h) fun v s1 ⟨x, H1, I1, r1, q1⟩ => ?_)
  have hst : PO X (some (.UnaryOp .USub (.Constant (.int 1) k p1) p2)) (tPart (tUn (rU fun i => .int (-i)) (tC (.int 1)))) := po_some (pe_un un_neg pe_int)
  refine wpAny_Slice (thn (po_none.run pins s1 σ H1 (fun o H2 => o = none ∧ H2 = H1) I1 ⟨rfl, rfl⟩) fun vl s2 ⟨l, H2, I2, pl, el, e2⟩ => ?_)
  subst el e2
  refine thn (po_none.run pins s2 σ H2 (fun o H3 => o = none ∧ H3 = H2) I2 ⟨rfl, rfl⟩) fun vu s3 ⟨u, H3, I3, pu, eu, e3⟩ => ?_
  subst eu e3
  refine thn (hst.run pins s3 σ H3 (fun o H4 => o = some (-1) ∧ H4 = H3) I3 ⟨1, rfl, -1, rfl, rfl, rfl⟩) fun vs s4 ⟨o, H4, I4, ps, eo, e4⟩ => ?_
  subst eo e4
  have J : Inv X pins σ H4 { s4 with heap := s4.heap.push { cls := .type "slice", data := .fields #[vl, vu, vs] } } := I4.kept (t' := s4.toks) fun b ob q => Heap.get?_push_of_some _ q
  rcases q1 with ⟨b, xs, ex, hx, q⟩ | ⟨t, ex, hz, q⟩
  · subst ex
    cases r1
    obtain ⟨its, r, ht, hz⟩ := J.list hx
    have hlen := r.length
    show wpAny (model X.prog X.w) X.A (PyProof.Rows.subscriptTail a (.Slice none none (some (.UnaryOp .USub (.Constant (.int 1) k p1) p2)) p3) (.ref b) (.ref s4.heap.objs.size)) (EP X pins σ Q) X.xe { s4 with heap := s4.heap.push { cls := .type "slice", data := .fields #[vl, vu, vs] } }
    refine PyProof.Rows.tail_any (ops := [.ref b, .ref s4.heap.objs.size]) ht.isList.typeIs (PySem.slot_list_getitem.lookup) ?_ (by with_unfolding_all rfl)
    refine wpAny_getItem_list_slice ht.isList (Heap.IsSliceOf.new _ vl vu vs) pl pu ps (by decide) ?_ (by rw [List.size_toArray]; omega)
    rw [PySem.W.krv_pick]
    refine ⟨.ref _, _, J.laid (t' := s4.toks) (o := .lst xs.reverse) (fun b ob q => Heap.get?_push_of_some _ q) (Nat.le_refl _) ?_, rfl, q _ (J.hok.fresh (Nat.le_refl _))⟩
    exact ⟨by rw [List.length_reverse]; exact hz, _, 0, r.reverse, Heap.get?_push_size _ rfl⟩
  · subst ex
    obtain ⟨tk, rfl⟩ := r1
    obtain ⟨l, rfl, el⟩ := IsPart.raw pl
    obtain ⟨u, rfl, eu⟩ := IsPart.raw pu
    obtain ⟨st, rfl, es⟩ := IsPart.raw ps
    show wpAny (model X.prog X.w) X.A (PyProof.Rows.subscriptTail a (.Slice none none (some (.UnaryOp .USub (.Constant (.int 1) k p1) p2)) p3) (.str (tS t) tk) (.ref s4.heap.objs.size)) (EP X pins σ Q) X.xe { s4 with heap := s4.heap.push { cls := .type "slice", data := .fields #[partValue l, partValue u, partValue st] } }
    refine PyProof.Rows.tail_any (ops := [.str (tS t) tk, .ref s4.heap.objs.size]) (typeIs_str _ _ _) (PySem.F.slot_str_getitem.lookup) ?_ (by with_unfolding_all rfl)
    have e1 : (st.map (·.1)).getD 1 = -1 := by rw [es]; rfl
    refine wpAny_getItem_str_slice (l := l) (u := u) (st := st) ⟨_, Heap.get?_push_size _ rfl, rfl, rfl⟩ (by rw [e1]; rfl) ?_
    unfold sliceMade slicePicked
    rw [e1, el, eu, if_neg (by simp), rev_pick]
    have e2 : (tS t).cps.toList.reverse = t.reverse := rfl
    rw [e2]
    exact ⟨by show t.reverse.toArray.size ≤ sizeLine; simpa using hz, .str (tS t.reverse), H4, J.tok _, ⟨_, rfl⟩, q⟩
theorem Reps.rev {φ : Fx} {H : Hp} {vs : List V} {ds : List D} (h : Reps Γ φ H vs ds) : Reps Γ φ H vs.reverse ds.reverse := by
  induction vs generalizing ds with
  | nil =>
    cases h
    exact .nil
  | cons v vs ih =>
    cases h with
    | cons a b =>
      rw [List.reverse_cons, List.reverse_cons]
      exact (ih b).append (.cons a .nil)
theorem revF_ok {φ : Fx} {H : Hp} {s : Stt} {x z : D} {v : V} {Q : VK} (hz : revF x = some z) (hv : Rep Γ φ H v x) (r1 : Rel Γ φ H s) (k : Ko Γ φ H s z Q) : (∃ a xs, v = .ref a ∧ SqL Γ.K H a xs ∧ ∀ p, H p = none → Q (.ref p) (upd H p (.lst xs.reverse))) ∨ ∃ t : T, v = .str (tS t) ∧ t.length ≤ sizeLine ∧ Q (.str (tS t.reverse)) H := by
  unfold revF at hz
  split at hz
  · split at hz
    · rename_i hl
      cases hz; cases hv
      exact .inr ⟨_, rfl, hl, k.here r1 (.str _)⟩
    · cases hz
  · cases hz
    cases hv with
    | lst a2 n2 r2 => exact .inl ⟨_, _, rfl, SqL.of a2, fun p hp => k.lst r1 r2.rev hp⟩
  · cases hz
theorem s_rev {k : Nat} {p1 p2 p3 : Pos} (hK : X.K = Γ.K) (ha : PE X a (dE Γ W ga)) : PE X (.Subscript a (.Slice none none (some (.UnaryOp .USub (.Constant (.int 1) k p1) p2)) p3) pos) (dE Γ W fun ρ s => (ga ρ s).bind fun x s => R.of (revF x) s) := (pe_rev ha).mono fun σ H Q ⟨φ, ρ, s, er, rel, go⟩ => by
  refine ⟨φ, ρ, s, er, rel, go.bind.imp fun x s1 φ1 H1 a1 r1 go1 v hv => ?_⟩
  obtain ⟨z, hz, k⟩ := go1.of
  rw [hK]
  exact revF_ok hz hv r1 k

/-! ### tests -/
theorem s_truth (hK : X.K = Γ.K) (ha : PE X a (dE Γ W ga)) (he : ∀ whole, isTrue a X.env whole = (do let v ← whole; standAt a.pos; holding [v] (truthy v))) : PT X a (dT Γ W fun ρ s => (ga ρ s).bind fun x s => R.of (truF s x) s) :=
  (pt_truth ha he).mono fun σ H Q ⟨φ, ρ, s, er, rel, go⟩ => by
  refine ⟨φ, ρ, s, er, rel, go.bind.imp fun x s1 φ1 H1 a1 r1 go1 v hv => ?_⟩
  obtain ⟨z, hz, k⟩ := go1.of
  exact ⟨z, hK ▸ truF_ok hz hv r1, k φ1 H1 (.refl _ _) r1⟩
theorem s_tcmp {o : Cmp} (hK : X.K = Γ.K) (hu : X.A.units + 65 < cLine) (hm : behindInMarks o.op b = false) (ha : PE X a (dE Γ W ga)) (hb : PE X b (dE Γ W gb)) :
    PT X (.Compare a [o.op] [b] pos) (dT Γ W fun ρ s => (ga ρ s).bind fun x s => (gb ρ s).bind fun y s => (R.of (cmpF o x y) s).bind fun z s => match z with
      | .bl k => .ok k s
      | _ => .stuck) := (pt_cmpR (hK ▸ op_cmp hu o) ha hb hm).mono fun σ H Q ⟨φ, ρ, s, er, rel, go⟩ => by
  refine ⟨φ, ρ, s, er, rel, go.bind.imp fun x s1 φ1 H1 a1 r1 go1 v hv => ?_⟩
  refine ⟨φ1, ρ, s1, er.mono a1, r1, go1.bind.imp fun y s2 φ2 H2 a2 r2 go2 u hu => ?_⟩
  obtain ⟨z, hz, k⟩ := go2.bind.of
  refine cmpF_ok hz (hv.mono a2) hu r2 fun φ3 H3 a3 r3 w hw => ?_
  have q := k φ3 H3 a3 r3
  cases z <;> first | exact q.elim | (cases hw; exact ⟨_, rfl, q φ3 H3 (.refl _ _) r3⟩)
theorem s_chain {o o' : Cmp} {c : Expr} {gc : G.Env → Stt → R D} (hK : X.K = Γ.K) (hu : X.A.units + 65 < cLine) (hm : lastMarks [o.op, o'.op] [b, c] = false) (ha : PE X a (dE Γ W ga)) (hb : PE X b (dE Γ W gb)) (hc : PE X c (dE Γ W gc)) :
    PE X (.Compare a [o.op, o'.op] [b, c] pos) (dE Γ W fun ρ s => (ga ρ s).bind fun x s => (gb ρ s).bind fun y s => (R.of (cmpF o x y) s).bind fun z s => match z with
      | .bl true => (gc ρ s).bind fun w s => R.of (cmpF o' y w) s
      | .bl false => .ok (.bl false) s
      | _ => .stuck) := (pe_chain (hK ▸ op_cmp hu o) (hK ▸ op_cmp hu o') ha hb hc hm).mono fun σ H Q ⟨φ, ρ, s, er, rel, go⟩ => by
  refine ⟨φ, ρ, s, er, rel, go.bind.imp fun x s1 φ1 H1 a1 r1 go1 v hv => ?_⟩
  refine ⟨φ1, ρ, s1, er.mono a1, r1, go1.bind.imp fun y s2 φ2 H2 a2 r2 go2 u hu => ?_⟩
  obtain ⟨z, hz, k⟩ := go2.bind.of
  refine cmpF_ok hz (hv.mono a2) hu r2 fun φ3 H3 a3 r3 w hw => ?_
  have q := k φ3 H3 a3 r3
  cases z <;> try exact q.elim
  rename_i k'
  cases hw
  refine ⟨_, rfl, ?_⟩
  cases k' with
  | false =>
    show Q (.bl false) H3
    exact q φ3 H3 (.refl _ _) r3 _ (.bl _)
  | true =>
    show dE Γ W gc σ H3 _
    refine ⟨φ3, ρ, s2, er.mono (a1.trans (a2.trans a3)), r3, q.bind.imp fun w s4 φ4 H4 a4 r4 go4 t ht => ?_⟩
    obtain ⟨z', hz', k'⟩ := go4.of
    exact cmpF_ok hz' (hu.mono (a3.trans a4)) ht r4 k'
theorem s_tchain {o o' : Cmp} {c : Expr} {gc : G.Env → Stt → R D} (hK : X.K = Γ.K) (hu : X.A.units + 65 < cLine) (hm : lastMarks [o.op, o'.op] [b, c] = false) (ha : PE X a (dE Γ W ga)) (hb : PE X b (dE Γ W gb)) (hc : PE X c (dE Γ W gc)) :
    PT X (.Compare a [o.op, o'.op] [b, c] pos) (dT Γ W fun ρ s => (ga ρ s).bind fun x s => (gb ρ s).bind fun y s => (R.of (cmpF o x y) s).bind fun z s => match z with
      | .bl true => (gc ρ s).bind fun w s => (R.of (cmpF o' y w) s).bind fun z s => match z with
        | .bl k => .ok k s
        | _ => .stuck
      | .bl false => .ok false s
      | _ => .stuck) := (pt_chain (hK ▸ op_cmp hu o) (hK ▸ op_cmp hu o') ha hb hc hm).mono fun σ H Q ⟨φ, ρ, s, er, rel, go⟩ => by
  refine ⟨φ, ρ, s, er, rel, go.bind.imp fun x s1 φ1 H1 a1 r1 go1 v hv => ?_⟩
  refine ⟨φ1, ρ, s1, er.mono a1, r1, go1.bind.imp fun y s2 φ2 H2 a2 r2 go2 u hu => ?_⟩
  obtain ⟨z, hz, k⟩ := go2.bind.of
  refine cmpF_ok hz (hv.mono a2) hu r2 fun φ3 H3 a3 r3 w hw => ?_
  have q := k φ3 H3 a3 r3
  cases z <;> try exact q.elim
  rename_i k'
  cases hw
  refine ⟨_, rfl, ?_⟩
  cases k' with
  | false => exact ⟨_, rfl, q φ3 H3 (.refl _ _) r3⟩
  | true =>
    show dE Γ W gc σ H3 _
    refine ⟨φ3, ρ, s2, er.mono (a1.trans (a2.trans a3)), r3, q.bind.imp fun w s4 φ4 H4 a4 r4 go4 t ht => ?_⟩
    obtain ⟨z', hz', k'⟩ := go4.bind.of
    refine cmpF_ok hz' (hu.mono (a3.trans a4)) ht r4 fun φ5 H5 a5 r5 w' hw' => ?_
    have q' := k' φ5 H5 a5 r5
    cases z' <;> first | exact q'.elim | (cases hw'; exact ⟨_, rfl, q' φ5 H5 (.refl _ _) r5⟩)
theorem s_tnot {gt : G.Env → Stt → R Bool} (ha : PT X a (dT Γ W gt)) : PT X (.UnaryOp .Not a pos) (dT Γ W fun ρ s => (gt ρ s).bind fun k s => .ok (!k) s) := (pt_not ha).mono fun σ H Q ⟨φ, ρ, s, er, rel, go⟩ =>
  ⟨φ, ρ, s, er, rel, go.bind.imp fun k s1 φ1 H1 a1 r1 go1 => go1 φ1 H1 (.refl _ _) r1⟩
theorem s_tand1 {g : G.Env → Stt → R Bool} (ha : PT X a (dT Γ W g)) : PW X (.BoolOp .And [a] pos) (dT Γ W g) := pw_and1 ha
theorem s_tor1 {g : G.Env → Stt → R Bool} (ha : PT X a (dT Γ W g)) : PW X (.BoolOp .Or [a] pos) (dT Γ W g) := pw_or1 ha
theorem s_tand {r : List Expr} {gt gu : G.Env → Stt → R Bool} (ha : PT X a (dT Γ W gt)) (hb : PW X (.BoolOp .And (b :: r) pos) (dT Γ W gu)) : PW X (.BoolOp .And (a :: b :: r) pos) (dT Γ W fun ρ s => (gt ρ s).bind fun k s => if k = true then gu ρ s else .ok false s) := (pw_and ha hb).mono fun σ H Q ⟨φ, ρ, s, er, rel, go⟩ => by
  refine ⟨φ, ρ, s, er, rel, go.bind.imp fun k s1 φ1 H1 a1 r1 go1 => ?_⟩
  cases k with
  | true => exact ⟨φ1, ρ, s1, er.mono a1, r1, go1⟩
  | false => exact go1 φ1 H1 (.refl _ _) r1
theorem s_tor {r : List Expr} {gt gu : G.Env → Stt → R Bool} (ha : PT X a (dT Γ W gt)) (hb : PW X (.BoolOp .Or (b :: r) pos) (dT Γ W gu)) : PW X (.BoolOp .Or (a :: b :: r) pos) (dT Γ W fun ρ s => (gt ρ s).bind fun k s => if k = true then .ok true s else gu ρ s) := (pw_or ha hb).mono fun σ H Q ⟨φ, ρ, s, er, rel, go⟩ => by
  refine ⟨φ, ρ, s, er, rel, go.bind.imp fun k s1 φ1 H1 a1 r1 go1 => ?_⟩
  cases k with
  | true => exact go1 φ1 H1 (.refl _ _) r1
  | false => exact ⟨φ1, ρ, s1, er.mono a1, r1, go1⟩

/-! ### built-ins -/
theorem back_ns {env : PySem.Env} : ∀ {es : List Expr}, es.all ns = true → (backTo pos (starEach es env)).any (·.1) = false
  | [], _ => rfl
  | e :: es, h => by
    simp only [List.all_cons, Bool.and_eq_true] at h
    rw [star_ns h.1]
    show (false || (backTo pos (starEach es env)).any (·.1)) = false
    rw [back_ns h.2]
    rfl
theorem pe_bi {x : Str} {p : Pos} {v : Value} {r : List V → Hp → VK → Prop} {t : TA} (hc : CallR X v r) (hv : bootBuiltins x = some v) (ht : (∃ i, v = .builtin i) ∨ ∃ i, v = .type i) (hg : Gl X x) (hm : X.mg x = none) (ha : PA X (e :: es) t) (hn : x ≠ "__name__") (hdb : (x == ("__debug__" : Str)) = false) (h : (e :: es).all ns = true) :
    PE X (.Call (.Name x p) (e :: es) [] pos) (tCB r t) := by
  simp only [List.all_cons, Bool.and_eq_true] at h
  rcases ht with ⟨i, rfl⟩ | ⟨i, rfl⟩
  · exact pe_callB hc hg hm hv ha hn hdb (star_ns h.1) (back_ns h.2)
  · exact pe_callTy hc hg hm hv ha hn hdb (star_ns h.1) (back_ns h.2)
theorem Bi.nn (b : Bi) : b.nm ≠ "__name__" ∧ (b.nm == ("__debug__" : Str)) = false := by cases b <;> decide +kernel
theorem Bi.vt (b : Bi) : (∃ i, b.val = .builtin i) ∨ ∃ i, b.val = .type i := by cases b <;> first | exact .inl ⟨_, rfl⟩ | exact .inr ⟨_, rfl⟩
theorem s_bi {o : Bi} {p : Pos} (hK : X.K = Γ.K) (hc : X.calm = true) (hg : Gl X o.nm) (hm : X.mg o.nm = none) (h : ns a = true) (ha : PE X a (dE Γ W ga)) :
    PE X (.Call (.Name o.nm p) [a] [] pos) (dE Γ W fun ρ s => (ga ρ s).bind fun x s => R.of (biF o s x) s) :=
  (pe_bi (op_bi hc o) o.boot o.vt hg hm (pa_cons ha pa_nil (star_ns h)) o.nn.1 o.nn.2 (by simp [h])).mono fun σ H Q ⟨φ, ρ, s, er, rel, go⟩ => by
  refine ⟨φ, ρ, s, er, rel, go.bind.imp fun x s1 φ1 H1 a1 r1 go1 v hv => ?_⟩
  obtain ⟨z, hz, k⟩ := go1.of
  exact hK ▸ biF_ok hz hv r1 k
/-- list(x), a cell -/
theorem s_mk {p : Pos} (hK : X.K = Γ.K) (hc : X.calm = true) (hg : Gl X (Bi.list).nm) (hm : X.mg (Bi.list).nm = none) (h : ns a = true) (ha : PE X a (dE Γ W ga)) :
    PE X (.Call (.Name (Bi.list).nm p) [a] [] pos) (dE Γ W fun ρ s => (ga ρ s).bind fun x s => match itemsF s x with
      | some xs => .ok (.ref s.length) (s ++ [.lst xs])
      | none => .stuck) :=
  (pe_bi (op_bi hc .list) (Bi.list).boot (Bi.list).vt hg hm (pa_cons ha pa_nil (star_ns h)) (Bi.list).nn.1 (Bi.list).nn.2 (by simp [h])).mono fun σ H Q ⟨φ, ρ, s, er, rel, go⟩ => by
  refine ⟨φ, ρ, s, er, rel, go.bind.imp fun x s1 φ1 H1 a1 r1 go1 v hv => ?_⟩
  cases e : itemsF s1 x with
  | none =>
    rw [e] at go1
    exact go1.elim
  | some xs =>
    rw [e] at go1
    obtain ⟨b, vs, rfl, h1, h2⟩ := itemsF_ok e hv r1
    rw [hK]
    refine ⟨b, vs, rfl, h1, fun l hl => ?_⟩
    refine go1 ⟨φ1.cs ++ [l], φ1.hd⟩ _ (.cell hl) (r1.push hl h2) _ (.ref ?_)
    rw [← r1.len]
    simp
/-! ### texts with values in them -/
theorem s_fmt (ha : PE X a (dE Γ W ga)) : PE X (.FormattedValue a (-1) none pos) (dE Γ W fun ρ s => (ga ρ s).bind fun x s => R.of (fmtF x) s) := (pe_fmt ha).mono fun σ H Q ⟨φ, ρ, s, er, rel, go⟩ => by
  refine ⟨φ, ρ, s, er, rel, go.bind.imp fun x s1 φ1 H1 a1 r1 go1 v hv => ?_⟩
  obtain ⟨z, hz, k⟩ := go1.of
  unfold fmtF at hz
  split at hz
  · split at hz
    · rename_i h
      cases hz
      cases hv
      exact .inl ⟨_, rfl, by rw [tS_len]; exact h, k φ1 H1 (.refl _ _) r1 _ (.str _)⟩
    · cases hz
  · split at hz
    · rename_i h
      cases hz
      cases hv
      refine .inr ⟨_, rfl, h, ?_⟩
      have := k φ1 H1 (.refl _ _) r1 _ (.str (intT _))
      rw [tS_intT] at this
      exact this
    · cases hz
  · cases hz
/-- a written text as a part -/
inductive PJs (X : Cx) (Γ : Gm) (W : WX) : List Expr → List (G.Env → Stt → R D) → Prop where
  | nil : PJs X Γ W [] []
  | cons {e : Expr} {g : G.Env → Stt → R D} {es : List Expr} {gs : List (G.Env → Stt → R D)} (h : PE X e (dE Γ W g)) (r : PJs X Γ W es gs) : PJs X Γ W (e :: es) (g :: gs)
def evFL : List (G.Env → Stt → R D) → T → G.Env → Stt → R D
  | [], acc, _, s => .ok (.str acc) s
  | g :: gs, acc, ρ, s => (g ρ s).bind fun x s => match x with
    | .str y => if (acc ++ y).length ≤ sizeLine then evFL gs (acc ++ y) ρ s else .stuck
    | _ => .stuck
theorem PJs.pj : ∀ {es : List Expr} {gs : List (G.Env → Stt → R D)}, PJs X Γ W es gs → PJ X es (gs.map fun g => dE Γ W g)
  | _, _, .nil => .nil
  | _, _, .cons h r => .cons h r.pj
theorem tjs_read {σ : St} {Q : VK} : ∀ {gs : List (G.Env → Stt → R D)} {acc : T} {φ : Fx} {H : Hp} {ρ : G.Env} {s : Stt}, ER Γ φ H σ ρ → Rel Γ φ H s →
    Go Γ W φ H σ (evFL gs acc ρ s) (fun d s' φ' H' => ∀ v, Rep Γ φ' H' v d → Q v H') → tJs (gs.map fun g => dE Γ W g) (tS acc) σ H fun out H1 => Q (.str out) H1
  | [], acc, φ, H, ρ, s, er, rel, go => go φ H (.refl _ _) rel _ (.str _)
  | g :: gs, acc, φ, H, ρ, s, er, rel, go => by
    refine ⟨φ, ρ, s, er, rel, go.bind.imp fun x s1 φ1 H1 a1 r1 go1 v hv => ?_⟩
    cases x <;> try exact go1.elim
    rename_i y
    simp only at go1
    split at go1
    · rename_i hl
      cases hv
      refine ⟨_, rfl, by rw [← tS_app, tS_len]; exact hl, ?_⟩
      rw [← tS_app]
      exact tjs_read (er.mono a1) r1 go1
    · exact go1.elim
theorem s_fstr {v1 v2 : Expr} {rest : List Expr} {gs : List (G.Env → Stt → R D)} (h : PJs X Γ W (v1 :: v2 :: rest) gs) : PE X (.JoinedStr (v1 :: v2 :: rest) pos) (dE Γ W (evFL gs [])) := (pe_joined h.pj).mono fun σ H Q ⟨φ, ρ, s, er, rel, go⟩ => tjs_read (acc := []) er rel go
end
end G

set_option Elab.async false
set_option linter.all false
set_option maxRecDepth 100000
/-! What is walked, comprehensions, isinstance, methods, calls. -/
namespace G
open PySem L2

section
variable {Γ : Gm} {W : WX} {X : Cx} {pos : Pos} {a b c e : Expr} {ga gb gc : G.Env → Stt → R D} {es : List Expr}

/-! ### what is walked -/
/-- from φ0, H0 on the iterator yields the data ds -/
def Wk (Γ : Gm) (J : L2.It) (φ0 : Fx) (H0 : Hp) (ds : List D) : Prop := ∀ (i : Nat) φ H s, After φ0 H0 φ H → Rel Γ φ H s →
  (i < ds.length → J.go i H ∧ ∀ x H', J.yld i H x H' → After φ H φ H' ∧ Rel Γ φ H' s ∧ ∃ d, ds[i]? = some d ∧ Rep Γ φ H' x d) ∧ (ds.length ≤ i → J.stop i H)
def dI (Γ : Gm) (W : WX) (g : G.Env → Stt → R (List D)) : TI := fun σ H R => ∃ φ ρ s, ER Γ φ H σ ρ ∧ Rel Γ φ H s ∧ Go Γ W φ H σ (g ρ s) fun ds s' φ' H' => ∀ J, Wk Γ J φ' H' ds → R J H'

theorem wk_list' {K : PySem.W.Frag} {φ : Fx} {H : Hp} {a : Addr} {xs : List V} {ds : List D} (h : H a = some (.lst xs)) (n : φ.out a) (r : Reps Γ φ H xs ds) : Wk Γ (Itl K a) φ H ds := by
  intro i φ1 H1 s A1 R1
  have h1 := A1.keep _ _ h not_lst n.1
  have r1 := r.mono A1
  refine ⟨fun hi => ?_, fun hi => ⟨xs, SqL.of h1, by rw [r1.len]; exact hi⟩⟩
  obtain ⟨v, hv, rv⟩ := r1.get (i := i) (List.getElem?_eq_getElem hi)
  refine ⟨⟨xs, v, SqL.of h1, hv⟩, fun x H' ⟨e, q⟩ => ?_⟩
  subst e
  have := q xs (SqL.of h1)
  rw [hv] at this
  cases this
  exact ⟨.refl _ _, R1, _, List.getElem?_eq_getElem hi, rv⟩
theorem wk_tup {φ : Fx} {H : Hp} {a : Addr} {xs : List V} {ds : List D} (h : SqT Γ.K H a xs) (r : Reps Γ φ H xs ds) : Wk Γ (Itt Γ.K a) φ H ds := by
  intro i φ1 H1 s A1 R1
  have h1 := SqT.mono A1 h
  have r1 := r.mono A1
  refine ⟨fun hi => ?_, fun hi => ⟨xs, h1, by rw [r1.len]; exact hi⟩⟩
  obtain ⟨v, hv, rv⟩ := r1.get (i := i) (List.getElem?_eq_getElem hi)
  refine ⟨⟨xs, v, h1, hv⟩, fun x H' ⟨e, q⟩ => ?_⟩
  subst e
  have := q xs h1
  rw [hv] at this
  cases this
  exact ⟨.refl _ _, R1, _, List.getElem?_eq_getElem hi, rv⟩
theorem wk_str {φ : Fx} {H : Hp} {t : T} : Wk Γ (Its (tS t)) φ H (t.map fun c => .str [c]) := by
  intro i φ1 H1 s A1 R1
  have hl : (tS t).cps.size = t.length := by simp [tS]
  refine ⟨fun hi => ?_, fun hi => by show (tS t).cps.size ≤ i; rw [hl]; simpa using hi⟩
  rw [List.length_map] at hi
  refine ⟨by show i < (tS t).cps.size; rw [hl]; exact hi, fun x H' ⟨e, c, hc, ex⟩ => ?_⟩
  subst e ex
  have hc : t[i]? = some c := by simpa [tS] using hc
  exact ⟨.refl _ _, R1, _, by rw [List.getElem?_map, hc]; rfl, .str [c]⟩
theorem wk_rng {φ : Fx} {H : Hp} {lo : Int} {n : Nat} : Wk Γ (Itr lo n) φ H ((List.range n).map fun i => .int (lo + (i : Nat))) := by
  intro i φ1 H1 s A1 R1
  refine ⟨fun hi => ?_, fun hi => by show n ≤ i; simpa using hi⟩
  have hi : i < n := by simpa using hi
  refine ⟨hi, fun x H' ⟨e, ex⟩ => ?_⟩
  subst e ex
  exact ⟨.refl _ _, R1, .int (lo + i), by simp [hi], .int _⟩
theorem wk_enum {K : PySem.W.Frag} {φ : Fx} {H : Hp} {a : Addr} {xs : List V} {ds : List D} (h : H a = some (.lst xs)) (n : φ.out a) (r : Reps Γ φ H xs ds) : Wk Γ (Ite K a) φ H (ds.mapIdx fun i x => .tup [.int i, x]) := by
  intro i φ1 H1 s A1 R1
  have h1 := A1.keep _ _ h not_lst n.1
  have r1 := r.mono A1
  refine ⟨fun hi => ?_, fun hi => ⟨xs, SqL.of h1, by rw [r1.len]; simpa using hi⟩⟩
  have hi : i < ds.length := by simpa using hi
  obtain ⟨v, hv, rv⟩ := r1.get (i := i) (List.getElem?_eq_getElem hi)
  refine ⟨⟨xs, v, SqL.of h1, hv⟩, fun x H' ⟨T, y, e1, hT, e2, q⟩ => ?_⟩
  subst e1 e2
  have := q xs (SqL.of h1)
  rw [hv] at this
  cases this
  refine ⟨.fresh hT, R1.fresh hT, .tup [.int i, ds[i]], by simp [hi], ?_⟩
  exact .tup (SqT.of upd_same) (.cons (.int _) (.cons (rv.mono (.fresh hT)) .nil))

/-- each sign of a text with its place, in a new pair -/
def Iten (z : Str) : L2.It := ⟨fun i _ => i < z.cps.size, fun i H v H' => ∃ T c, v = .ref T ∧ H T = none ∧ H' = upd H T (.tup [.int (i : Nat), .str ⟨#[c]⟩]) ∧ z.cps[i]? = some c, fun i _ => z.cps.size ≤ i⟩
theorem turn_enumS {P : Program} {w : World} {K : PySem.W.Frag} {elts : List Expr} {kk : Nat} {tpos : Pos} (e it : Addr) (z : Str) (t : Tok) (ty : String) (hty : ty = "str_ascii_iterator" ∨ ty = "str_iterator") :
    Turn P w K (.Tuple elts kk tpos) (Iten z) [e, it] e (fun i h => (∃ old, IsEnum h e it ((i : Nat) : Int) old) ∧ h.IsStrIter it ty z t i ∧ e ≠ it ∧ i ≤ z.cps.size) where
  mem := by simp
  obj := fun i h st b hb => by
    obtain ⟨⟨old, he⟩, ⟨o, ho, hc, hd⟩, _⟩ := st
    have e' : b = e ∨ b = it := by simpa using hb
    rcases e' with q | q
    · rw [q]; exact ⟨_, he, fun v q => nomatch q⟩
    · rw [q]; exact ⟨o, ho, fun v q => by rw [hd] at q; cases q⟩
  keep := fun i h h' st k => let ⟨⟨old, he⟩, ⟨o, ho, r⟩, hne⟩ := st; ⟨⟨old, k e (by simp) _ he⟩, ⟨o, k it (by simp) _ ho, r⟩, hne⟩
  item := by
    intro X hP hw hK hc i pins s σ H E I hf st hg
    subst hP hw hK
    obtain ⟨hen, hit, hne, hle⟩ := st
    have W : WalksT X.prog X.w X.A e [e, it] [e, it] z.cps.size (fun i vals => ∃ t x, (∃ c u, z.cps[i]? = some c ∧ x = .str ⟨#[c]⟩ u) ∧ vals = #[.int i t, x]) (fun i h => (∃ old, IsEnum h e it i old) ∧ h.IsStrIter it ty z t i)
        (fun i T h => (∃ x, PySem.IsEnumOut h e it ((i : Int) + 1) x T) ∧ h.IsStrIter it ty z t (i + 1) ∧ T ≠ e ∧ T ≠ it) := by
      rcases hty with q | q
      · rw [q]; exact WalksT.enumerateD (Draws.strAscii (A := X.A.in1) (I.ok.hd hc) it z t) e hne (by simpa using hne) (by simp)
      · rw [q]; exact WalksT.enumerateD (Draws.strWide (A := X.A.in1) (I.ok.hd hc) it z t) e hne (by simpa using hne) (by simp)
    refine W.item i s _ _ hg ⟨hen, hit⟩ fun T vals h' tk hP hT hTup hMid k1 => ?_
    obtain ⟨t1, x, ⟨c, u, hc1, rfl⟩, rfl⟩ := hP
    have hap := W.apart i T h' hMid
    refine ⟨_, rfl, W.go elts kk tpos i T { s with heap := h', toks := tk } _ _ hMid fun h'' st' k2 => ?_⟩
    have hT2 : h''.IsTuple T #[.int i t1, .str ⟨#[c]⟩ u] := by
      obtain ⟨o, ho, r⟩ := hTup
      exact ⟨o, k2 T o hap ho, r⟩
    have new : ObjOk X.prog X.w (upd H T (.tup [.int (i : Nat), .str ⟨#[c]⟩])) h'' T (.tup [.int (i : Nat), .str ⟨#[c]⟩]) :=
      ⟨by show 2 ≤ sizeLine; decide, [.int i t1, .str ⟨#[c]⟩ u], .cons ⟨_, rfl⟩ (.cons ⟨_, rfl⟩ .nil), hT2⟩
    have I1 : L2.Inv X pins σ (upd H T (.tup [.int (i : Nat), .str ⟨#[c]⟩])) { s with heap := h'', toks := tk } :=
      I.turnedNew (ch := [e, it]) (fun b ob hb q => k2 b _ hb (k1 b ob hb q)) hf hT new
    refine ⟨.ref T, _, I1, rfl, ⟨T, c, rfl, I.hok.fresh hT, rfl, hc1⟩, ⟨st'.1, st'.2, hne, hg⟩, fun b hb => ?_⟩
    rw [upd_ne]
    · exact (hf b hb).1
    · intro q
      exact hap (q ▸ hb)
  done := by
    intro X hP hw hK hc i pins s σ H E I hf st hg
    subst hP hw hK
    obtain ⟨hen, hit, hne, hle⟩ := st
    have W : WalksT X.prog X.w X.A e [e, it] [e, it] z.cps.size (fun i vals => ∃ t x, (∃ c u, z.cps[i]? = some c ∧ x = .str ⟨#[c]⟩ u) ∧ vals = #[.int i t, x]) (fun i h => (∃ old, IsEnum h e it i old) ∧ h.IsStrIter it ty z t i)
        (fun i T h => (∃ x, PySem.IsEnumOut h e it ((i : Int) + 1) x T) ∧ h.IsStrIter it ty z t (i + 1) ∧ T ≠ e ∧ T ≠ it) := by
      rcases hty with q | q
      · rw [q]; exact WalksT.enumerateD (Draws.strAscii (A := X.A.in1) (I.ok.hd hc) it z t) e hne (by simpa using hne) (by simp)
      · rw [q]; exact WalksT.enumerateD (Draws.strWide (A := X.A.in1) (I.ok.hd hc) it z t) e hne (by simpa using hne) (by simp)
    have ei : i = z.cps.size := Nat.le_antisymm hle hg
    subst ei
    refine W.done s _ _ ⟨hen, hit⟩ fun h' tk k1 => ?_
    exact ⟨rfl, I.turnedL k1 hf⟩
  self := fun A i s Q E st h => let ⟨⟨_, he⟩, _⟩ := st; wpAny_pyIter_enum he h
theorem s_iseq {tg : Expr} (hK : X.K = Γ.K) (ha : PE X a (dE Γ W ga)) : PI X tg a (dI Γ W fun ρ s => (ga ρ s).bind fun x s => R.of (srcF .seq s [x]) s) := by
  have h1 : PI X tg a (fun σ H R => dE Γ W ga σ H fun x H1 => (∃ a xs, x = .ref a ∧ H1 a = some (.lst xs) ∧ R (Itl Γ.K a) H1) ∨ (∃ a xs, x = .ref a ∧ SqT Γ.K H1 a xs ∧ R (Itt Γ.K a) H1) ∨ ∃ z, x = .str z ∧ R (Its z) H1) := by
    refine ⟨fun pins s σ H R I h => ?_⟩
    refine thn (ha.run pins s σ H _ I h) fun v s1 ⟨x, H1, I1, r1, q1⟩ => ?_
    rcases q1 with ⟨p, xs, rfl, h2, q⟩ | ⟨p, xs, rfl, h2, q⟩ | ⟨z, rfl, q⟩
    · cases r1
      obtain ⟨its, rv, pl, hz⟩ := I1.list (SqL.of h2)
      refine wpAny_pyIter_list pl.isList ?_
      rw [← hK] at q
      refine ⟨s1.heap.objs.size, [s1.heap.objs.size], _, _, H1, rfl, I1.kept (t' := s1.toks) fun b o e => Heap.get?_push_of_some _ e, turn_list p _, ⟨_, Heap.get?_push_size _ rfl, rfl, rfl⟩, fun b hb => ?_, q⟩
      have e : b = s1.heap.objs.size := by simpa using hb
      subst e
      exact I1.fpOk (Nat.le_refl _) (I1.hok.fresh (Nat.le_refl _))
    · cases r1
      rw [← hK] at h2 q
      obtain ⟨its, rv, pl, hz⟩ := I1.tuple h2
      refine wpAny_pyIter_tuple (show s1.heap.IsTuple p its.toArray from pl) ?_
      refine ⟨s1.heap.objs.size, [s1.heap.objs.size], _, _, H1, rfl, I1.kept (t' := s1.toks) fun b o e => Heap.get?_push_of_some _ e, turn_tuple p _, ⟨_, Heap.get?_push_size _ rfl, rfl, rfl⟩, fun b hb => ?_, q⟩
      have e : b = s1.heap.objs.size := by simpa using hb
      subst e
      exact I1.fpOk (Nat.le_refl _) (I1.hok.fresh (Nat.le_refl _))
    · obtain ⟨t, rfl⟩ := r1
      cases ha : z.cps.all (· < 128)
      · exact wpAny_pyIter_wide ha (pi_one (tk := s1.toks) I1 _ (turn_str _ z t "str_iterator" (.inr rfl)) ⟨_, Heap.get?_push_size _ rfl, rfl, rfl⟩ q)
      · exact wpAny_pyIter_ascii ha (pi_one (tk := s1.toks) I1 _ (turn_str _ z t "str_ascii_iterator" (.inl rfl)) ⟨_, Heap.get?_push_size _ rfl, rfl, rfl⟩ q)
  refine h1.mono fun σ H R ⟨φ, ρ, s, er, rel, go⟩ => ?_
  refine ⟨φ, ρ, s, er, rel, go.bind.imp fun x s1 φ1 H1 a1 r1 go1 v hv => ?_⟩
  obtain ⟨z, hz, k⟩ := go1.of
  have k := k φ1 H1 (.refl _ _) r1
  unfold srcF at hz
  split at hz <;> rename_i e1 e2 <;> simp only [List.cons.injEq, and_true, reduceCtorEq, false_and, and_false] at e1 e2
  · subst e2; cases hz
    cases hv with
    | lst h n r => exact .inl ⟨_, _, rfl, h, k _ (wk_list' h n r)⟩
  · subst e2; cases hz
    cases hv with
    | tup h r => exact .inr (.inl ⟨_, _, rfl, h, k _ (wk_tup h r)⟩)
  · subst e2; cases hz
    cases hv with
    | str t => exact .inr (.inr ⟨_, rfl, k _ wk_str⟩)
  · cases hz
theorem bind1 {β : Type} {r : R D} {f : List D → Stt → R β} : ((r.bind fun x s => (R.ok [] s).bind fun xs s => R.ok (x :: xs) s).bind f) = r.bind fun x s => f [x] s := by cases r <;> rfl
theorem s_iseq' {tg : Expr} (hK : X.K = Γ.K) (ha : PE X a (dE Γ W ga)) : PI X tg a (dI Γ W fun ρ s => ((ga ρ s).bind fun x s => (R.ok [] s).bind fun xs s => R.ok (x :: xs) s).bind fun ds s => R.of (srcF .seq s ds) s) := by
  have h := s_iseq (tg := tg) hK ha
  have e : (fun ρ s => ((ga ρ s).bind fun x s => (R.ok [] s).bind fun xs s => R.ok (x :: xs) s).bind fun ds s => R.of (srcF .seq s ds) s) = (fun ρ s => (ga ρ s).bind fun x s => R.of (srcF .seq s [x]) s) := by
    funext ρ s
    exact bind1
  rw [e]
  exact h
theorem s_isrc {tg iter : Expr} {k : G.It} {wi : TI} {gs : G.Env → Stt → R (List D)} (h : PI X tg iter wi)
    (ok : ∀ σ H R, dA Γ W gs σ H (fun vs H1 => ∃ φ1 s1 ds xs, Rel Γ φ1 H1 s1 ∧ Reps Γ φ1 H1 vs ds ∧ srcF k s1 ds = some xs ∧ ∀ J, Wk Γ J φ1 H1 xs → R J H1) → wi σ H R) :
    PI X tg iter (dI Γ W fun ρ s => (gs ρ s).bind fun ds s => R.of (srcF k s ds) s) := h.mono fun σ H R ⟨φ, ρ, s, er, rel, go⟩ => by
  refine ok σ H R ⟨φ, ρ, s, er, rel, go.bind.imp fun ds s1 φ1 H1 a1 r1 go1 vs hvs => ?_⟩
  obtain ⟨xs, hx, k⟩ := go1.of
  exact ⟨φ1, s1, ds, xs, r1, hvs, hx, k φ1 H1 (.refl _ _) r1⟩
theorem dA_imp {gs : G.Env → Stt → R (List D)} {σ : St} {H : Hp} {Q Q' : List V → Hp → Prop} (h : dA Γ W gs σ H Q) (f : ∀ vs H1, Q vs H1 → Q' vs H1) : dA Γ W gs σ H Q' := by
  obtain ⟨φ, ρ, s, er, rel, go⟩ := h
  exact ⟨φ, ρ, s, er, rel, go.imp fun ds s1 φ1 H1 a1 r1 q vs hvs => f vs H1 (q vs hvs)⟩
theorem s_irng1 {tg : Expr} {p : Pos} {gs : G.Env → Stt → R (List D)} (hg : Gl X "range") (hm : X.mg "range" = none) (hn : ns a = true) (ha : PA X [a] (dA Γ W gs)) : PI X tg (.Call (.Name "range" p) [a] [] pos) (dI Γ W fun ρ s => (gs ρ s).bind fun ds s => R.of (srcF .range1 s ds) s) := by
  refine s_isrc (pi_range1 hg hm ha (by rw [star_ns hn]; rfl)) fun σ H R h => dA_imp h fun vs H1 ⟨φ1, s1, ds, xs, r1, hvs, hz, k⟩ => ?_
  unfold srcF at hz
  split at hz <;> rename_i e1 <;> simp only [reduceCtorEq, false_implies, implies_true] at e1 <;> try cases hz
  · split at hz
    · rename_i hb
      cases hz
      cases hvs with
      | cons hv hr =>
        cases hr
        cases hv
        have w := @wk_rng Γ φ1 H1 0
        simp only [Int.zero_add] at w
        exact ⟨_, rfl, hb.1, hb.2, k _ w⟩
    · cases hz
theorem s_irng2 {tg b : Expr} {p : Pos} {gs : G.Env → Stt → R (List D)} (hg : Gl X "range") (hm : X.mg "range" = none) (hn : ns a = true) (hn2 : ns b = true) (ha : PA X [a, b] (dA Γ W gs)) : PI X tg (.Call (.Name "range" p) [a, b] [] pos) (dI Γ W fun ρ s => (gs ρ s).bind fun ds s => R.of (srcF .range2 s ds) s) := by
  refine s_isrc (pi_range2 hg hm ha (by rw [star_ns hn, star_ns hn2]; rfl) (by rw [star_ns hn2]; rfl)) fun σ H R h => dA_imp h fun vs H1 ⟨φ1, s1, ds, xs, r1, hvs, hz, k⟩ => ?_
  unfold srcF at hz
  split at hz <;> rename_i e1 <;> simp only [reduceCtorEq, false_implies, implies_true] at e1 <;> try cases hz
  · split at hz
    · rename_i hb
      cases hz
      cases hvs with
      | cons hv hr =>
        cases hv
        cases hr with
        | cons hv hr =>
          cases hr
          cases hv
          exact ⟨_, _, rfl, hb, k _ wk_rng⟩
    · cases hz
theorem wk_rngD {φ : Fx} {H : Hp} {lo : Int} {n : Nat} : Wk Γ (Itc lo (-1) n) φ H ((List.range n).map fun i => .int (lo - (i : Nat))) := by
  intro i φ1 H1 s A1 R1
  refine ⟨fun hi => ?_, fun hi => by show n ≤ i; simpa using hi⟩
  have hi : i < n := by simpa using hi
  refine ⟨hi, fun x H' ⟨e, ex⟩ => ?_⟩
  subst e ex
  have e2 : lo + (i : Nat) * (-1 : Int) = lo - (i : Nat) := by omega
  rw [e2]
  exact ⟨.refl _ _, R1, .int (lo - i), by simp [hi], .int _⟩
theorem s_irng3 {tg b d : Expr} {p : Pos} {gs : G.Env → Stt → R (List D)} (hg : Gl X "range") (hm : X.mg "range" = none) (hn : ns a = true) (hn2 : ns b = true) (hn3 : ns d = true) (ha : PA X [a, b, d] (dA Γ W gs)) : PI X tg (.Call (.Name "range" p) [a, b, d] [] pos) (dI Γ W fun ρ s => (gs ρ s).bind fun ds s => R.of (srcF .range3 s ds) s) := by
  refine s_isrc (pi_range3 hg hm ha (by rw [star_ns hn]) (back_ns (by simp [hn2, hn3]))) fun σ H R h => dA_imp h fun vs H1 ⟨φ1, s1, ds, xs, r1, hvs, hz, k⟩ => ?_
  unfold srcF at hz
  split at hz <;> rename_i e1 <;> simp only [reduceCtorEq, false_implies, implies_true] at e1 <;> try cases hz
  · split at hz
    · rename_i hb
      cases hz
      cases hvs with
      | cons hv hr =>
        cases hv
        cases hr with
        | cons hv hr =>
          cases hv
          cases hr with
          | cons hv hr =>
            cases hr
            cases hv
            obtain ⟨c1, h1, h2, h3, h4⟩ := hb
            subst c1
            exact ⟨_, _, _, _, rfl, RgC.neg h1 h2 h3 h4, k _ wk_rngD⟩
    · cases hz
def iEnum2 (K : PySem.W.Frag) (ta : TA) : TI := fun σ H R => ta σ H fun vs H1 => (∃ a xs, vs = [.ref a] ∧ SqL K H1 a xs ∧ R (Ite K a) H1) ∨ ∃ z, vs = [.str z] ∧ R (Iten z) H1
theorem pi_enum2 {e : Expr} {ta : TA} {p pos tpos : Pos} {elts : List Expr} {kk : Nat} (hg : Gl X "enumerate") (hm : X.mg "enumerate" = none) (ha : PA X [e] ta) (hs : starEach [e] X.env = [(false, eval e X.env)]) :
    PI X (.Tuple elts kk tpos) (.Call (.Name "enumerate" p) [e] [] pos) (iEnum2 X.K ta) := by
  refine ⟨fun pins s σ H R I h => ?_⟩
  refine PyProof.Rows.Call_ (ld_blt I hg hm PyProof.Rows.boot_enumerate (PyProof.Rows.callWith_type1 (thn (ha.run pos pins s σ H _ I h) fun us s1 ⟨vs, H1, I1, r1, q1⟩ => ?_) hs rfl))
  have fin : ∀ b, s1.heap.objs.size ≤ b → FpOk X pins H1 b := fun b hb => I1.fpOk hb (I1.hok.fresh hb)
  rcases q1 with ⟨a, xs, ex, hq, q⟩ | ⟨z, ex, q⟩
  · subst ex
    cases r1 with
    | cons r rr =>
      cases rr
      cases r
      obtain ⟨its, rv, p', hz⟩ := I1.list hq
      refine call_enumerate_list p'.isList fun h' he hit hsz hk => wpAny_pyIter_enum he ?_
      have I2 : L2.Inv X pins σ H1 { s1 with heap := h' } := I1.kept (t' := s1.toks) hk
      refine ⟨s1.heap.objs.size + 1, [s1.heap.objs.size + 1, s1.heap.objs.size], _, _, H1, rfl, I2, turn_enum a (s1.heap.objs.size + 1) s1.heap.objs.size, ⟨⟨.none, he⟩, hit, Nat.succ_ne_self _⟩, fun b hb => fin b ?_, q⟩
      have e' : b = s1.heap.objs.size + 1 ∨ b = s1.heap.objs.size := by simpa using hb
      rcases e' with z | z
      · rw [z]; exact Nat.le_add_right _ _
      · rw [z]; exact Nat.le_refl _
  · subst ex
    cases r1 with
    | cons r rr =>
      cases rr
      obtain ⟨t, rfl⟩ := r
      refine call_enumerate_str fun h' he hit hsz hk => wpAny_pyIter_enum he ?_
      have I2 : L2.Inv X pins σ H1 { s1 with heap := h' } := I1.kept (t' := s1.toks) hk
      refine ⟨s1.heap.objs.size + 1, [s1.heap.objs.size + 1, s1.heap.objs.size], _, _, H1, rfl, I2, turn_enumS (s1.heap.objs.size + 1) s1.heap.objs.size z t (strIterType z) (by unfold strIterType; split <;> simp), ⟨⟨.none, he⟩, hit, Nat.succ_ne_self _, Nat.zero_le _⟩, fun b hb => fin b ?_, q⟩
      have e' : b = s1.heap.objs.size + 1 ∨ b = s1.heap.objs.size := by simpa using hb
      rcases e' with z | z
      · rw [z]; exact Nat.le_add_right _ _
      · rw [z]; exact Nat.le_refl _
theorem wk_enumS {φ : Fx} {H : Hp} {t : T} : Wk Γ (Iten (tS t)) φ H (t.mapIdx fun i c => .tup [.int i, .str [c]]) := by
  intro i φ1 H1 s A1 R1
  have hl : (tS t).cps.size = t.length := by simp [tS]
  refine ⟨fun hi => ?_, fun hi => by show (tS t).cps.size ≤ i; rw [hl]; simpa using hi⟩
  have hi : i < t.length := by simpa using hi
  refine ⟨by show i < (tS t).cps.size; rw [hl]; exact hi, fun x H' ⟨T, c, e1, hT, e2, q⟩ => ?_⟩
  subst e1 e2
  have hc : t[i]? = some c := by simpa [tS] using q
  refine ⟨.fresh hT, R1.fresh hT, .tup [.int i, .str [c]], by simp [hc], ?_⟩
  exact .tup (SqT.of upd_same) (.cons (.int _) (.cons (.str [c]) .nil))
theorem s_ienum {elts : List Expr} {kk : Nat} {tpos p : Pos} {gs : G.Env → Stt → R (List D)} (hK : X.K = Γ.K) (hg : Gl X "enumerate") (hm : X.mg "enumerate" = none) (hn : ns a = true) (ha : PA X [a] (dA Γ W gs)) : PI X (.Tuple elts kk tpos) (.Call (.Name "enumerate" p) [a] [] pos) (dI Γ W fun ρ s => (gs ρ s).bind fun ds s => R.of (srcF .enum s ds) s) := by
  refine s_isrc (pi_enum2 hg hm ha (by rw [star_ns hn]; rfl)) fun σ H R h => dA_imp h fun vs H1 ⟨φ1, s1, ds, xs, r1, hvs, hz, k⟩ => ?_
  unfold srcF at hz
  split at hz <;> rename_i e1 <;> simp only [reduceCtorEq, false_implies, implies_true] at e1 <;> try cases hz
  · cases hvs with
    | cons hv hr =>
      cases hr
      cases hv with
      | lst h n r => exact .inl ⟨_, _, rfl, SqL.of h, k _ (wk_enum h n r)⟩
  · cases hvs with
    | cons hv hr =>
      cases hr
      cases hv
      exact .inr ⟨_, rfl, k _ wk_enumS⟩

/-! ### targets -/
theorem wipe_set {σ : St} {v : Option V} {i : Nat} : ∀ {vs : List Nat}, i ∈ vs → wipe (σ.set i v) vs = wipe σ vs
  | [], h => nomatch h
  | w :: vs, h => by
    unfold wipe
    by_cases e : i = w
    · subst e
      have : ∀ (vs : List Nat) (σ : St), (wipe (σ.set i v) vs).set i none = (wipe σ vs).set i none := by
        intro vs
        induction vs with
        | nil => intro σ; simp [wipe]
        | cons u vs ih =>
          intro σ
          unfold wipe
          by_cases e : u = i
          · subst e
            simp only [List.set_set]
            exact ih σ
          · rw [List.set_comm _ _ e, ih, List.set_comm _ _ (Ne.symm e)]
      exact this vs σ
    · rw [wipe_set (List.mem_of_ne_of_mem e h)]
theorem wipe_wipe {σ : St} : ∀ {vs : List Nat}, wipe (wipe σ vs) vs = wipe σ vs := fun {vs} => by
  apply List.ext_getElem?
  intro i
  by_cases h : i ∈ vs
  · have q : ∀ τ : St, τ.length = σ.length → (wipe τ vs)[i]? = if i < σ.length then some none else none := fun τ hτ => by
      cases e : (wipe τ vs)[i]? with
      | none =>
        have := List.getElem?_eq_none_iff.mp e
        rw [wipe_length, hτ] at this
        rw [if_neg (by omega)]
      | some o =>
        have := (List.getElem?_eq_some_iff.mp e).1
        rw [wipe_length, hτ] at this
        rw [if_pos this]
        cases o with
        | none => rfl
        | some x => exact absurd h (wipe_some e).2
    rw [q _ (wipe_length _ _), q _ rfl]
  · rw [wipe_out h]
/-- a target's reading: names alone -/
structure TgOk (Γ : Gm) (tg : List Nat) (g : TG) : Prop where
  go : ∀ {φ : Fx} {H : Hp} {σ : St} {ρ ρ' : G.Env} {v : V} {d : D} {Q : St → Hp → Prop}, ER Γ φ H σ ρ → Rep Γ φ H v d → tgF tg d ρ = some ρ' → (∀ σ', ER Γ φ H σ' ρ' → (∀ vs : List Nat, (∀ i ∈ tg, i ∈ vs) → wipe σ' vs = wipe σ vs) → Q σ' H) → g v σ H Q
theorem tg_one {i : Nat} : TgOk Γ [i] (gName i) := ⟨fun er hv h k => by
  simp only [tgF, Option.some.injEq] at h
  subst h
  exact k _ (er.set hv i) fun vs hs => wipe_set (hs i (by simp))⟩
def gNames : List Nat → TGs
  | [] => gNil
  | i :: is => gCons (gName i) (gNames is)
theorem gNames_ok {φ : Fx} {H : Hp} {Q : St → Hp → Prop} {vs : List V} {ds : List D} (hv : Reps Γ φ H vs ds) : ∀ {is : List Nat} {σ : St} {ρ : G.Env}, ER Γ φ H σ ρ → is.length = ds.length → (∀ σ', ER Γ φ H σ' ((is.zip ds).foldl (fun ρ p => ρ.set p.1 (some p.2)) ρ) → (∀ ws : List Nat, (∀ i ∈ is, i ∈ ws) → wipe σ' ws = wipe σ ws) → Q σ' H) → gNames is vs σ H Q := by
  induction ds generalizing vs with
  | nil =>
    intro is σ ρ er hl k
    cases hv
    cases is with
    | nil => exact ⟨rfl, k _ er fun _ _ => rfl⟩
    | cons _ _ => cases hl
  | cons d ds ih =>
    intro is σ ρ er hl k
    cases hv with
    | cons h1 h2 =>
      cases is with
      | nil => cases hl
      | cons i is =>
        refine ⟨_, _, rfl, ih h2 (er.set h1 i) (by simpa using hl) fun σ' er' hw => k σ' er' fun ws hs => ?_⟩
        rw [hw ws fun j hj => hs j (List.mem_cons_of_mem _ hj), wipe_set (hs i (by simp))]
theorem tg_tup {is : List Nat} {n : Nat} (hn : is.length = n) (h2 : 2 ≤ n) : TgOk Γ is (gTup Γ.K n (gNames is)) := ⟨fun {φ H σ ρ ρ' v d Q} er hv h k => by
  unfold tgF at h
  split at h
  · simp at hn; omega
  · rename_i ds _
    split at h
    · rename_i hl
      cases h
      cases hv with
      | tup a1 r1 => exact ⟨_, _, rfl, a1, by rw [r1.len, ← hl]; exact hn, gNames_ok r1 er hl k⟩
    · cases h
  · cases h⟩

/-! ### comprehensions -/
theorem loopC_ok {body : D → List D → Stt → R (List D)} : ∀ {xs : List D} {acc : List D} {s : Stt}, (∃ a s', loopC body xs acc s = .ok a s') ∨ loopC body xs acc s = .stuck
  | [], acc, s => .inl ⟨acc, s, rfl⟩
  | x :: xs, acc, s => by
    unfold loopC
    cases body x acc s with
    | ok a s' => exact loopC_ok
    | exc c fs s' => exact .inr rfl
    | stuck => exact .inr rfl
theorem After.atNew {φ φ' : Fx} {H H' : Hp} {p : Addr} {o : HO} (x : After φ H φ' H') (h : H p = none) : After φ H φ' (upd H' p o) :=
  ⟨x.grow, x.hid, fun a o' e nt n => by rw [upd_ne (ne_of_none e h)]; exact x.keep a o' e nt n, fun a xs e => by rw [upd_ne (ne_of_none e h)]; exact x.tups a xs e, fun a u xs e => by rw [upd_ne (ne_of_none e h)]; exact x.frzs a u xs e,
    fun a o' e nt => by rw [upd_ne (ne_of_none e h)]; exact x.there a o' e nt⟩
theorem After.notin {φ φ' : Fx} {H H' : Hp} (x : After φ H φ' H') {a : Addr} {o : HO} (n : a ∉ φ.cs) (h : H a = some o) (nt : NoT o) : a ∉ φ'.cs := fun q => by
  obtain ⟨ψ, e, f⟩ := x.grow
  rw [e] at q
  rcases List.mem_append.mp q with q | q
  · exact n q
  · exact (f a q).no h nt
abbrev W0 : WX := fun _ _ _ _ => False
/-- a comprehension's turn -/
def turnC (tgs own : List Nat) (gt : G.Env → Stt → R Bool) (ge : G.Env → Stt → R D) (ρ : G.Env) : D → List D → Stt → R (List D) := fun d acc s => match tgF tgs d (wipeE ρ own) with
  | none => .stuck
  | some ρ' => (gt ρ' s).bind fun k s => if k = true then (ge ρ' s).bind fun y s => if acc.length < sizeLine then .ok (acc ++ [y]) s else .stuck else .ok acc s
theorem bind_ok {α β : Type} {r : R α} {f : α → Stt → R β} {b : β} {s' : Stt} (h : r.bind f = .ok b s') : ∃ a s1, r = .ok a s1 ∧ f a s1 = .ok b s' := by
  cases r with
  | ok a s1 => exact ⟨a, s1, rfl, h⟩
  | exc c fs s1 => cases h
  | stuck => cases h
theorem turnC_ok {tgs own : List Nat} {gt : G.Env → Stt → R Bool} {ge : G.Env → Stt → R D} {ρ : G.Env} {d : D} {acc acc' : List D} {s s' : Stt} (h : turnC tgs own gt ge ρ d acc s = .ok acc' s') :
    ∃ ρ', tgF tgs d (wipeE ρ own) = some ρ' ∧ ∃ k s3, gt ρ' s = .ok k s3 ∧ ((k = false ∧ acc' = acc ∧ s' = s3) ∨ (k = true ∧ ∃ y s4, ge ρ' s3 = .ok y s4 ∧ acc.length < sizeLine ∧ acc' = acc ++ [y] ∧ s' = s4)) := by
  unfold turnC at h
  cases e : tgF tgs d (wipeE ρ own) with
  | none => rw [e] at h; cases h
  | some ρ' =>
    rw [e] at h
    obtain ⟨k, s3, h1, h2⟩ := bind_ok h
    refine ⟨ρ', rfl, k, s3, h1, ?_⟩
    cases k with
    | false =>
      cases h2
      exact .inl ⟨rfl, rfl, rfl⟩
    | true =>
      obtain ⟨y, s4, h3, h4⟩ := bind_ok h2
      split at h4
      · cases h4
        exact .inr ⟨rfl, y, _, h3, by assumption, rfl, rfl⟩
      · cases h4
/-- the comprehension's reading from the evaluator's answer -/
theorem lc_read {own : List Nat} {tgs : List Nat} {g : TG} {gi : G.Env → Stt → R (List D)} {gt : G.Env → Stt → R Bool} {ge : G.Env → Stt → R D} (tk : TgOk Γ tgs g) (hs : ∀ i ∈ tgs, i ∈ own) {σ : St} {H : Hp} {Q : VK}
    (h : dE Γ W (fun ρ s => (gi ρ s).bind fun xs s => (loopC (turnC tgs own gt ge ρ) xs [] s).bind fun acc s => .ok (.lst acc) s) σ H Q) : tLc (dI Γ W gi) g (dT Γ W0 gt) (dE Γ W0 ge) own σ H Q := by
  obtain ⟨φ, ρ, s, er, rel, go⟩ := h
  refine ⟨φ, ρ, s, er, rel, go.bind.imp fun xs s1 φ1 H1 a1 r1 go1 J hJ => fun D hD => ?_⟩
  rcases loopC_ok (body := turnC tgs own gt ge ρ) (xs := xs) (acc := []) (s := s1) with ⟨accF, sF, hF⟩ | hF
  · rw [hF] at go1
    have go1 : ∀ φ' H', After φ1 H1 φ' H' → Rel Γ φ' H' sF → ∀ v, Rep Γ φ' H' v (.lst accF) → Q v H' := go1
    have er1 := er.mono a1
    refine ⟨fun i m Hc => m = xs.length - i ∧ i ≤ xs.length ∧ ∃ φc s acc accV, D ∈ φc.hd ∧ D ∉ φc.cs ∧ After φ1 H1 φc Hc ∧ Rel Γ φc Hc s ∧ Hc D = some (.lst accV) ∧ Reps Γ φc Hc accV acc ∧ loopC (turnC tgs own gt ge ρ) (xs.drop i) acc s = .ok accF sF,
      ⟨_, rfl, Nat.zero_le _, φ1.hide D, s1, [], [], List.mem_cons_self, (r1.out hD).1, .hide hD, r1.hide hD not_lst, upd_same, .nil, hF⟩, ?_⟩
    rintro i m Hc ⟨rfl, hi, φc, sc, acc, accV, d1, d2, ac, rc, hDc, rAcc, hL⟩
    obtain ⟨w1, w2⟩ := hJ i φc Hc sc ac rc
    by_cases hlt : i < xs.length
    · obtain ⟨hgo, hy⟩ := w1 hlt
      refine .inr ⟨hgo, _, fun H' p' => ⟨xs.length - (i + 1), by omega, rfl, hlt, p'⟩, fun x H' hx => ?_⟩
      obtain ⟨a2, r2, d, hd, hr⟩ := hy x H' hx
      rw [List.drop_eq_getElem_cons hlt] at hL
      have hd' : xs[i] = d := by rw [List.getElem?_eq_getElem hlt] at hd; exact Option.some.inj hd
      rw [hd'] at hL
      unfold loopC at hL
      cases hb : turnC tgs own gt ge ρ d acc sc with
      | exc c fs s' => rw [hb] at hL; cases hL
      | stuck => rw [hb] at hL; cases hL
      | ok acc' s' =>
        rw [hb] at hL
        obtain ⟨ρ', htg, k, s3, ht3, hcase⟩ := turnC_ok hb
        have er2 := (er1.mono (ac.trans a2)).wipe own
        refine tk.go er2 hr htg fun σ2 er3 hw => ⟨(hw _ hs).trans wipe_wipe, ⟨φc, ρ', sc, er3, r2, ?_⟩⟩
        rw [ht3]
        intro φ3 H3 a3 r3
        have a23 := a2.trans a3
        have hD3 : H3 D = some (.lst accV) := a23.keep _ _ hDc not_lst d2
        rcases hcase with ⟨rfl, rfl, rfl⟩ | ⟨rfl, y, s4, he4, hlen, rfl, rfl⟩
        · refine iteF ?_
          exact ⟨φ3, _, _, accV, a23.hid.1 _ d1, a23.notin d2 hDc not_lst, ac.trans a23, r3, hD3, rAcc.mono a23, hL⟩
        · refine iteT ?_
          refine ⟨φ3, ρ', s3, er3.mono a3, r3, ?_⟩
          rw [he4]
          intro φ4 H4 a4 r4 v hv
          have a24 := a23.trans a4
          have hD4 : H4 D = some (.lst accV) := a24.keep _ _ hDc not_lst d2
          have dd := a24.hid.1 _ d1
          have rA := (rAcc.mono a24)
          refine ⟨accV, hD4, by rw [rAcc.len]; exact hlen, ⟨φ4, _, acc ++ [y], accV ++ [v], dd, a24.notin d2 hDc not_lst, (ac.trans a24).atNew hD, r4.hidW dd hD4 (a24.notin d2 hDc not_lst), upd_same, ?_, hL⟩⟩
          exact (rA.append (.cons hv .nil)).hidW dd hD4
    · have e : i = xs.length := by omega
      subst e
      refine .inl ⟨w2 (Nat.le_refl _), ?_⟩
      rw [List.drop_length] at hL
      cases hL
      have sub : ∀ a ∈ φ1.hd, a ∈ φc.hd := ac.hid.1
      refine go1 ⟨φc.cs, φ1.hd⟩ Hc ⟨ac.grow, ⟨fun _ h => h, fun _ h => .inl h⟩, ac.keep, ac.tups, ac.frzs, ac.there⟩ (rc.show sub) _ (.lst hDc ⟨d2, (r1.out hD).2⟩ ?_)
      exact Reps.less (φ := φc) (φ' := ⟨φc.cs, φ1.hd⟩) (fun _ _ h => h) (fun a ⟨x, y⟩ => ⟨x, fun z => y (sub a z)⟩) rAcc
  · rw [hF] at go1
    exact go1.elim
theorem s_comp {elt tg iter : Expr} {ifs : List Expr} {scope : Scope} {own : List (Str × Nat)} {tgs : List Nat} {g : TG} {gi : G.Env → Stt → R (List D)} {gt : G.Env → Stt → R Bool} {ge : G.Env → Stt → R D}
    (hc : X.calm = true) (hN : X.N.Nodup) (hi : PI X tg iter (dI Γ W gi)) (ok : BlkOk X.N X.env.scope scope own) (tk : TgOk Γ tgs g) (hs : ∀ i ∈ tgs, i ∈ own.map (·.2))
    (hg : ∀ (s : Shared) (H : Hp) (C : Addr) (cl : List (Str × Addr)) (fp : List Addr), PG (X.blk s H scope (compEnvC scope cl C X.env) fp) tg g) (ht : ∀ (s : Shared) (H : Hp) (C : Addr) (cl : List (Str × Addr)) (fp : List Addr), PTs (X.blk s H scope (compEnvC scope cl C X.env) fp) ifs (dT Γ W0 gt))
    (he : ∀ (s : Shared) (H : Hp) (C : Addr) (cl : List (Str × Addr)) (fp : List Addr), PE (X.blk s H scope (compEnvC scope cl C X.env) fp) elt (dE Γ W0 ge)) (hst : ∀ x, foldedSetIterable iter X.env x = pure x) :
    PE X (.ListComp elt [⟨tg, iter, ifs, 0⟩] scope pos) (dE Γ W fun ρ s => (gi ρ s).bind fun xs s => (loopC (turnC tgs (own.map (·.2)) gt ge ρ) xs [] s).bind fun acc s => .ok (.lst acc) s) :=
  (pe_lc hc hN hi ok hg ht he hst).mono fun _ _ _ h => lc_read tk hs h
/-- name = [..] -/
theorem ss_lc {i : Nat} {y : Str} {py spos : Pos} {elt tg iter : Expr} {ifs : List Expr} {scope : Scope} {own : List (Str × Nat)} {tgs : List Nat} {g : TG} {gi : G.Env → Stt → R (List D)} {gt : G.Env → Stt → R Bool} {ge : G.Env → Stt → R D}
    (hc : X.calm = true) (hN : X.N.Nodup) (hy : X.N[i]? = some y) (hyl : X.env.scope.names.lookup y = some .local) (hsw : swapsWith (.ListComp elt [⟨tg, iter, ifs, 0⟩] scope pos) (some (.Name y py)) spos.line X.env = pure true)
    (hi : PI X tg iter (dI Γ W gi)) (ok : BlkOk X.N X.env.scope scope own) (tk : TgOk Γ tgs g) (hs : ∀ i ∈ tgs, i ∈ own.map (·.2))
    (hg : ∀ (s : Shared) (H : Hp) (C : Addr) (cl : List (Str × Addr)) (fp : List Addr), PG (X.blk s H scope (compEnvC scope cl C X.env) fp) tg g) (ht : ∀ (s : Shared) (H : Hp) (C : Addr) (cl : List (Str × Addr)) (fp : List Addr), PTs (X.blk s H scope (compEnvC scope cl C X.env) fp) ifs (dT Γ W0 gt))
    (he : ∀ (s : Shared) (H : Hp) (C : Addr) (cl : List (Str × Addr)) (fp : List Addr), PE (X.blk s H scope (compEnvC scope cl C X.env) fp) elt (dE Γ W0 ge)) (hst : ∀ x, foldedSetIterable iter X.env x = pure x) :
    PS X (.Assign [.Name y py] (.ListComp elt [⟨tg, iter, ifs, 0⟩] scope pos) spos) (dS Γ W fun ρ s => ((gi ρ s).bind fun xs s => (loopC (turnC tgs (own.map (·.2)) gt ge ρ) xs [] s).bind fun acc s => .ok (.lst acc) s).st ρ fun x s => .nx (ρ.set i (some x)) s) :=
  (ps_setLc hc hN hy hyl hsw hi ok hg ht he hst).mono fun D σ H ⟨φ, ρ, s, er, rel, go⟩ =>
    lc_read tk hs ⟨φ, ρ, s, er, rel, (go.st er).imp fun x s1 φ1 H1 a1 r1 go1 v hv => go1 φ1 H1 _ (.refl _ _) r1 ((er.mono a1).set hv i)⟩
end
end G

set_option Elab.async false
set_option linter.all false
set_option maxRecDepth 100000
/-! isinstance, methods, calls of defs. -/
namespace G
open PySem L2

section
variable {Γ : Gm} {W : WX} {X : Cx} {pos : Pos} {a b c e : Expr} {ga gb gc : G.Env → Stt → R D} {es : List Expr} {gs : G.Env → Stt → R (List D)}

/-! ### isinstance -/
theorem ty_boot {t : String} (h : isTy t = true) : bootBuiltins (Str.ofString t) = some (.type t) ∧ Str.ofString t ≠ "__name__" ∧ (Str.ofString t == ("__debug__" : Str)) = false := by
  unfold isTy at h
  simp only [Bool.or_eq_true, beq_iff_eq] at h
  rcases h with (((rfl | rfl) | rfl) | rfl) | rfl <;> decide +kernel
theorem pe_ty {t : String} {p : Pos} (h : isTy t = true) (hg : Gl X (Str.ofString t)) (hm : X.mg (Str.ofString t) = none) : PE X (.Name (Str.ofString t) p) (tC (.ty t)) :=
  pe_bltn hg hm (ty_boot h).1 rfl (ty_boot h).2.1 (ty_boot h).2.2
theorem s_isi1 {t : String} {p p2 : Pos} (hK : X.K = Γ.K) (ht : isTy t = true) (hg : Gl X "isinstance") (hm : X.mg "isinstance" = none) (hgt : Gl X (Str.ofString t)) (hmt : X.mg (Str.ofString t) = none) (hn : ns a = true) (ha : PE X a (dE Γ W ga)) :
    PE X (.Call (.Name "isinstance" p) [a, .Name (Str.ofString t) p2] [] pos) (dE Γ W fun ρ s => (ga ρ s).bind fun x s => R.of (isiF x [t]) s) :=
  (pe_callB call_isi hg hm (by decide +kernel) (pa_cons ha (pa_cons (pe_ty ht hgt hmt) pa_nil) (star_ns hn)) (by decide) (by decide) (star_ns hn)).mono fun σ H Q ⟨φ, ρ, s, er, rel, go⟩ => by
  refine ⟨φ, ρ, s, er, rel, go.bind.imp fun x s1 φ1 H1 a1 r1 go1 v hv => ?_⟩
  obtain ⟨z, hz, k⟩ := go1.of
  unfold isiF at hz
  obtain ⟨n, hn, rfl⟩ := Option.map_eq_some_iff.mp hz
  rw [hK]
  exact ⟨v, _, _, _, _, rfl, .ty t, tyN_ok hn hv, kit_ty (heir_ok (tyN_in hn) ht), by
    have q := k φ1 H1 (.refl _ _) r1 _ (.bl _)
    simpa using q⟩
/-- the classes' names -/
def tyNames : List String → List Expr → Bool
  | [], [] => true
  | t :: ts, .Name x _ :: es => decide (x = Str.ofString t) && tyNames ts es
  | _, _ => false
theorem pa_tys : ∀ {ts : List String} {es : List Expr}, tyNames ts es = true → ts.all isTy = true → (∀ t ∈ ts, Gl X (Str.ofString t) ∧ X.mg (Str.ofString t) = none) → PA X es (fun σ H Q => Q (ts.map V.ty) H)
  | [], [], _, _, _ => pa_nil
  | [], _ :: _, h, _, _ => by simp [tyNames] at h
  | _ :: _, [], h, _, _ => by simp [tyNames] at h
  | t :: ts, .Name x p :: es, h, ht, hg => by
    simp only [tyNames, Bool.and_eq_true, decide_eq_true_eq] at h
    simp only [List.all_cons, Bool.and_eq_true] at ht
    obtain ⟨rfl, h⟩ := h
    have q := hg t (by simp)
    exact pa_cons (pe_ty ht.1 q.1 q.2) (pa_tys h ht.2 fun u hu => hg u (List.mem_cons_of_mem _ hu))
  | _ :: _, .BoolOp .. :: _, h, _, _ => by simp [tyNames] at h
  | _ :: _, .NamedExpr .. :: _, h, _, _ => by simp [tyNames] at h
  | _ :: _, .BinOp .. :: _, h, _, _ => by simp [tyNames] at h
  | _ :: _, .UnaryOp .. :: _, h, _, _ => by simp [tyNames] at h
  | _ :: _, .Lambda .. :: _, h, _, _ => by simp [tyNames] at h
  | _ :: _, .IfExp .. :: _, h, _, _ => by simp [tyNames] at h
  | _ :: _, .Dict .. :: _, h, _, _ => by simp [tyNames] at h
  | _ :: _, .Set .. :: _, h, _, _ => by simp [tyNames] at h
  | _ :: _, .ListComp .. :: _, h, _, _ => by simp [tyNames] at h
  | _ :: _, .SetComp .. :: _, h, _, _ => by simp [tyNames] at h
  | _ :: _, .DictComp .. :: _, h, _, _ => by simp [tyNames] at h
  | _ :: _, .GeneratorExp .. :: _, h, _, _ => by simp [tyNames] at h
  | _ :: _, .Await .. :: _, h, _, _ => by simp [tyNames] at h
  | _ :: _, .Yield .. :: _, h, _, _ => by simp [tyNames] at h
  | _ :: _, .YieldFrom .. :: _, h, _, _ => by simp [tyNames] at h
  | _ :: _, .Compare .. :: _, h, _, _ => by simp [tyNames] at h
  | _ :: _, .Call .. :: _, h, _, _ => by simp [tyNames] at h
  | _ :: _, .FormattedValue .. :: _, h, _, _ => by simp [tyNames] at h
  | _ :: _, .JoinedStr .. :: _, h, _, _ => by simp [tyNames] at h
  | _ :: _, .Constant .. :: _, h, _, _ => by simp [tyNames] at h
  | _ :: _, .Attribute .. :: _, h, _, _ => by simp [tyNames] at h
  | _ :: _, .Subscript .. :: _, h, _, _ => by simp [tyNames] at h
  | _ :: _, .Starred .. :: _, h, _, _ => by simp [tyNames] at h
  | _ :: _, .List .. :: _, h, _, _ => by simp [tyNames] at h
  | _ :: _, .Tuple .. :: _, h, _, _ => by simp [tyNames] at h
  | _ :: _, .Slice .. :: _, h, _, _ => by simp [tyNames] at h
theorem s_isiT {ts : List String} {p p2 : Pos} {tes : List Expr} {kk} (hK : X.K = Γ.K) (hq : tyNames ts tes = true) (ht : ts.all isTy = true) (hl : ts.length ≤ 100) (hg : Gl X "isinstance") (hm : X.mg "isinstance" = none) (hgt : ∀ t ∈ ts, Gl X (Str.ofString t) ∧ X.mg (Str.ofString t) = none) (hn : ns a = true) (ha : PE X a (dE Γ W ga)) :
    PE X (.Call (.Name "isinstance" p) [a, .Tuple tes kk p2] [] pos) (dE Γ W fun ρ s => (ga ρ s).bind fun x s => R.of (isiF x ts) s) :=
  (pe_callB call_isiT hg hm (by decide +kernel) (pa_cons ha (pa_cons (pe_tup (pa_tys hq ht hgt)) pa_nil) (star_ns hn)) (by decide) (by decide) (star_ns hn)).mono fun σ H Q ⟨φ, ρ, s, er, rel, go⟩ => by
  refine ⟨φ, ρ, s, er, rel, go.bind.imp fun x s1 φ1 H1 a1 r1 go1 v hv => ?_⟩
  obtain ⟨z, hz, k⟩ := go1.of
  unfold isiF at hz
  obtain ⟨n, hn, rfl⟩ := Option.map_eq_some_iff.mp hz
  have sl : (sizeLine : Nat) = 16777216 := sizeLine_eq
  refine ⟨by rw [List.length_map]; omega, fun tp htp => ?_⟩
  rw [hK]
  exact ⟨v, tp, _, _, _, _, rfl, upd_same, Paired_ty ts, tyN_ok hn (hv.mono (.fresh htp)), kitAny_ok (tyN_in hn) ts ht, k φ1 _ (.fresh htp) (r1.fresh htp) _ (.bl _)⟩

/-! ### methods -/
/-- no call -/
def nc : Expr → Bool
  | .Call .. => false
  | _ => true
theorem base_nc {o : Expr} {m : Str} {env : PySem.Env} (h : nc o = true) : attributeBase o m env (eval o env) = eval o env := by
  cases o <;> first | rfl | exact nomatch h
theorem few1 {env : PySem.Env} {cpos : Pos} (h : ns e = true) : ((backTo cpos (starEach [e] env)).all (fun x => !x.1) && (backToKw cpos (keywordEach [] env)).all (fun x => x.1.isSome)
      && decide (([e] : List Expr).length + ([] : List Keyword).length + (if ([] : List Keyword).isEmpty then 0 else 1) < 30)) = true := by
  rw [star_ns h]
  rfl
theorem cell_is {s : Stt} {x : D} (h : isCell s x = true) : ∃ n xs, x = .ref n ∧ s[n]? = some (.lst xs) := by
  unfold isCell at h
  split at h
  · split at h
    · exact ⟨_, _, rfl, by assumption⟩
    · cases h
  · cases h
theorem tyV_cell {φ : Fx} {H : Hp} {v : V} {n : Nat} {s : Stt} {xs : List D} (hv : Rep Γ φ H v (.ref n)) (r : Rel Γ φ H s) (h : s[n]? = some (.lst xs)) : tyV Γ.K "list" v H := by
  cases hv with
  | ref h' =>
    obtain ⟨vs, h1, _⟩ := r.cell _ _ _ h' h
    exact .inl ⟨rfl, vs, SqL.of h1⟩
theorem meF_ref {m : Me} {s : Stt} {n : Nat} {ys : List D} : (∃ xs z xs', s[n]? = some (.lst xs) ∧ lmF m xs ys = some (z, xs') ∧ meF m s (.ref n) ys = .ok z (s.set n (.lst xs'))) ∨ meF m s (.ref n) ys = .stuck := by
  cases e : s[n]? with
  | none => exact .inr (by simp [meF, e])
  | some c =>
    cases c with
    | ins _ _ => exact .inr (by simp [meF, e])
    | lst xs =>
      cases e2 : lmF m xs ys with
      | none => exact .inr (by simp [meF, e, e2])
      | some p => exact .inl ⟨xs, p.1, p.2, rfl, e2, by simp [meF, e, e2]⟩
/-- o.m(e, ..) of a list's method, by what it does -/
theorem s_met' : True := trivial
theorem s_met {m : Me} {r : V → List V → Hp → VK → Prop} {ex : Expr} {t : TA} (hK : X.K = Γ.K) (hm : ∀ s x, meOk m s x = true → isCell s x = true) (h : PE X ex (tBM X.K "list" r (dE Γ W ga) t)) (ht : ∀ σ H Q, dA Γ W gs σ H Q → t σ H Q)
    (ok : ∀ {φ : Fx} {H xs ys z xs' p vs ws} {Q : VK}, lmF m xs ys = some (z, xs') → H p = some (.lst vs) → Reps Γ φ H vs xs → Reps Γ φ H ws ys → (∀ v vs', Rep Γ φ H v z → Reps Γ φ H vs' xs' → Q v (upd H p (.lst vs'))) → r (.ref p) ws H Q) :
    PE X ex (dE Γ W fun ρ s => (ga ρ s).bind fun x s => if meOk m s x = true then (gs ρ s).bind fun ys s => meF m s x ys else .stuck) := h.mono fun σ H Q ⟨φ, ρ, s, er, rel, go⟩ => by
  refine ⟨φ, ρ, s, er, rel, go.bind.imp fun x s1 φ1 H1 a1 r1 go1 v hv => ?_⟩
  split at go1
  · rename_i hk
    have hk : isCell s1 x = true := hm _ _ hk
    obtain ⟨n, xs, rfl, hx⟩ := cell_is hk
    refine ⟨hK ▸ tyV_cell hv r1 hx, ht _ _ _ ⟨φ1, ρ, s1, er.mono a1, r1, go1.bind.imp fun ys s2 φ2 H2 a2 r2 go2 ws hws => ?_⟩⟩
    have hv2 := hv.mono a2
    rcases meF_ref (m := m) (s := s2) (n := n) (ys := ys) with ⟨xs2, z, xs', h1, h2, h3⟩ | h3
    · rw [h3] at go2
      cases hv2 with
      | ref hp =>
        obtain ⟨vs, h4, h5⟩ := r2.cell _ _ _ hp h1
        refine ok h2 h4 h5 hws fun v vs' hv hvs' => ?_
        have A : After φ2 H2 φ2 (upd H2 _ (.lst vs')) := After.write (List.mem_of_getElem? hp) ⟨_, h4, .l⟩ not_lst
        exact go2 φ2 _ A (r2.write hp hvs') v (hv.mono A)
    · rw [h3] at go2
      exact go2.elim
  · exact go1.elim
theorem s_append {o : Expr} {apos cpos : Pos} (hK : X.K = Γ.K) (hn : ns e = true) (hb : nc o = true) (hl : (apos.endLine == cpos.line) = true) (ho : PE X o (dE Γ W ga)) (he : PA X [e] (dA Γ W gs)) :
    PE X (.Call (.Attribute o "append" apos) [e] [] cpos) (dE Γ W fun ρ s => (ga ρ s).bind fun x s => if meOk .append s x = true then (gs ρ s).bind fun ys s => meF .append s x ys else .stuck) :=
  s_met hK (fun _ _ h => h) (pe_bm PySem.F.plainAttrs_list PySem.F.slot_list_append PySem.F.type_list_append mt_append ho he (base_nc hb) (few1 hn) hl (star_ns hn) (back_ns rfl)) (fun _ _ _ h => h) fun {φ H xs ys z xs' p vs ws Q} h1 h2 h3 h4 k => by
  unfold lmF at h1
  split at h1 <;> rename_i e1 <;> try cases e1
  · split at h1
    · rename_i hl
      cases h1
      cases h4 with
      | cons a1 a2 =>
        cases a2
        exact ⟨_, _, _, rfl, rfl, h2, by rw [h3.len]; exact hl, k _ _ .non (h3.append (.cons a1 .nil))⟩
    · cases h1
  · cases h1
theorem s_popAt {o : Expr} {apos cpos : Pos} (hK : X.K = Γ.K) (hn : ns e = true) (hb : nc o = true) (hl : (apos.endLine == cpos.line) = true) (ho : PE X o (dE Γ W ga)) (he : PA X [e] (dA Γ W gs)) :
    PE X (.Call (.Attribute o "pop" apos) [e] [] cpos) (dE Γ W fun ρ s => (ga ρ s).bind fun x s => if meOk .popAt s x = true then (gs ρ s).bind fun ys s => meF .popAt s x ys else .stuck) :=
  s_met hK (fun _ _ h => h) (pe_bm PySem.F.plainAttrs_list PySem.F.slot_list_pop PySem.F.type_list_pop mt_popAt ho he (base_nc hb) (few1 hn) hl (star_ns hn) (back_ns rfl)) (fun _ _ _ h => h) fun {φ H xs ys z xs' p vs ws Q} h1 h2 h3 h4 k => by
  unfold lmF at h1
  split at h1 <;> rename_i e1 <;> try cases e1
  · split at h1
    · rename_i hl
      split at h1
      · rename_i j hj
        split at h1
        · rename_i y hy
          cases h1
          cases h4 with
          | cons a1 a2 =>
            cases a2
            cases a1
            obtain ⟨v, hv, rv⟩ := h3.get hy
            refine ⟨_, _, _, j, v, rfl, rfl, h2, hl.1, hl.2, ?_, hv, k _ _ rv (h3.erase j)⟩
            rw [h3.len]
            exact (ixN_seq hj).1
        · cases h1
      · cases h1
    · cases h1
  · cases h1
theorem s_pop {o : Expr} {apos cpos : Pos} (hK : X.K = Γ.K) (hb : nc o = true) (hl : (apos.endLine == cpos.line) = true) (ho : PE X o (dE Γ W ga)) :
    PE X (.Call (.Attribute o "pop" apos) [] [] cpos) (dE Γ W fun ρ s => (ga ρ s).bind fun x s => if meOk .pop s x = true then (R.ok [] s).bind fun ys s => meF .pop s x ys else .stuck) := by
  refine s_met (r := rPop) (gs := fun _ s => .ok [] s) (t := tNil) hK (fun _ _ h => h) ((pe_bm0 PySem.F.plainAttrs_list PySem.F.slot_list_pop PySem.F.type_list_pop mt_pop ho (base_nc hb) hl).mono fun σ H Q h => h) (fun σ H Q ⟨φ, ρ, s, er, rel, go⟩ => go φ H (.refl _ _) rel [] .nil) fun {φ H xs ys z xs' p vs ws Q} h1 h2 h3 h4 k => ?_
  unfold lmF at h1
  split at h1 <;> rename_i e1 <;> try cases e1
  · split at h1
    · rename_i y hy
      cases h1
      cases h4
      obtain ⟨v, hv, rv⟩ := h3.get hy
      exact ⟨_, _, v, rfl, rfl, h2, by rw [h3.len]; exact hv, k _ _ rv h3.dropLast⟩
    · cases h1
  · cases h1

theorem s_cell0 {m : Me} {nm : Str} {r : V → List V → Hp → VK → Prop} {o : Expr} {apos cpos : Pos} (hK : X.K = Γ.K) (hm : ∀ s x, meOk m s x = true → isCell s x = true) (hz : ∀ xs d ds, lmF m xs (d :: ds) = none) (h : PE X (.Call (.Attribute o nm apos) [] [] cpos) (tBM0 X.K "list" r (dE Γ W ga)))
    (ok : ∀ {φ : Fx} {H xs z xs' p vs} {Q : VK}, lmF m xs [] = some (z, xs') → H p = some (.lst vs) → Reps Γ φ H vs xs → (∀ v vs', Rep Γ φ H v z → Reps Γ φ H vs' xs' → Q v (upd H p (.lst vs'))) → r (.ref p) [] H Q) :
    PE X (.Call (.Attribute o nm apos) [] [] cpos) (dE Γ W fun ρ s => (ga ρ s).bind fun x s => if meOk m s x = true then (R.ok [] s).bind fun ys s => meF m s x ys else .stuck) := by
  refine s_met (r := r) (gs := fun _ s => .ok [] s) (t := tNil) hK hm (h.mono fun σ H Q h => h) (fun σ H Q ⟨φ, ρ, s, er, rel, go⟩ => go φ H (.refl _ _) rel [] .nil) fun {φ H xs ys z xs' p vs ws Q} h1 h2 h3 h4 k => ?_
  cases h4 with
  | nil => exact ok h1 h2 h3 k
  | cons _ _ =>
    rw [hz] at h1
    cases h1
theorem Reps.reverse {φ : Fx} {H : Hp} : ∀ {vs : List V} {ds : List D}, Reps Γ φ H vs ds → Reps Γ φ H vs.reverse ds.reverse
  | _, _, .nil => .nil
  | _, _, .cons a b => by
    rw [List.reverse_cons, List.reverse_cons]
    exact (Reps.reverse b).append (.cons a .nil)
theorem s_reverse {o : Expr} {apos cpos : Pos} (hK : X.K = Γ.K) (hb : nc o = true) (hl : (apos.endLine == cpos.line) = true) (ho : PE X o (dE Γ W ga)) :
    PE X (.Call (.Attribute o "reverse" apos) [] [] cpos) (dE Γ W fun ρ s => (ga ρ s).bind fun x s => if meOk .reverse s x = true then (R.ok [] s).bind fun ys s => meF .reverse s x ys else .stuck) :=
  s_cell0 (r := rReverse) hK (fun _ _ h => h) (fun _ _ _ => rfl) (pe_bm0 PySem.F.plainAttrs_list PySem.F.slot_list_reverse PySem.F.type_list_reverse mt_reverse ho (base_nc hb) hl) fun {φ H xs z xs' p vs Q} h1 h2 h3 k => by
    cases h1
    exact ⟨_, _, rfl, rfl, h2, k _ _ .non h3.reverse⟩
theorem s_clear {o : Expr} {apos cpos : Pos} (hK : X.K = Γ.K) (hb : nc o = true) (hl : (apos.endLine == cpos.line) = true) (ho : PE X o (dE Γ W ga)) :
    PE X (.Call (.Attribute o "clear" apos) [] [] cpos) (dE Γ W fun ρ s => (ga ρ s).bind fun x s => if meOk .clear s x = true then (R.ok [] s).bind fun ys s => meF .clear s x ys else .stuck) :=
  s_cell0 (r := rClear) hK (fun _ _ h => h) (fun _ _ _ => rfl) (pe_bm0 PySem.F.plainAttrs_list PySem.F.slot_list_clear PySem.F.type_list_clear mt_clear ho (base_nc hb) hl) fun {φ H xs z xs' p vs Q} h1 h2 h3 k => by
    cases h1
    exact ⟨_, _, rfl, rfl, h2, k _ _ .non .nil⟩
theorem few2 {e2 : Expr} {env : PySem.Env} {cpos : Pos} (h : ns e = true) (h2 : ns e2 = true) : ((backTo cpos (starEach [e, e2] env)).all (fun x => !x.1) && (backToKw cpos (keywordEach [] env)).all (fun x => x.1.isSome)
      && decide (([e, e2] : List Expr).length + ([] : List Keyword).length + (if ([] : List Keyword).isEmpty then 0 else 1) < 30)) = true := by
  rw [star_ns h, star_ns h2]
  rfl
theorem s_insert {o e2 : Expr} {apos cpos : Pos} (hK : X.K = Γ.K) (hn : ns e = true) (hn2 : ns e2 = true) (hb : nc o = true) (hl : (apos.endLine == cpos.line) = true) (ho : PE X o (dE Γ W ga)) (he : PA X [e, e2] (dA Γ W gs)) :
    PE X (.Call (.Attribute o "insert" apos) [e, e2] [] cpos) (dE Γ W fun ρ s => (ga ρ s).bind fun x s => if meOk .insert s x = true then (gs ρ s).bind fun ys s => meF .insert s x ys else .stuck) :=
  s_met hK (fun _ _ h => h) (pe_bm PySem.F.plainAttrs_list PySem.F.slot_list_insert PySem.F.type_list_insert mt_insert ho he (base_nc hb) (few2 hn hn2) hl (star_ns hn) (back_ns (by simp [hn2]))) (fun _ _ _ h => h) fun {φ H xs ys z xs' p vs ws Q} h1 h2 h3 h4 k => by
  unfold lmF at h1
  split at h1 <;> rename_i e1 <;> try cases e1
  split at h1
  · rename_i hl
    cases h1
    match ws, h4 with
    | [_, _], .cons a1 (.cons a2 .nil) =>
      cases a1
      exact ⟨_, _, _, _, rfl, rfl, h2, by rw [h3.len]; exact hl.2.2, hl.1, hl.2.1, k _ _ .non (((h3.take _).append (.cons a2 .nil)).append (h3.drop _))⟩
  · cases h1
  · cases h1
/-! ### texts' methods -/
theorem s_strq {m : Me} {r : V → List V → Hp → VK → Prop} {ex : Expr} (hm : ∀ s x, meOk m s x = true → ∃ t, x = .str t) (h : PE X ex (tBM X.K "str" r (dE Γ W ga) (dA Γ W gs)))
    (ok : ∀ {φ : Fx} {H s t ys ws} {Q : VK} {σ : St}, Rel Γ φ H s → Reps Γ φ H ws ys → Go Γ W φ H σ (meF m s (.str t) ys) (fun d s' φ' H' => ∀ v, Rep Γ φ' H' v d → Q v H') → r (.str (tS t)) ws H Q) :
    PE X ex (dE Γ W fun ρ s => (ga ρ s).bind fun x s => if meOk m s x = true then (gs ρ s).bind fun ys s => meF m s x ys else .stuck) := h.mono fun σ H Q ⟨φ, ρ, s, er, rel, go⟩ => by
  refine ⟨φ, ρ, s, er, rel, go.bind.imp fun x s1 φ1 H1 a1 r1 go1 v hv => ?_⟩
  split at go1
  · rename_i hk
    obtain ⟨t, rfl⟩ := hm _ _ hk
    cases hv
    exact ⟨rfl, ⟨φ1, ρ, s1, er.mono a1, r1, go1.bind.imp fun ys s2 φ2 H2 a2 r2 go2 ws hws => ok r2 hws go2⟩⟩
  · exact go1.elim
theorem strs_reps {φ : Fx} {H : Hp} : ∀ {vs : List V} {ds : List D} {ts : List T}, Reps Γ φ H vs ds → strsD ds = some ts → vs = (ts.map tS).map V.str
  | _, _, _, .nil, h => by simp [strsD] at h; subst h; rfl
  | _, _, _, .cons (d := d) a r, h => by
    cases d <;> simp only [strsD, Option.map_eq_some_iff, reduceCtorEq] at h
    obtain ⟨ts', h1, rfl⟩ := h
    cases a
    rw [strs_reps r h1]
    rfl
theorem reps_strs {φ : Fx} {H : Hp} : ∀ zs : List Str, Reps Γ φ H (zs.map V.str) (zs.map fun z => .str z.cps.toList)
  | [] => .nil
  | z :: zs => by
    refine .cons ?_ (reps_strs zs)
    have := Rep.str (Γ := Γ) (φ := φ) (H := H) z.cps.toList
    rwa [show tS z.cps.toList = z from rfl] at this
theorem rep_strz {φ : Fx} {H : Hp} (z : Str) : Rep Γ φ H (.str z) (.str z.cps.toList) := by
  have := Rep.str (Γ := Γ) (φ := φ) (H := H) z.cps.toList
  rwa [show tS z.cps.toList = z from rfl] at this
theorem str_only {m : Me} (h : m = .join ∨ m = .split ∨ m = .part) : ∀ s x, meOk m s x = true → ∃ t, x = .str t := by
  intro s x hk
  rcases h with rfl | rfl | rfl <;> cases x <;> first | exact ⟨_, rfl⟩ | (simp [meOk] at hk)
theorem s_join {o : Expr} {apos cpos : Pos} (hK : X.K = Γ.K) (hn : ns e = true) (hb : nc o = true) (hl : (apos.endLine == cpos.line) = true) (ho : PE X o (dE Γ W ga)) (he : PA X [e] (dA Γ W gs)) :
    PE X (.Call (.Attribute o "join" apos) [e] [] cpos) (dE Γ W fun ρ s => (ga ρ s).bind fun x s => if meOk .join s x = true then (gs ρ s).bind fun ys s => meF .join s x ys else .stuck) :=
  s_strq (str_only (.inl rfl)) (pe_bm PySem.F.plainAttrs_str PySem.F.slot_str_join PySem.F.type_str_join mt_join ho he (base_nc hb) (few1 hn) hl (star_ns hn) (back_ns rfl)) fun {φ H s t ys ws Q σ} r2 hws go => by
    match ys, hws, go with
    | [d], .cons h1 .nil, go =>
      simp only [meF] at go
      cases e : (itemsF s d).bind strsD with
      | none => rw [e] at go; exact go.elim
      | some ts =>
        rw [e] at go
        simp only at go
        split at go
        · rename_i hz
          obtain ⟨ds, e1, e2⟩ := Option.bind_eq_some_iff.mp e
          obtain ⟨a, vs, rfl, g1, g2⟩ := itemsF_ok e1 h1 r2
          have ev := strs_reps g2 e2
          subst ev
          refine ⟨_, a, ts.map tS, rfl, rfl, hK ▸ g1, ?_, ?_⟩
          · rw [List.map_map, List.length_map, tS_len]
            have : ((fun x : Str => x.length) ∘ tS) = List.length := by
              funext z
              exact tS_len z
            rw [this]
            exact hz
          · exact go φ H (.refl _ _) r2 _ (rep_strz _)
        · exact go.elim
theorem s_split {o : Expr} {apos cpos : Pos} (hn : ns e = true) (hb : nc o = true) (hl : (apos.endLine == cpos.line) = true) (ho : PE X o (dE Γ W ga)) (he : PA X [e] (dA Γ W gs)) :
    PE X (.Call (.Attribute o "split" apos) [e] [] cpos) (dE Γ W fun ρ s => (ga ρ s).bind fun x s => if meOk .split s x = true then (gs ρ s).bind fun ys s => meF .split s x ys else .stuck) :=
  s_strq (str_only (.inr (.inl rfl))) (pe_bm PySem.F.plainAttrs_str PySem.F.slot_str_split PySem.F.type_str_split mt_split ho he (base_nc hb) (few1 hn) hl (star_ns hn) (back_ns rfl)) fun {φ H s t ys ws Q σ} r2 hws go => by
    match ys, hws, go with
    | [.str u], .cons h1 .nil, go =>
      cases h1
      simp only [meF] at go
      split at go
      · rename_i hz
        refine ⟨_, _, rfl, rfl, ?_, by rw [tS_len]; exact hz.2, fun p hp => ?_⟩
        · rw [tS_len]
          simpa using hz.1
        · exact go φ _ (.fresh hp) (r2.fresh hp) _ (.lst upd_same (r2.out hp) ((reps_strs _).mono (.fresh hp)))
      · exact go.elim
theorem s_part {o : Expr} {apos cpos : Pos} (hn : ns e = true) (hb : nc o = true) (hl : (apos.endLine == cpos.line) = true) (ho : PE X o (dE Γ W ga)) (he : PA X [e] (dA Γ W gs)) :
    PE X (.Call (.Attribute o "partition" apos) [e] [] cpos) (dE Γ W fun ρ s => (ga ρ s).bind fun x s => if meOk .part s x = true then (gs ρ s).bind fun ys s => meF .part s x ys else .stuck) :=
  s_strq (str_only (.inr (.inr rfl))) (pe_bm PySem.F.plainAttrs_str PySem.F.slot_str_partition PySem.F.type_str_partition mt_partition ho he (base_nc hb) (few1 hn) hl (star_ns hn) (back_ns rfl)) fun {φ H s t ys ws Q σ} r2 hws go => by
    match ys, hws, go with
    | [.str u], .cons h1 .nil, go =>
      cases h1
      simp only [meF] at go
      split at go
      · rename_i hz
        refine ⟨_, _, rfl, rfl, ?_, by rw [tS_len]; exact hz.2, fun p hp => ?_⟩
        · rw [tS_len]
          simpa using hz.1
        · exact go φ _ (.fresh hp) (r2.fresh hp) _ (.tup (SqT.of upd_same) (.cons (rep_strz _) (.cons (rep_strz _) (.cons (rep_strz _) .nil))))
      · exact go.elim

theorem meOk_str {m : Me} {s : Stt} {x : D} (hm : m = .rfind ∨ m = .index) (h : meOk m s x = true) : ∃ t, x = .str t := by
  rcases hm with rfl | rfl <;> cases x <;> first | exact ⟨_, rfl⟩ | (simp [meOk] at h)
theorem s_strm {m : Me} {r : V → List V → Hp → VK → Prop} {ex : Expr} (hm : m = .rfind ∨ m = .index) (h : PE X ex (tBM X.K "str" r (dE Γ W ga) (dA Γ W gs)))
    (ok : ∀ {φ : Fx} {H s t ys ws} {Q : VK} {σ : St}, Rel Γ φ H s → Reps Γ φ H ws ys → Go Γ W φ H σ (meF m s (.str t) ys) (fun d s' φ' H' => ∀ v, Rep Γ φ' H' v d → Q v H') → r (.str (tS t)) ws H Q) :
    PE X ex (dE Γ W fun ρ s => (ga ρ s).bind fun x s => if meOk m s x = true then (gs ρ s).bind fun ys s => meF m s x ys else .stuck) := h.mono fun σ H Q ⟨φ, ρ, s, er, rel, go⟩ => by
  refine ⟨φ, ρ, s, er, rel, go.bind.imp fun x s1 φ1 H1 a1 r1 go1 v hv => ?_⟩
  split at go1
  · rename_i hk
    obtain ⟨t, rfl⟩ := meOk_str hm hk
    cases hv
    exact ⟨rfl, ⟨φ1, ρ, s1, er.mono a1, r1, go1.bind.imp fun ys s2 φ2 H2 a2 r2 go2 ws hws => ok r2 hws go2⟩⟩
  · exact go1.elim
theorem s_rfind {o : Expr} {apos cpos : Pos} (hn : ns e = true) (hb : nc o = true) (hl : (apos.endLine == cpos.line) = true) (ho : PE X o (dE Γ W ga)) (he : PA X [e] (dA Γ W gs)) :
    PE X (.Call (.Attribute o "rfind" apos) [e] [] cpos) (dE Γ W fun ρ s => (ga ρ s).bind fun x s => if meOk .rfind s x = true then (gs ρ s).bind fun ys s => meF .rfind s x ys else .stuck) :=
  s_strm (.inl rfl) (pe_bm PySem.F.plainAttrs_str PySem.F.slot_str_rfind PySem.F.type_str_rfind mt_rfind ho he (base_nc hb) (few1 hn) hl (star_ns hn) (back_ns rfl)) fun {φ H s t ys ws Q σ} r2 hws go => by
    match ys, hws, go with
    | [.str u], .cons h1 .nil, go =>
      cases h1
      exact ⟨_, _, rfl, rfl, go φ H (.refl _ _) r2 _ (.int _)⟩
theorem s_sindex {o : Expr} {apos cpos : Pos} (hn : ns e = true) (hb : nc o = true) (hl : (apos.endLine == cpos.line) = true) (ho : PE X o (dE Γ W ga)) (he : PA X [e] (dA Γ W gs)) :
    PE X (.Call (.Attribute o "index" apos) [e] [] cpos) (dE Γ W fun ρ s => (ga ρ s).bind fun x s => if meOk .index s x = true then (gs ρ s).bind fun ys s => meF .index s x ys else .stuck) :=
  s_strm (.inr rfl) (pe_bm PySem.F.plainAttrs_str PySem.F.slot_str_index PySem.F.type_str_index mt_sindex ho he (base_nc hb) (few1 hn) hl (star_ns hn) (back_ns rfl)) fun {φ H s t ys ws Q σ} r2 hws go => by
    match ys, hws, go with
    | [.str u], .cons h1 .nil, go =>
      cases h1
      cases e : Builtin.Str.occurrences (tS t) (tS u) 0 (tS t).length 1 with
      | nil =>
        simp only [meF, e] at go
        exact go.elim
      | cons i rest =>
        simp only [meF, e] at go
        exact ⟨_, _, i, rest, rfl, rfl, e, go φ H (.refl _ _) r2 _ (.int _)⟩

theorem tS_of (z : Str) : tS z.cps.toList = z := rfl
theorem s_str0 {m : Me} {r : V → List V → Hp → VK → Prop} {ex : Expr} (hm : m = .upper ∨ m = .lower) (h : PE X ex (tBM0 X.K "str" r (dE Γ W ga)))
    (ok : ∀ {φ : Fx} {H s t} {Q : VK} {σ : St}, Rel Γ φ H s → Go Γ W φ H σ (meF m s (.str t) []) (fun d s' φ' H' => ∀ v, Rep Γ φ' H' v d → Q v H') → r (.str (tS t)) [] H Q) :
    PE X ex (dE Γ W fun ρ s => (ga ρ s).bind fun x s => if meOk m s x = true then (R.ok [] s).bind fun ys s => meF m s x ys else .stuck) := h.mono fun σ H Q ⟨φ, ρ, s, er, rel, go⟩ => by
  refine ⟨φ, ρ, s, er, rel, go.bind.imp fun x s1 φ1 H1 a1 r1 go1 v hv => ?_⟩
  split at go1
  · rename_i hk
    obtain ⟨t, rfl⟩ : ∃ t, x = .str t := by
      rcases hm with rfl | rfl <;> cases x <;> first | exact ⟨_, rfl⟩ | (simp [meOk] at hk)
    cases hv
    exact ⟨rfl, ok r1 go1⟩
  · exact go1.elim
theorem s_upper {o : Expr} {apos cpos : Pos} (hb : nc o = true) (hl : (apos.endLine == cpos.line) = true) (ho : PE X o (dE Γ W ga)) :
    PE X (.Call (.Attribute o "upper" apos) [] [] cpos) (dE Γ W fun ρ s => (ga ρ s).bind fun x s => if meOk .upper s x = true then (R.ok [] s).bind fun ys s => meF .upper s x ys else .stuck) :=
  s_str0 (.inl rfl) (pe_bm0 PySem.F.plainAttrs_str PySem.F.slot_str_upper PySem.F.type_str_upper mt_upper ho (base_nc hb) hl) fun {φ H s t Q σ} r2 go => by
    by_cases hz : t.length ≤ 5592405
    · simp only [meF, hz, if_true] at go
      refine ⟨_, rfl, rfl, by rw [tS_len]; exact hz, go φ H (.refl _ _) r2 _ ?_⟩
      have := Rep.str (Γ := Γ) (φ := φ) (H := H) (Txt.upper (tS t)).cps.toList
      rwa [tS_of] at this
    · simp only [meF, hz, if_false] at go
      exact go.elim
theorem s_lower {o : Expr} {apos cpos : Pos} (hb : nc o = true) (hl : (apos.endLine == cpos.line) = true) (ho : PE X o (dE Γ W ga)) :
    PE X (.Call (.Attribute o "lower" apos) [] [] cpos) (dE Γ W fun ρ s => (ga ρ s).bind fun x s => if meOk .lower s x = true then (R.ok [] s).bind fun ys s => meF .lower s x ys else .stuck) :=
  s_str0 (.inr rfl) (pe_bm0 PySem.F.plainAttrs_str PySem.F.slot_str_lower PySem.F.type_str_lower mt_lower ho (base_nc hb) hl) fun {φ H s t Q σ} r2 go => by
    by_cases hz : t.length ≤ 5592405
    · simp only [meF, hz, if_true] at go
      refine ⟨_, rfl, rfl, by rw [tS_len]; exact hz, go φ H (.refl _ _) r2 _ ?_⟩
      have := Rep.str (Γ := Γ) (φ := φ) (H := H) (Txt.lower (tS t)).cps.toList
      rwa [tS_of] at this
    · simp only [meF, hz, if_false] at go
      exact go.elim
theorem s_lindex {o : Expr} {apos cpos : Pos} (hK : X.K = Γ.K) (hn : ns e = true) (hb : nc o = true) (hl : (apos.endLine == cpos.line) = true) (ho : PE X o (dE Γ W ga)) (he : PA X [e] (dA Γ W gs)) :
    PE X (.Call (.Attribute o "index" apos) [e] [] cpos) (dE Γ W fun ρ s => (ga ρ s).bind fun x s => if meOk .lindex s x = true then (gs ρ s).bind fun ys s => meF .lindex s x ys else .stuck) := (pe_bm (T := "list") PySem.F.plainAttrs_list PySem.F.slot_list_index PySem.F.type_list_index mt_index ho he (base_nc hb) (few1 hn) hl (star_ns hn) (back_ns rfl)).mono fun σ H Q ⟨φ, ρ, s, er, rel, go⟩ => by
  refine ⟨φ, ρ, s, er, rel, go.bind.imp fun x s1 φ1 H1 a1 r1 go1 v hv => ?_⟩
  split at go1
  · rename_i hk
    obtain ⟨xs, rfl⟩ : ∃ xs, x = .lst xs := by
      cases x <;> first | exact ⟨_, rfl⟩ | (simp [meOk] at hk)
    cases hv with
    | lst b1 n1 c1 =>
      refine ⟨.inl ⟨rfl, _, SqL.of b1⟩, φ1, ρ, s1, er.mono a1, r1, go1.bind.imp fun ys s2 φ2 H2 a2 r2 go2 ws hws => ?_⟩
      have c2 := c1.mono a2
      have b2 := a2.keep _ _ b1 not_lst n1.1
      match ys, hws, go2 with
      | [.bl b], .cons h1 .nil, go2 =>
        cases h1
        cases e1 : bools xs with
        | none =>
          simp only [meF, e1] at go2
          exact go2.elim
        | some bs =>
          cases e2 : bs.findIdx? (· == b) with
          | none =>
            simp only [meF, e1, e2] at go2
            exact go2.elim
          | some j =>
            simp only [meF, e1, e2] at go2
            obtain ⟨hj, h3, h4⟩ := List.findIdx?_eq_some_iff_getElem.mp e2
            have ev := c2.bools e1
            have q := go2 φ2 H2 (.refl _ _) r2 _ (.int _)
            refine ⟨_, bs.map V.bl, .bl b, j, .bl bs[j], rfl, rfl, ?_, rfl, ?_, ?_, ?_, fun m z' hm hz => ?_, q⟩
            · rw [← ev]
              exact SqL.of b2
            · simp [flatV]
            · simp [hj]
            · simpa [eqV] using h3
            · rw [List.getElem?_map] at hz
              obtain ⟨y, hy, rfl⟩ := Option.map_eq_some_iff.mp hz
              obtain ⟨hm', hy'⟩ := List.getElem?_eq_some_iff.mp hy
              have := h4 m hm
              subst hy'
              simpa [eqV] using this
  · exact go1.elim

/-! ### calls -/
/-- what a def promises: the evaluator's answer -/
def spD (Γ : Gm) (np : Nat) (g : List D → Stt → R D) : Sp := fun vs H Q E => ∃ φ s ds, ds.length = np ∧ Reps Γ φ H vs ds ∧ Rel Γ φ H s ∧ Go Γ (fun cls dd _ H => E cls dd H) φ H [] (g ds s) fun d s' φ' H' => ∀ v, Rep Γ φ' H' v d → Q v H'
theorem spD_len {np : Nat} {g : List D → Stt → R D} {vs : List V} {H : Hp} {Q : VK} {E : XK} (h : spD Γ np g vs H Q E) : vs.length = np := by
  obtain ⟨φ, s, ds, l, r, _⟩ := h
  rw [r.len, l]
theorem Go.wish {φ : Fx} {H : Hp} {σ : St} {r : R D} {K : D → Stt → Fx → Hp → Prop} (h : Go Γ W φ H σ r K) : Go Γ (fun cls dd _ H => WE W σ cls dd H) φ H [] r K := by
  cases r <;> exact h
section
variable {k : Nat} {f : Addr} {fd : FuncData} {ps : List Str} {g : List D → Stt → R D} {x : Str} {p : Pos}
theorem spD_of {vs : List V} {ds : List D} {φ : Fx} {H : Hp} {s : Stt} {σ : St} {Q : VK} (hst : ∀ ds s, ds.length ≠ ps.length → g ds s = .stuck) (hvs : Reps Γ φ H vs ds) (r1 : Rel Γ φ H s) (go1 : Go Γ W φ H σ (g ds s) fun d s' φ' H' => ∀ v, Rep Γ φ' H' v d → Q v H') : spD Γ ps.length g vs H Q (WE W σ) := by
  refine ⟨φ, s, ds, ?_, hvs, r1, go1.wish⟩
  by_cases e : ds.length = ps.length
  · exact e
  · rw [hst ds s e] at go1
    exact go1.elim
theorem s_call (F : FnOk X.prog X.w X.K X.mg X.base (L2.CX X.prog X.w) k f fd ps (spD Γ ps.length g)) (hr : Room k X.A) (hg : Gl X x) (hm : X.mg x = some (.ref f)) (hk : PySem.W.keepIn X.K (.ref f) = true) (hb : Binds X.K fd ps [])
    (tk : Takes X W) (hn : (e :: es).all ns = true) (hst : ∀ ds s, ds.length ≠ ps.length → g ds s = .stuck) (ha : PA X (e :: es) (dA Γ W gs)) (hdb : (x == ("__debug__" : Str)) = false) : PE X (.Call (.Name x p) (e :: es) [] pos) (dE Γ W fun ρ s => (gs ρ s).bind fun xs s => g xs s) := by
  simp only [List.all_cons, Bool.and_eq_true] at hn
  refine (pe_callSD F hr hg hm hk hb .nil (fun σ => passAt tk σ) ha hdb (star_ns hn.1) (back_ns hn.2)).mono fun σ H Q ⟨φ, ρ, s, er, rel, go⟩ => ?_
  refine ⟨φ, ρ, s, er, rel, go.bind.imp fun ds s1 φ1 H1 a1 r1 go1 vs hvs => ?_⟩
  show spD Γ ps.length g (vs ++ []) H1 Q (WE W σ)
  rw [List.append_nil]
  exact spD_of hst hvs r1 go1
theorem s_call0 (F : FnOk X.prog X.w X.K X.mg X.base (L2.CX X.prog X.w) k f fd ps (spD Γ ps.length g)) (hr : Room k X.A) (hg : Gl X x) (hm : X.mg x = some (.ref f)) (hk : PySem.W.keepIn X.K (.ref f) = true) (hb : Binds X.K fd ps [])
    (tk : Takes X W) (hst : ∀ ds s, ds.length ≠ ps.length → g ds s = .stuck) (hdb : (x == ("__debug__" : Str)) = false) : PE X (.Call (.Name x p) [] [] pos) (dE Γ W fun ρ s => (R.ok [] s).bind fun xs s => g xs s) := by
  refine ⟨fun pins s σ H Q I ⟨φ, ρ, s0, er, rel, go⟩ => ?_⟩
  refine wpAny_Call_Name_kw (ld_glob I hg hm ?_ hdb)
  refine PySem.W.callWith_K0 I.kIn hk ?_
  exact run_fnSD (E := WE W) (us := []) (vs := []) F hr hb .nil (passAt tk σ) I .nil (spD_of hst .nil rel go)

/-! ### calls with keywords -/
theorem run_fnKS {CX : CXT} {ks : List Str} {sp : Sp} {E : XK} {n : Nat} {gv : List Value → List Value → List Value} {gV : List V → List V → List V} {pins : List (Addr × Obj)} {σ : St} {H : Hp} {s : Shared} {Q : VK} {us ws : List Value} {vs zs : List V}
    (F : FnOk X.prog X.w X.K X.mg X.base CX k f fd ps sp) (hr : Room k X.A) (hb : KBn X.K fd ps n ks gv gV) (hx : PassesAt CX X σ E) (hl : vs.length = n) (hw : zs.length = ks.length)
    (I : L2.Inv X pins σ H s) (r : Vals vs us) (rz : Vals zs ws) (h : sp (gV vs zs) H Q E) : wpAny (model X.prog X.w) X.A (call (.ref f) us (ks.zip ws)) (EP X pins σ Q) X.xe s := by
  have r2 := hb.rel r rz
  refine wpAny_call (codeAny_mono (F.run X.A X.stack s H ⟨us, ks.zip ws⟩ (gv us ws) (gV vs zs) Q E hr I.env0 (hb.to s us ws I.kIn (r.length.symm.trans hl) (rz.length.symm.trans hw)) r2 h) fun r s' hq => ?_)
  cases r with
  | error e => exact hx pins H s e s' I hq
  | ok fl =>
    cases fl with
    | ret u => exact I.after hq
    | next => exact False.elim hq
    | brk => exact False.elim hq
    | cont => exact False.elim hq
/-- how a call with keywords binds -/
structure ShOk (Γ : Gm) (K : PySem.W.Frag) (fd : FuncData) (ps : List Str) (sh : Shape) : Prop where
  ex : ∃ gv gV, KBn K fd ps sh.n sh.ks gv gV ∧ ∀ {φ H vs ds zs es out}, Reps Γ φ H vs ds → Reps Γ φ H zs es → ds.length = sh.n → es.length = sh.ks.length → srcs sh.src (ds ++ es) = some out → Reps Γ φ H (gV vs zs) out
/-- the keywords' names -/
def kwNames : List Keyword → List Str → Bool
  | [], [] => true
  | ⟨some x, _, _⟩ :: r, k :: ks => decide (x = k) && kwNames r ks
  | _, _ => false
theorem kw_all {env : PySem.Env} : ∀ {kws : List Keyword} {ks : List Str}, kwNames kws ks = true → (backToKw pos (keywordEach kws env)).all (·.1.isSome) = true ∧ (backToKw pos (keywordEach kws env)).filterMap (·.1) = ks ∧ (backToKw pos (keywordEach kws env)).any (·.1.isNone) = false
  | [], [], _ => ⟨rfl, rfl, rfl⟩
  | [], _ :: _, h => by simp [kwNames] at h
  | ⟨none, _, _⟩ :: _, _, h => by simp [kwNames] at h
  | ⟨some x, _, _⟩ :: _, [], h => by simp [kwNames] at h
  | ⟨some x, e, q⟩ :: r, k :: ks, h => by
    simp only [kwNames, Bool.and_eq_true, decide_eq_true_eq] at h
    obtain ⟨h1, h2, h3⟩ := kw_all (env := env) h.2
    refine ⟨?_, ?_, ?_⟩
    · show (true && (backToKw pos (keywordEach r env)).all (·.1.isSome)) = true
      rw [h1]; rfl
    · show x :: (backToKw pos (keywordEach r env)).filterMap (·.1) = k :: ks
      rw [h2, h.1]
    · show (false || (backToKw pos (keywordEach r env)).any (·.1.isNone)) = false
      rw [h3]; rfl
variable {sh : Shape} {kws : List Keyword} {gk : G.Env → Stt → R (List D)}
theorem Go.callK {φ : Fx} {H : Hp} {σ : St} {s : Stt} {xs ys : List D} {K : D → Stt → Fx → Hp → Prop} (h : Go Γ W φ H σ (callK sh g xs ys s) K) : xs.length = sh.n ∧ ys.length = sh.ks.length ∧ ∃ zs, srcs sh.src (xs ++ ys) = some zs ∧ Go Γ W φ H σ (g zs s) K := by
  unfold G.callK at h
  split at h
  · rename_i hl
    split at h
    · rename_i zs e
      exact ⟨hl.1, hl.2, zs, e, h⟩
    · exact h.elim
  · exact h.elim
theorem s_callk (F : FnOk X.prog X.w X.K X.mg X.base (L2.CX X.prog X.w) k f fd ps (spD Γ ps.length g)) (S : ShOk Γ X.K fd ps sh) (hr : Room k X.A) (hg : Gl X x) (hm : X.mg x = some (.ref f)) (hk : PySem.W.keepIn X.K (.ref f) = true)
    (tk : Takes X W) (hn : (e :: es).all ns = true) (hst : ∀ ds s, ds.length ≠ ps.length → g ds s = .stuck) (hkn : kwNames kws sh.ks = true) (ha : PA X (e :: es) (dA Γ W gs)) (hkw : PK X kws (dA Γ W gk)) (hdb : (x == ("__debug__" : Str)) = false) :
    PE X (.Call (.Name x p) (e :: es) kws pos) (dE Γ W fun ρ s => (gs ρ s).bind fun xs s => (gk ρ s).bind fun ys s => callK sh g xs ys s) := by
  obtain ⟨gv, gV, KB, rp⟩ := S.ex
  obtain ⟨h1, h2, h3⟩ := kw_all (pos := pos) (env := X.env) hkn
  simp only [List.all_cons, Bool.and_eq_true] at hn
  refine ⟨fun pins s σ H Q I ⟨φ, ρ, s0, er, rel, go⟩ => ?_⟩
  refine wpAny_Call_Name_kw (ld_glob I hg hm ?_ hdb)
  have hp : ((backTo pos (starEach (e :: es) X.env)).any (·.1) || (backToKw pos (keywordEach kws X.env)).any (·.1.isNone)) = false := by
    rw [h3, back_ns (es := e :: es) (by simp only [List.all_cons, Bool.and_eq_true]; exact hn)]
    rfl
  refine PySem.W.callWith_KW (h₀ := X.base) I.ok.mod.kin hk h1 (thn (ha.run pos pins s σ H (fun vs H1 => dA Γ W gk σ H1 fun zs H2 => vs.length = sh.n ∧ zs.length = sh.ks.length ∧ spD Γ ps.length g (gV vs zs) H2 Q (WE W σ)) I ⟨φ, ρ, s0, er, rel, go.bind.imp fun ds s1 φ1 H1 a1 r1 go1 vs hvs => ?_⟩) fun us s1 ⟨vs, H1, I1, r, q⟩ => ?_) hp (star_ns hn.1)
  · refine ⟨φ1, ρ, s1, er.mono a1, r1, go1.bind.imp fun ys s2 φ2 H2 a2 r2 go2 zs hzs => ?_⟩
    obtain ⟨l1, l2, out, e1, go3⟩ := go2.callK
    exact ⟨by rw [hvs.len, l1], by rw [hzs.len, l2], spD_of hst (rp (hvs.mono a2) hzs l1 l2 e1) r2 go3⟩
  · refine thn (hkw.run pos pins s1 σ H1 _ I1 q) fun ws s2 ⟨zs, H2, I2, rz, l1, l2, q2⟩ => ⟨I2.kIn, ?_⟩
    rw [h2]
    exact run_fnKS F hr KB (passAt tk σ) l1 l2 I2 r rz q2
theorem s_callk0 (F : FnOk X.prog X.w X.K X.mg X.base (L2.CX X.prog X.w) k f fd ps (spD Γ ps.length g)) (S : ShOk Γ X.K fd ps sh) (hr : Room k X.A) (hg : Gl X x) (hm : X.mg x = some (.ref f)) (hk : PySem.W.keepIn X.K (.ref f) = true)
    (tk : Takes X W) (hst : ∀ ds s, ds.length ≠ ps.length → g ds s = .stuck) (hkn : kwNames kws sh.ks = true) (hkw : PK X kws (dA Γ W gk)) (hdb : (x == ("__debug__" : Str)) = false) :
    PE X (.Call (.Name x p) [] kws pos) (dE Γ W fun ρ s => (R.ok [] s).bind fun xs s => (gk ρ s).bind fun ys s => callK sh g xs ys s) := by
  obtain ⟨gv, gV, KB, rp⟩ := S.ex
  obtain ⟨h1, h2, h3⟩ := kw_all (pos := pos) (env := X.env) hkn
  refine ⟨fun pins s σ H Q I ⟨φ, ρ, s0, er, rel, go⟩ => ?_⟩
  refine wpAny_Call_Name_kw (ld_glob I hg hm ?_ hdb)
  refine PySem.W.callWith_KW0 (h₀ := X.base) I.ok.mod.kin hk h1 ?_ (by rw [h3]; rfl)
  have go : Go Γ W φ H σ ((gk ρ s0).bind fun ys s => callK sh g [] ys s) _ := go
  refine thn (hkw.run pos pins s σ H (fun zs H2 => 0 = sh.n ∧ zs.length = sh.ks.length ∧ spD Γ ps.length g (gV [] zs) H2 Q (WE W σ)) I ⟨φ, ρ, s0, er, rel, go.bind.imp fun ys s2 φ2 H2 a2 r2 go2 zs hzs => ?_⟩) fun ws s2 ⟨zs, H2, I2, rz, l1, l2, q2⟩ => ⟨I2.kIn, ?_⟩
  · obtain ⟨l1, l2, out, e1, go3⟩ := go2.callK
    exact ⟨l1, by rw [hzs.len, l2], spD_of hst (rp .nil hzs l1 l2 e1) r2 go3⟩
  · rw [h2]
    exact run_fnKS (us := []) (vs := []) F hr KB (passAt tk σ) l1 l2 I2 .nil rz q2
theorem s_knil : PK X [] (dA Γ W fun _ s => .ok [] s) := ⟨fun pos pins s σ H Q I ⟨φ, ρ, s0, er, rel, go⟩ => pk_nil.run pos pins s σ H Q I (go φ H (.refl _ _) rel [] .nil)⟩
theorem s_kcons {nm : Option Str} {kpos : Pos} (ha : PE X a (dE Γ W ga)) (hr : PK X kws (dA Γ W gk)) : PK X (⟨nm, a, kpos⟩ :: kws) (dA Γ W fun ρ s => (ga ρ s).bind fun x s => (gk ρ s).bind fun xs s => .ok (x :: xs) s) :=
  ⟨fun pos pins s σ H Q I ⟨φ, ρ, s0, er, rel, go⟩ => (pk_cons ha hr).run pos pins s σ H Q I ⟨φ, ρ, s0, er, rel, go.bind.imp fun x s1 φ1 H1 a1 r1 go1 v hv =>
    ⟨φ1, ρ, s1, er.mono a1, r1, go1.bind.imp fun xs s2 φ2 H2 a2 r2 go2 vs hvs => go2 φ2 H2 (.refl _ _) r2 _ (.cons (hv.mono a2) hvs)⟩⟩⟩
end
end
end G

set_option Elab.async false
set_option linter.all false
set_option maxRecDepth 100000
/-! Statements. -/
namespace G
open PySem L2

section
variable {Γ : Gm} {W : WX} {X : Cx} {pos : Pos} {a b c e : Expr} {ga gb gc ge : G.Env → Stt → R D} {es : List Expr} {gs : G.Env → Stt → R (List D)} {st : Stmt} {sts sts' : List Stmt} {g1 g2 : G.Env → Stt → RS} {gt : G.Env → Stt → R Bool}

/-- no comprehension -/
def ncomp : Expr → Bool
  | .ListComp .. => false
  | .SetComp .. => false
  | .DictComp .. => false
  | _ => true
theorem swaps_n {t : Option Expr} {l : Nat} {env : PySem.Env} (h : ncomp e = true) : swapsWith e t l env = pure false := by
  cases e <;> first | rfl | exact nomatch h
theorem swaps_s {t : Expr} {l : Nat} {env : PySem.Env} (h : ncomp e = true) : swapsWithSole [t] e l env = pure false := swaps_n h
theorem GoS.here {φ : Fx} {H : Hp} {σ : St} {ρ : G.Env} {s : Stt} {D : Ends} (h : GoS Γ W φ H (.nx ρ s) D) (rel : Rel Γ φ H s) (er : ER Γ φ H σ ρ) : D.nx σ H := h φ H σ (.refl _ _) rel er

theorem ss_expr (h : ncomp e = true) (he : PE X e (dE Γ W ge)) : PS X (.Expr e pos) (dS Γ W fun ρ s => (ge ρ s).st ρ fun _ s => .nx ρ s) := (ps_expr he (swaps_n h)).mono fun D σ H ⟨φ, ρ, s, er, rel, go⟩ =>
  ⟨φ, ρ, s, er, rel, (go.st er).imp fun x s1 φ1 H1 a1 r1 go1 v hv => go1.here r1 (er.mono a1)⟩
theorem ss_ret (he : PE X e (dE Γ W ge)) : PS X (.Return (some e) pos) (dS Γ W fun ρ s => (ge ρ s).st ρ fun x s => .rt x s) := (ps_ret he).mono fun D σ H ⟨φ, ρ, s, er, rel, go⟩ =>
  ⟨φ, ρ, s, er, rel, (go.st er).imp fun x s1 φ1 H1 a1 r1 go1 v hv => go1 φ1 H1 v (.refl _ _) r1 hv⟩
theorem ss_retN : PS X (.Return none pos) (dS Γ W fun _ s => .rt .non s) := ps_retN.mono fun D σ H ⟨φ, ρ, s, er, rel, go⟩ => go φ H .non (.refl _ _) rel .non
theorem ss_pass : PS X (.Pass pos) (dS Γ W fun ρ s => .nx ρ s) := ps_pass.mono fun D σ H ⟨φ, ρ, s, er, rel, go⟩ => go.here rel er
theorem ss_brk : PS X (.Break pos) (dS Γ W fun ρ s => .bk ρ s) := ps_break.mono fun D σ H ⟨φ, ρ, s, er, rel, go⟩ => go φ H σ (.refl _ _) rel er
theorem ss_cont : PS X (.Continue pos) (dS Γ W fun ρ s => .ct ρ s) := ps_continue.mono fun D σ H ⟨φ, ρ, s, er, rel, go⟩ => go φ H σ (.refl _ _) rel er
theorem ss_never : PS X st (dS Γ W fun _ _ => .stuck) := ps_never.mono fun D σ H ⟨φ, ρ, s, er, rel, go⟩ => go.elim
theorem ss_nil : PSs X [] (dS Γ W fun ρ s => .nx ρ s) := pss_nil.mono fun D σ H ⟨φ, ρ, s, er, rel, go⟩ => go.here rel er
theorem ss_cons (h1 : PS X st (dS Γ W g1)) (h2 : PSs X sts (dS Γ W g2)) : PSs X (st :: sts) (dS Γ W fun ρ s => (g1 ρ s).seq fun ρ s => g2 ρ s) := (pss_cons h1 h2).mono fun D σ H ⟨φ, ρ, s, er, rel, go⟩ => by
  refine ⟨φ, ρ, s, er, rel, ?_⟩
  have q := go.seq
  cases e : g1 ρ s with
  | nx ρ1 s1 =>
    rw [e] at q
    exact fun φ1 H1 σ1 a r e => let ⟨ρ', s', φ', x1, x2, x3⟩ := q φ1 H1 σ1 a r e; ⟨φ', ρ', s', x1, x2, x3⟩
  | bk ρ1 s1 => rw [e] at q; exact q
  | ct ρ1 s1 => rw [e] at q; exact q
  | rt d s1 => rw [e] at q; exact q
  | exc c fs ρ1 s1 => rw [e] at q; exact q
  | stuck => rw [e] at q; exact q
theorem ss_if (hc : PT X c (dT Γ W gt)) (h1 : PSs X sts (dS Γ W g1)) (h2 : PSs X sts' (dS Γ W g2)) : PS X (.If c sts sts' pos) (dS Γ W fun ρ s => (gt ρ s).st ρ fun k s => if k = true then g1 ρ s else g2 ρ s) := (ps_if hc h1 h2).mono fun D σ H ⟨φ, ρ, s, er, rel, go⟩ => by
  refine ⟨φ, ρ, s, er, rel, (go.st er).imp fun k s1 φ1 H1 a1 r1 go1 => ?_⟩
  cases k with
  | true => exact ⟨φ1, ρ, s1, er.mono a1, r1, go1⟩
  | false => exact ⟨φ1, ρ, s1, er.mono a1, r1, go1⟩
theorem ss_set {i : Nat} {x : Str} {p : Pos} (hN : X.N.Nodup) (hi : X.N[i]? = some x) (hx : Loc X.env.scope x) (hf : X.fn x = true ∨ X.env.scope.names.lookup x = some .local) (h : ncomp e = true) (he : PE X e (dE Γ W ge)) :
    PS X (.Assign [.Name x p] e pos) (dS Γ W fun ρ s => (ge ρ s).st ρ fun x s => .nx (ρ.set i (some x)) s) := (ps_set hN hi hx he (swaps_n h) hf).mono fun D σ H ⟨φ, ρ, s, er, rel, go⟩ =>
  ⟨φ, ρ, s, er, rel, (go.st er).imp fun x s1 φ1 H1 a1 r1 go1 v hv => go1.here r1 ((er.mono a1).set hv i)⟩
/-- no tuple display -/
def ntup : Expr → Bool
  | .Tuple .. => false
  | _ => true
theorem ss_unp {is : List Nat} {n : Nat} {tes : List Expr} {kk} {tp : Pos} (hc : X.calm = true) (hK : X.K = Γ.K) (hn : is.length = n) (h2 : 2 ≤ n) (hg : PG X (.Tuple tes kk tp) (gTup X.K n (gNames is))) (h : ncomp e = true) (ht : ntup e = true) (he : PE X e (dE Γ W ge)) :
    PS X (.Assign [.Tuple tes kk tp] e pos) (dS Γ W fun ρ s => (ge ρ s).st ρ fun x s => match tgF is x ρ with
      | some ρ' => .nx ρ' s
      | none => .stuck) := by
  refine (ps_asg he hg (swaps_s h) ?_ rfl).mono fun D σ H ⟨φ, ρ, s, er, rel, go⟩ => ?_
  · cases e <;> first | rfl | exact nomatch ht
  · refine ⟨φ, ρ, s, er, rel, (go.st er).imp fun x s1 φ1 H1 a1 r1 go1 v hv => ?_⟩
    cases e1 : tgF is x ρ with
    | none => rw [e1] at go1; exact go1.elim
    | some ρ' =>
      rw [e1] at go1
      rw [hK]
      exact (tg_tup hn h2).go (er.mono a1) hv e1 fun σ' er' _ => go1.here r1 er'
theorem ss_aug {i : Nat} {x : Str} {p : Pos} (hN : X.N.Nodup) (hi : X.N[i]? = some x) (hx : Loc X.env.scope x) (hf : X.fn x = true ∨ X.env.scope.names.lookup x = some .local) (he : PE X e (dE Γ W ge)) :
    PS X (.AugAssign (.Name x p) .Add e pos) (dS Γ W fun ρ s => (R.of (ρ[i]?.join) s).st ρ fun x s => (ge ρ s).st ρ fun y s => (R.of (augF .add x y) s).st ρ fun z s => .nx (ρ.set i (some z)) s) := by
  have ip : PIp X .Add (fun x y H Q => ipI (fun i j => i + j) x y H Q ∨ ∃ i j, x = .str i ∧ y = .str j ∧ i.length + j.length ≤ sizeLine ∧ Q (.str (i ++ j)) H) := by
    intro pins s σ H x y v u Q I r1 r2 h
    rcases h with h | h
    · exact ip_add pins s σ H x y v u Q I r1 r2 h
    · exact iop_add_str pins s σ H x y v u Q I r1 r2 h
  refine (ps_aug hN hi hx he ip hf).mono fun D σ H ⟨φ, ρ, s, er, rel, go⟩ => ?_
  obtain ⟨d, e1, k⟩ := (go.st er).of
  obtain ⟨v, h1, h2⟩ := er.var e1
  have go := k φ H (.refl _ _) rel
  refine ⟨v, h1, φ, ρ, s, er, rel, (go.st er).imp fun y s1 φ1 H1 a1 r1 go1 u hu => ?_⟩
  have h3 := h2.mono a1
  have er1 := er.mono a1
  obtain ⟨z, hz, k1⟩ := (go1.st er1).of
  have k2 := k1 φ1 H1 (.refl _ _) r1
  unfold augF at hz
  split at hz
  · cases hz
    cases h3
    cases hu
    exact .inl ⟨_, _, rfl, rfl, k2.here r1 (er1.set (.int _) i)⟩
  · split at hz
    · rename_i hl
      cases hz
      cases h3
      cases hu
      refine .inr ⟨_, _, rfl, rfl, by rw [tS_len, tS_len]; exact hl, ?_⟩
      rw [← tS_app]
      exact k2.here r1 (er1.set (.str _) i)
    · cases hz
  · cases hz
/-- no slice -/
def nsl : Expr → Bool
  | .Slice .. => false
  | _ => true
theorem ss_setix {o i : Expr} {go_ gi : G.Env → Stt → R D} {p : Pos} (hsl : nsl i = true) (h : ncomp e = true) (ho : PE X o (dE Γ W go_)) (hi : PE X i (dE Γ W gi)) (he : PE X e (dE Γ W ge)) :
    PS X (.Assign [.Subscript o i p] e pos) (dS Γ W fun ρ s => (ge ρ s).st ρ fun y s => (go_ ρ s).st ρ fun x s => (gi ρ s).st ρ fun z s => match x, z with
    | .ref n, .int i => match s[n]? with
      | some (.lst xs) => match ixN xs.length i with
        | some j => .nx ρ (s.set n (.lst (xs.set j y)))
        | none => .stuck
      | _ => .stuck
    | _, _ => .stuck) := by
  refine (ps_asg he (pg_sub ho hi set_list (fun v => by cases i <;> first | rfl | exact nomatch hsl)) (swaps_s h) rfl rfl).mono fun D σ H ⟨φ, ρ, s, er, rel, go⟩ => ?_
  refine ⟨φ, ρ, s, er, rel, (go.st er).imp fun y s1 φ1 H1 a1 r1 go1 v hv => ?_⟩
  have er1 := er.mono a1
  refine ⟨φ1, ρ, s1, er1, r1, (go1.st er1).imp fun x s2 φ2 H2 a2 r2 go2 w hw => ?_⟩
  have er2 := er1.mono a2
  refine ⟨φ2, ρ, s2, er2, r2, (go2.st er2).imp fun z s3 φ3 H3 a3 r3 go3 u hu => ?_⟩
  have er3 := er2.mono a3
  split at go3
  · rename_i n i
    split at go3
    · rename_i xs hx
      split at go3
      · rename_i j hj
        have hw3 := hw.mono a3
        cases hu
        cases hw3 with
        | ref hp =>
          obtain ⟨vs, h4, h5⟩ := r3.cell _ _ _ hp hx
          have A : After φ3 H3 φ3 (upd H3 _ (.lst (vs.set j v))) := After.write (List.mem_of_getElem? hp) ⟨_, h4, .l⟩ not_lst
          refine ⟨_, vs, _, j, rfl, rfl, h4, by rw [h5.len]; exact hj, ?_⟩
          exact (GoS.from A go3).here (r3.write hp (h5.set ((hv.mono a2).mono a3) j)) (er3.mono A)
      · exact go3.elim
    · exact go3.elim
  · exact go3.elim
theorem ss_for {tg iter : Expr} {tgs : List Nat} {g : TG} {gi : G.Env → Stt → R (List D)} (hp : PassesOwn (model X.prog X.w) X.A X.env X.xe) (hc : X.calm = true) (hi : PI X tg iter (dI Γ W gi)) (tk : TgOk Γ tgs g) (hg : PG X tg g) (hb : PSs X sts (dS Γ W g1)) (hs : ∀ x, foldedSetIterable iter X.env x = pure x) :
    PS X (.For tg iter sts [] pos) (dS Γ W fun ρ s => (gi ρ s).st ρ fun xs s => loopF (fun d ρ s => match tgF tgs d ρ with
      | none => .stuck
      | some ρ' => g1 ρ' s) xs ρ s) := by
  refine (ps_for hp hc hi hg hb hs).mono fun D σ H ⟨φ, ρ, s, er, rel, go⟩ => ?_
  refine ⟨φ, ρ, s, er, rel, (go.st er).imp fun xs s1 φ1 H1 a1 r1 go1 J hJ => ?_⟩
  refine ⟨fun i m σ H => m = xs.length - i ∧ i ≤ xs.length ∧ ∃ φc ρ s, After φ1 H1 φc H ∧ ER Γ φc H σ ρ ∧ Rel Γ φc H s ∧ GoS Γ W φc H (loopF (fun d ρ s => match tgF tgs d ρ with
      | none => .stuck
      | some ρ' => g1 ρ' s) (xs.drop i) ρ s) D, ⟨_, rfl, Nat.zero_le _, φ1, ρ, s1, .refl _ _, er.mono a1, r1, go1⟩, ?_⟩
  rintro i m σ2 H2 ⟨rfl, hi, φ2, ρ2, s2, a2, er2, r2, go2⟩
  obtain ⟨w1, w2⟩ := hJ i φ2 H2 s2 a2 r2
  by_cases hlt : i < xs.length
  · obtain ⟨hgo, hy⟩ := w1 hlt
    refine .inr ⟨hgo, _, fun σ' H' p' => ⟨xs.length - (i + 1), by omega, rfl, hlt, p'⟩, fun x H3 hx => ?_⟩
    obtain ⟨a3, r3, d, hd, hr⟩ := hy x H3 hx
    rw [List.drop_eq_getElem_cons hlt] at go2
    have hd' : xs[i] = d := by rw [List.getElem?_eq_getElem hlt] at hd; exact Option.some.inj hd
    rw [hd'] at go2
    unfold loopF at go2
    cases htg : tgF tgs d ρ2 with
    | none => rw [htg] at go2; exact go2.elim
    | some ρ' =>
      rw [htg] at go2
      have go2 := GoS.from a3 go2
      refine tk.go (er2.mono a3) hr htg fun σ4 er4 _ => ⟨φ2, ρ', s2, er4, r3, ?_⟩
      have a23 := a2.trans a3
      cases e : g1 ρ' s2 with
      | nx ρ5 s5 => simp only [e] at go2; exact fun φ5 H5 σ5 a5 r5 er5 => ⟨φ5, ρ5, s5, a23.trans a5, er5, r5, GoS.from a5 go2⟩
      | ct ρ5 s5 => simp only [e] at go2; exact fun φ5 H5 σ5 a5 r5 er5 => ⟨φ5, ρ5, s5, a23.trans a5, er5, r5, GoS.from a5 go2⟩
      | bk ρ5 s5 => simp only [e] at go2; exact go2
      | rt d s5 => simp only [e] at go2; exact go2
      | exc c fs ρ5 s5 => simp only [e] at go2; exact go2
      | stuck => simp only [e] at go2; exact go2
  · have e : i = xs.length := by omega
    subst e
    rw [List.drop_length] at go2
    exact .inl ⟨w2 (Nat.le_refl _), go2.here r2 er2⟩
theorem ss_while (hp : PassesOwn (model X.prog X.w) X.A X.env X.xe) (hc : PT X c (dT Γ W gt)) (hb : PSs X sts (dS Γ W g1)) (n : Nat) : PS X (.While c sts [] pos) (dS Γ W fun ρ s => loopW gt g1 n ρ s) := by
  refine (ps_while hp hc hb).mono fun D σ H ⟨φ, ρ, s, er, rel, go⟩ => ?_
  refine ⟨fun m σ H => ∃ φ ρ s, ER Γ φ H σ ρ ∧ Rel Γ φ H s ∧ GoS Γ W φ H (loopW gt g1 m ρ s) D, ⟨n, φ, ρ, s, er, rel, go⟩, ?_⟩
  rintro m σ1 H1 ⟨φ1, ρ1, s1, er1, r1, go1⟩
  cases m with
  | zero => exact go1.elim
  | succ m =>
    refine ⟨φ1, ρ1, s1, er1, r1, (GoS.st (f := fun b s' => if b = true then (match g1 ρ1 s' with
      | .nx ρ' s => loopW gt g1 m ρ' s
      | .ct ρ' s => loopW gt g1 m ρ' s
      | .bk ρ' s => .nx ρ' s
      | .rt d s => .rt d s
      | .exc c fs ρ' s => .exc c fs ρ' s
      | .stuck => .stuck) else .nx ρ1 s') er1 go1).imp fun k s2 φ2 H2 a2 r2 go2 => ?_⟩
    have er2 := er1.mono a2
    cases k with
    | false => exact iteF (go2.here r2 er2)
    | true =>
      refine iteT ⟨fun σ H => ∃ φ ρ s, ER Γ φ H σ ρ ∧ Rel Γ φ H s ∧ GoS Γ W φ H (loopW gt g1 m ρ s) D, fun σ' H' q => ⟨m, Nat.lt_succ_self m, q⟩, φ2, ρ1, s2, er2, r2, ?_⟩
      have go2 : GoS Γ W φ2 H2 (match g1 ρ1 s2 with
        | .nx ρ' s => loopW gt g1 m ρ' s
        | .ct ρ' s => loopW gt g1 m ρ' s
        | .bk ρ' s => .nx ρ' s
        | .rt d s => .rt d s
        | .exc c fs ρ' s => .exc c fs ρ' s
        | .stuck => .stuck) D := go2
      cases e : g1 ρ1 s2 with
      | nx ρ5 s5 => simp only [e] at go2; exact fun φ5 H5 σ5 a5 r5 er5 => ⟨φ5, ρ5, s5, er5, r5, GoS.from a5 go2⟩
      | ct ρ5 s5 => simp only [e] at go2; exact fun φ5 H5 σ5 a5 r5 er5 => ⟨φ5, ρ5, s5, er5, r5, GoS.from a5 go2⟩
      | bk ρ5 s5 => simp only [e] at go2; exact go2
      | rt d s5 => simp only [e] at go2; exact go2
      | exc c fs ρ5 s5 => simp only [e] at go2; exact go2
      | stuck => simp only [e] at go2; exact go2

/-! ### a, b = x, y -/
def swK (sc : Scope) (ts vs : List Expr) : Option (Option (List Str)) :=
  if (!(ts.length == 2 || ts.length == 3) || vs.length != ts.length) = true then some none
  else if (vs.any fun | .Starred .. => true | _ => false) = true then some none
  else
    let line := (ts.head?.map (·.pos.line)).getD 0
    let names := ts.filterMap fun
      | .Name id pos => if sc.names.lookup id == some .local && pos.line == line then some id else none
      | _ => none
    if (names.length != ts.length || names.eraseDups.length != names.length) = true then some none
    else if vs.all (foldedForSure 8) = true then some none
    else if vs.all (constantsAlone 8) = true then none
    else some (some names)
theorem swK_ok {env : PySem.Env} {ts vs : List Expr} {kt pt k2 p2} {r : Option (List Str)} (hb : env.scope.kind = .function) (h : swK env.scope ts vs = some r) : swappedStores [.Tuple ts kt pt] (.Tuple vs k2 p2) env = pure r := by
  have hb' : env.blockKind = .function := by unfold Env.blockKind; rw [hb]; rfl
  have hb2 : (env.blockKind != .function) = false := by rw [hb']; rfl
  unfold swK at h
  unfold swappedStores
  simp only [hb2, Bool.or_false]
  split at h
  · rename_i q
    cases h
    rw [if_pos q]
  · rename_i q
    rw [if_neg q]
    split at h
    · rename_i q2
      cases h
      exact if_pos q2
    · rename_i q2
      refine Eq.trans (if_neg q2) ?_
      simp only at h
      split at h
      · rename_i q3
        cases h
        exact if_pos q3
      · rename_i q3
        refine Eq.trans (if_neg q3) ?_
        split at h
        · rename_i q4
          cases h
          exact if_pos q4
        · rename_i q4
          refine Eq.trans (if_neg q4) ?_
          split at h
          · cases h
          · rename_i q5
            cases h
            exact if_neg q5
theorem ss_par2 {i j : Nat} {x y : Str} {px py pt : Pos} {kt k2 pt2} (hc : X.calm = true) (hN : X.N.Nodup) (hi : X.N[i]? = some x) (hj : X.N[j]? = some y) (hij : i ≠ j) (hb : X.env.scope.kind = .function)
    (hx : X.env.scope.names.lookup x = some .local) (hy : X.env.scope.names.lookup y = some .local) (ha : PA X [a, b] (dA Γ W gs))
    (hw : swK X.env.scope [.Name x px, .Name y py] [a, b] = some (some [x, y])) :
    PS X (.Assign [.Tuple [.Name x px, .Name y py] kt pt] (.Tuple [a, b] k2 pt2) pos) (dS Γ W fun ρ s => (gs ρ s).st ρ fun xs s => if [i, j].length = xs.length then .nx (([i, j].zip xs).foldl (fun ρ p => ρ.set p.1 (some p.2)) ρ) s else .stuck) :=
  (ps_par hc hN hi hj hij hx hy ha (swK_ok hb hw)).mono fun D σ H ⟨φ, ρ, s, er, rel, go⟩ => by
  refine ⟨φ, ρ, s, er, rel, (go.st er).imp fun xs s1 φ1 H1 a1 r1 go1 vs hvs => ?_⟩
  split at go1
  · rename_i hl
    match xs, vs, hl, hvs, go1 with
    | [d1, d2], [v1, v2], _, .cons h1 (.cons h2 .nil), go1 =>
      exact ⟨v1, v2, rfl, go1.here r1 (((er.mono a1).set h1 i).set h2 j)⟩
  · exact go1.elim
theorem ss_par3 {i j l : Nat} {x y z : Str} {px py pz pt : Pos} {kt k2 pt2} (hc : X.calm = true) (hN : X.N.Nodup) (hi : X.N[i]? = some x) (hj : X.N[j]? = some y) (hl : X.N[l]? = some z) (hij : i ≠ j) (hil : i ≠ l) (hjl : j ≠ l) (hb : X.env.scope.kind = .function)
    (hx : X.env.scope.names.lookup x = some .local) (hy : X.env.scope.names.lookup y = some .local) (hz : X.env.scope.names.lookup z = some .local) (ha : PA X [a, b, c] (dA Γ W gs))
    (hw : swK X.env.scope [.Name x px, .Name y py, .Name z pz] [a, b, c] = some (some [x, y, z])) :
    PS X (.Assign [.Tuple [.Name x px, .Name y py, .Name z pz] kt pt] (.Tuple [a, b, c] k2 pt2) pos) (dS Γ W fun ρ s => (gs ρ s).st ρ fun xs s => if [i, j, l].length = xs.length then .nx (([i, j, l].zip xs).foldl (fun ρ p => ρ.set p.1 (some p.2)) ρ) s else .stuck) :=
  (ps_par3 hc hN hi hj hl hij hil hjl hx hy hz ha (swK_ok hb hw)).mono fun D σ H ⟨φ, ρ, s, er, rel, go⟩ => by
  refine ⟨φ, ρ, s, er, rel, (go.st er).imp fun xs s1 φ1 H1 a1 r1 go1 vs hvs => ?_⟩
  split at go1
  · rename_i hl
    match xs, vs, hl, hvs, go1 with
    | [d1, d2, d3], [v1, v2, v3], _, .cons h1 (.cons h2 (.cons h3 .nil)), go1 =>
      exact ⟨v1, v2, v3, rfl, go1.here r1 ((((er.mono a1).set h1 i).set h2 j).set h3 l)⟩
  · exact go1.elim
/-- the tuple is made, then unpacked -/
theorem ss_parN {is : List Nat} {n : Nat} {tes : List Expr} {kk} {tp : Pos} {k2 pt2} (hc : X.calm = true) (hK : X.K = Γ.K) (hn : is.length = n) (h2 : 2 ≤ n) (hn4 : n ≤ 100) (hg : PG X (.Tuple tes kk tp) (gTup X.K n (gNames is))) (hb : X.env.scope.kind = .function) (ha : PA X es (dA Γ W gs))
    (hw : swK X.env.scope tes es = some none) :
    PS X (.Assign [.Tuple tes kk tp] (.Tuple es k2 pt2) pos) (dS Γ W fun ρ s => (gs ρ s).st ρ fun xs s => if is.length = xs.length then .nx ((is.zip xs).foldl (fun ρ p => ρ.set p.1 (some p.2)) ρ) s else .stuck) := by
  refine (ps_asg (pe_tup ha) hg rfl (swK_ok hb hw) rfl).mono fun D σ H ⟨φ, ρ, s, er, rel, go⟩ => ?_
  refine ⟨φ, ρ, s, er, rel, (go.st er).imp fun xs s1 φ1 H1 a1 r1 go1 vs hvs => ?_⟩
  split at go1
  · rename_i hl
    have sl : (sizeLine : Nat) = 16777216 := sizeLine_eq
    refine ⟨by rw [hvs.len, ← hl]; omega, fun p hp => ?_⟩
    have A : After φ1 H1 φ1 (upd H1 p (.tup vs)) := .fresh hp
    rw [hK]
    refine ⟨_, vs, rfl, SqT.of upd_same, by rw [hvs.len, ← hl]; exact hn, ?_⟩
    exact gNames_ok (hvs.mono A) ((er.mono a1).mono A) hl fun σ' er' _ => (GoS.from A go1).here (r1.fresh hp) er'
  · exact go1.elim
end
end G

set_option Elab.async false
set_option linter.all false
set_option maxRecDepth 100000
set_option maxHeartbeats 0
/-! A plain function read off an own class and called: C.m(self, ..). -/
namespace G
open PySem L2
section
variable {X : Cx} {W : WX} {k : Nat} {fa C : Addr} {fd : FuncData} {ps : List Str} {sp : Sp} {mc : Value} {m : Str} {o e : Expr} {es : List Expr} {ta : TA} {apos pos : Pos}
def tClsF (sp : Sp) (W : WX) (ta : TA) : TE := fun σ H Q => ta σ H fun vs H1 => sp vs H1 Q (WE W σ)
theorem pe_clsfn {pl : Sem Bool} (ho : PE X o (fun _ H Q => Q (.ref C) H)) (r : ClX.CRead X.K C mc) (c : ClX.CVal X.K C mc m (.ref fa) (.ref fa)) (F : FnOk X.prog X.w X.K X.mg X.base (L2.CX X.prog X.w) k fa fd ps sp) (hr : Room k X.A) (hk : PySem.W.keepIn X.K (.ref fa) = true) (hb : Binds X.K fd ps []) (tk : Takes X W) (ha : PA X (e :: es) ta)
    (hst : starEach (e :: es) X.env = (false, eval e X.env) :: starEach es X.env) (hpl : (backTo pos (starEach es X.env)).any (·.1) = false)
    (ht : eval (.Call (.Attribute o m apos) (e :: es) [] pos) X.env = (do
      let ov ← eval o X.env
      standAt apos.atName
      let (f, first) ← holding [ov] (getMethod ov m pl)
      callWith pos f first (backTo pos (starEach (e :: es) X.env)) (backToKw pos (keywordEach [] X.env)))) :
    PE X (.Call (.Attribute o m apos) (e :: es) [] pos) (tClsF sp W ta) := by
  refine ⟨fun pins s σ H Q I h => ?_⟩
  refine PySem.W.methodCall_KW (pl := pl) (thn (ho.run pins s σ H (fun x H1 => x = V.ref C ∧ H1 = H) I ⟨rfl, rfl⟩) fun u s1 ⟨x, H1, I1, rx, ex, eh⟩ => ?_) ht
  subst ex eh
  obtain rfl : u = Value.ref C := rx
  refine PySem.W.method_cls I1.kIn r.ga (ClX.getcval_ok I1 r c fun s2 I2 => ?_)
  refine PySem.W.callWith_K (h₀ := X.base) I2.ok.mod.kin hk (thn (ha.run pos pins s2 σ H1 _ I2 h) fun us s3 ⟨vs, H2, I3, rv, q⟩ => ⟨I3.kIn, ?_⟩) hst hpl
  have q2 : sp (vs ++ []) H2 Q (WE W σ) := by rw [List.append_nil]; exact q
  exact run_fnSD (E := WE W) F hr hb .nil (passAt tk σ) I3 rv q2
end
section
variable {X : Cx}
/-- C(), C's own __init__ keeping sp -/
def tMkO0 (C : Addr) (sp : Sp) : St → Hp → XK → Prop := fun σ H Q => ∀ a, H a = none → sp [.ref a] (upd H a (exo a C none))
  (fun v H2 => v = .non ∧ ∃ (d : Addr) (fs : List (Str × V)), H2 a = some (exo a C (some d)) ∧ H2 d = some (exd d fs) ∧ H d = none ∧ Q (.ref C) (some d) (upd (del H2 a) d (.xd fs))) (fun _ _ _ => False)
theorem pmk_oex0 {CX : CXT} {x : Str} {C fI : Addr} {k : Nat} {fd : FuncData} {ps : List Str} {sp : Sp} {p pos : Pos} (T : OexC X.K C) (hi : PySem.W.findIn X.K (.ref C) "__init__" = some (some (.ref fI))) (ht : PySem.W.typeIn X.K (.ref fI) = some (.type "function"))
    (F1 : FnOk X.prog X.w X.K X.mg X.base CX k fI fd ps sp) (hr : Room (k + 1) X.A) (hb : Binds X.K fd ps []) (hx : Passes CX X (fun _ _ _ => False)) (hg : Gl X x) (hm : X.mg x = some (.ref C)) (hdb : (x == ("__debug__" : Str)) = false) :
    PMk X (.Call (.Name x p) [] [] pos) (tMkO0 C sp) := by
  intro pins s σ H Q I h
  obtain ⟨nm, q, N, bs, bm, sn, sub, ab, col, dd, k0, k1, k2, k3, k5, hC, hbm⟩ := T.cls
  refine wpAny_Call_Name_kw (ld_glob I hg hm ?_ hdb)
  refine PySem.W.callWith_K0 I.kIn T.kC ?_
  show wpAny _ _ (call (.ref C) []) _ _ _
  obtain ⟨hp, ge, dr, tk, os⟩ := s
  have h1 : hp.objs.size ≤ hp.objs.size + 1 := Nat.le_succ _
  have h2 : H (hp.objs.size + 1) = none := I.hok.fresh h1
  have h3 := h (hp.objs.size + 1) h2
  have kp : ∀ b ob, hp.get? b = some ob → ((hp.push (PySem.W.kdv_tup [])).push (PySem.HandSPX.excO C hp.objs.size)).get? b = some ob := fun b ob z => Heap.get?_push_of_some _ (Heap.get?_push_of_some _ z)
  have hat : ((hp.push (PySem.W.kdv_tup [])).push (PySem.HandSPX.excO C hp.objs.size)).get? (hp.objs.size + 1) = some (PySem.HandSPX.excO C hp.objs.size) := by heap_get
  have J : L2.Inv X pins σ (upd H (hp.objs.size + 1) (exo (hp.objs.size + 1) C none)) ⟨(hp.push (PySem.W.kdv_tup [])).push (PySem.HandSPX.excO C hp.objs.size), ge, dr, tk, os⟩ :=
    I.laid (t' := tk) (a := hp.objs.size + 1) (o := exo (hp.objs.size + 1) C none) (h' := (hp.push (PySem.W.kdv_tup [])).push (PySem.HandSPX.excO C hp.objs.size)) kp h1 (exo_ok hat)
  have rr : Vals [V.ref (hp.objs.size + 1)] [Value.ref (hp.objs.size + 1)] := .cons rfl .nil
  have hl : ([Value.ref (hp.objs.size + 1)] ++ []).length = ps.length := (F1.len _ _ _ _ h3)
  refine wpAny_call (PySem.HandSPX.call_own F.excBase_ValueError (fun Y => PySem.HandSPX.refsVE_contains Y bm hbm) (I.kIn _ _ hC) (PySem.W.looks_findIn I.kIn hi) (fun self => PySem.W.bind_fn I.kIn self ht) (Nat.zero_le _)
    (codeAny_mono (F1.run _ X.stack _ _ ⟨[Value.ref (hp.objs.size + 1)], []⟩ [Value.ref (hp.objs.size + 1)] _ _ (fun _ _ _ => False) (hr.make C [] []) (J.env0.make C [] []) (hb _ [Value.ref (hp.objs.size + 1)] J.kIn hl) rr h3) fun r s' hq => ?_))
  cases r with
  | error er => exact hx pins σ _ _ er s' J hq
  | ok fl =>
    cases fl with
    | ret u =>
      obtain ⟨v, H2, os2, bare2, un2, hok2, rv, ev, d, fs, ea, ed, hd1, q2⟩ := hq
      subst ev
      obtain ⟨hp2, ge2, dr2, tk2, os'⟩ := s'
      exact ⟨rv, mk_end (raises_own T.exC T.tyC) I h1 kp un2 hok2 os2 bare2 ea ed hd1 q2⟩
    | next => exact False.elim hq
    | brk => exact False.elim hq
    | cont => exact False.elim hq
end
/-! ### the classes' __init__ -/
/-- self.f = v behind ValueError.__init__(self, v): the exception at a gets its dict -/
def spStone (K : PySem.W.Frag) : Sp := fun vs H Q _ => ∃ a C v, vs = [.ref a, v] ∧ OexC K C ∧ PySem.W.findIn K (.ref C) "called" = some none ∧ H a = some (exo a C none) ∧ ∀ dx, H dx = none → dx ≠ a → Q .non (upd (upd H dx (exd dx [("called", v)])) a (exo a C (some dx)))
theorem stone_ok {prog : Program} {w : World} {K : PySem.W.Frag} {mg : Str → Option Value} {base : Heap} {CX : CXT} {k : Nat} {fa : Addr} {fd : FuncData} {x qual : Str} {params : Arguments} {scope : Scope} {dvs : List V} {kws : List (Str × V)} {p1 p2 p3 p4 p5 p6 p7 p8 p9 p10 : Pos}
    (F : FunD K x qual params [.Expr (.Call (.Attribute (.Name "ValueError" p1) "__init__" p2) [.Name "self" p3, .Name "called" p4] [] p5) p6, .Assign [.Attribute (.Name "self" p7) "called" p8] (.Name "called" p9) p10] scope dvs kws fa fd)
    (S : FnScope ["self", "called"] ["self", "called"] scope) (hs : scope.names.lookup ("self" : Str) = some NameKind.local) (hd : scope.names.lookup ("called" : Str) = some NameKind.local) (hv : scope.names.lookup ("ValueError" : Str) = some NameKind.globalImplicit) (hm : mg "ValueError" = none)
    (vV : PySem.W.findCls K (.type "ValueError") (.type "type") "__init__" = some (.val (.builtin "ValueError.__init__")))
    (hc : ∀ env : PySem.Env, ∃ pl : Sem Bool, eval (.Call (.Attribute (.Name "ValueError" p1) "__init__" p2) [.Name "self" p3, .Name "called" p4] [] p5) env = (do
      let ov ← eval (.Name "ValueError" p1) env
      standAt p2.atName
      let (g, fst) ← holding [ov] (getMethod ov "__init__" pl)
      callWith p5 g fst (backTo p5 (starEach [.Name "self" p3, .Name "called" p4] env)) (backToKw p5 (keywordEach [] env)))) :
    FnOk prog w K mg base CX (k + 1) fa fd ["self", "called"] (spStone K) := by
  refine F.ok S (fun vs H Q E h => ?_) fun cdv A outer s0 H vs Q E hr h => ?_
  · obtain ⟨a, C, v, rfl, _⟩ := h
    rfl
  · obtain ⟨a, C, v, rfl, T, hf, ha, hq⟩ := h
    obtain ⟨pl, hc⟩ := hc (cxOf CX prog w K mg base ["self", "called"] qual scope fa cdv A outer s0 H E).env
    refine ⟨_, pss_cons (ps_expr (pe_veinit (pl := pl) (X := cxOf CX prog w K mg base ["self", "called"] qual scope fa cdv A outer s0 H E) hv hm vV (pa_cons (pv 0 (hv := .inl hs)) (pa_cons (pv 1 (hv := .inl hd)) pa_nil)) hc)) (pss_one (ps_ost (pv 0 (hv := .inl hs)) (pv 1 (hv := .inl hd)))), ?_⟩
    refine ⟨.ref a, rfl, v, rfl, a, C, [v], rfl, by simp, T, ha, ?_⟩
    refine ⟨v, rfl, .ref a, rfl, a, C, rfl, T, hf, .inl ⟨ha, fun dx h1 h2 => hq dx h1 h2⟩⟩
/-- an heir's, without a field: StoneError.__init__(self, 'called') -/
def spHeir0 (K : PySem.W.Frag) (z : Str) : Sp := fun vs H Q _ => ∃ a C, vs = [.ref a] ∧ OexC K C ∧ PySem.W.findIn K (.ref C) "called" = some none ∧ H a = some (exo a C none) ∧ ∀ dx, H dx = none → dx ≠ a → Q .non (upd (upd H dx (exd dx [("called", .str z)])) a (exo a C (some dx)))
theorem heir0_ok {prog : Program} {w : World} {K : PySem.W.Frag} {mg : Str → Option Value} {base : Heap} {k : Nat} {fa fs CS : Addr} {mc : Value} {fd fds : FuncData} {x qual z : Str} {params : Arguments} {scope : Scope} {dvs : List V} {kws : List (Str × V)} {j : Nat} {p1 p2 p3 p4 p5 p6 : Pos}
    (F : FunD K x qual params [.Expr (.Call (.Attribute (.Name "StoneError" p1) "__init__" p2) [.Name "self" p3, .Constant (.str z) j p4] [] p5) p6] scope dvs kws fa fd)
    (S : FnScope ["self"] ["self"] scope) (hs : scope.names.lookup ("self" : Str) = some NameKind.local) (hv : scope.names.lookup ("StoneError" : Str) = some NameKind.globalImplicit) (hm : mg "StoneError" = some (.ref CS))
    (r : ClX.CRead K CS mc) (c : ClX.CVal K CS mc "__init__" (.ref fs) (.ref fs)) (FS : FnOk prog w K mg base (L2.CX prog w) k fs fds ["self", "called"] (spStone K)) (hk : PySem.W.keepIn K (.ref fs) = true) (hb : Binds K fds ["self", "called"] [])
    (hc : ∀ env : PySem.Env, ∃ pl : Sem Bool, eval (.Call (.Attribute (.Name "StoneError" p1) "__init__" p2) [.Name "self" p3, .Constant (.str z) j p4] [] p5) env = (do
      let ov ← eval (.Name "StoneError" p1) env
      standAt p2.atName
      let (g, fst) ← holding [ov] (getMethod ov "__init__" pl)
      callWith p5 g fst (backTo p5 (starEach [.Name "self" p3, .Constant (.str z) j p4] env)) (backToKw p5 (keywordEach [] env)))) :
    FnOk prog w K mg base (L2.CX prog w) (k + 1) fa fd ["self"] (spHeir0 K z) := by
  refine F.ok S (fun vs H Q E h => ?_) fun cdv A outer s0 H vs Q E hr h => ?_
  · obtain ⟨a, C, rfl, _⟩ := h
    rfl
  · obtain ⟨a, C, rfl, T, hf, ha, hq⟩ := h
    obtain ⟨pl, hc⟩ := hc (cxOf (L2.CX prog w) prog w K mg base ["self"] qual scope fa cdv A outer s0 H E).env
    have ho : PE (cxOf (L2.CX prog w) prog w K mg base ["self"] qual scope fa cdv A outer s0 H E) (.Name "StoneError" p1) (fun _ H Q => Q (.ref CS) H) := pe_glob (v := .ref CS) hv hm rfl
    refine ⟨_, pss_one (ps_expr (pe_clsfn (W := fun _ _ _ _ => False) (pl := pl) ho r c FS hr hk hb L2.takes0 (pa_cons (pv 0 (hv := .inl hs)) (pa_cons pe_str pa_nil)) rfl rfl hc)), ?_⟩
    refine ⟨.ref a, rfl, a, C, .str z, rfl, T, hf, ha, fun dx h1 h2 => hq dx h1 h2⟩
/-- an heir's, with one field y -/
def spHeir1 (K : PySem.W.Frag) (z y : Str) : Sp := fun vs H Q _ => ∃ a C v, vs = [.ref a, v] ∧ OexC K C ∧ PySem.W.findIn K (.ref C) "called" = some none ∧ PySem.W.findIn K (.ref C) y = some none ∧ H a = some (exo a C none) ∧
  ∀ dx, H dx = none → dx ≠ a → Q .non (upd (upd (upd H dx (exd dx [("called", .str z)])) a (exo a C (some dx))) dx (exd dx [(y, v), ("called", .str z)]))
theorem heir1_ok {prog : Program} {w : World} {K : PySem.W.Frag} {mg : Str → Option Value} {base : Heap} {k : Nat} {fa fs CS : Addr} {mc : Value} {fd fds : FuncData} {x qual z y : Str} {params : Arguments} {scope : Scope} {dvs : List V} {kws : List (Str × V)} {j : Nat} {p1 p2 p3 p4 p5 p6 p7 p8 p9 p10 : Pos}
    (F : FunD K x qual params [.Expr (.Call (.Attribute (.Name "StoneError" p1) "__init__" p2) [.Name "self" p3, .Constant (.str z) j p4] [] p5) p6, .Assign [.Attribute (.Name "self" p7) y p8] (.Name y p9) p10] scope dvs kws fa fd)
    (S : FnScope ["self", y] ["self", y] scope) (hs : scope.names.lookup ("self" : Str) = some NameKind.local) (hy : scope.names.lookup y = some NameKind.local) (hy1 : (y == ("__debug__" : Str)) = false) (hy2 : (y == ("__classdict__" : Str)) = false) (hv : scope.names.lookup ("StoneError" : Str) = some NameKind.globalImplicit) (hm : mg "StoneError" = some (.ref CS))
    (r : ClX.CRead K CS mc) (c : ClX.CVal K CS mc "__init__" (.ref fs) (.ref fs)) (FS : FnOk prog w K mg base (L2.CX prog w) k fs fds ["self", "called"] (spStone K)) (hk : PySem.W.keepIn K (.ref fs) = true) (hb : Binds K fds ["self", "called"] [])
    (hc : ∀ env : PySem.Env, ∃ pl : Sem Bool, eval (.Call (.Attribute (.Name "StoneError" p1) "__init__" p2) [.Name "self" p3, .Constant (.str z) j p4] [] p5) env = (do
      let ov ← eval (.Name "StoneError" p1) env
      standAt p2.atName
      let (g, fst) ← holding [ov] (getMethod ov "__init__" pl)
      callWith p5 g fst (backTo p5 (starEach [.Name "self" p3, .Constant (.str z) j p4] env)) (backToKw p5 (keywordEach [] env)))) :
    FnOk prog w K mg base (L2.CX prog w) (k + 1) fa fd ["self", y] (spHeir1 K z y) := by
  refine F.ok S (fun vs H Q E h => ?_) fun cdv A outer s0 H vs Q E hr h => ?_
  · obtain ⟨a, C, v, rfl, _⟩ := h
    rfl
  · obtain ⟨a, C, v, rfl, T, hf, hf2, ha, hq⟩ := h
    obtain ⟨pl, hc⟩ := hc (cxOf (L2.CX prog w) prog w K mg base ["self", y] qual scope fa cdv A outer s0 H E).env
    have ho : PE (cxOf (L2.CX prog w) prog w K mg base ["self", y] qual scope fa cdv A outer s0 H E) (.Name "StoneError" p1) (fun _ H Q => Q (.ref CS) H) := pe_glob (v := .ref CS) hv hm rfl
    refine ⟨_, pss_cons (ps_expr (pe_clsfn (W := fun _ _ _ _ => False) (pl := pl) ho r c FS hr hk hb L2.takes0 (pa_cons (pv 0 (hv := .inl hs)) (pa_cons pe_str pa_nil)) rfl rfl hc)) (pss_one (ps_ost (pv 0 (hv := .inl hs)) (pv 1 (hv := .inl hy) (hd := hy1) (hcd := hy2)))), ?_⟩
    refine ⟨.ref a, rfl, a, C, .str z, rfl, T, hf, ha, fun dx h1 h2 => ?_⟩
    refine ⟨v, rfl, .ref a, rfl, a, C, rfl, T, hf2, .inr ⟨dx, _, upd_same, ?_, by simp, hq dx h1 h2⟩⟩
    rw [upd_ne h2]
    exact upd_same
/-- an heir's, with two fields -/
def spHeir2 (K : PySem.W.Frag) (z y y2 : Str) : Sp := fun vs H Q _ => ∃ a C v v2, vs = [.ref a, v, v2] ∧ OexC K C ∧ PySem.W.findIn K (.ref C) "called" = some none ∧ PySem.W.findIn K (.ref C) y = some none ∧ PySem.W.findIn K (.ref C) y2 = some none ∧ H a = some (exo a C none) ∧
  ∀ dx, H dx = none → dx ≠ a → Q .non ((upd (upd (upd H dx (exd dx [("called", .str z)])) a (exo a C (some dx))) dx (exd dx [(y, v), ("called", .str z)])) |> fun H' => upd H' dx (exd dx [(y2, v2), (y, v), ("called", .str z)]))
theorem heir2_ok {prog : Program} {w : World} {K : PySem.W.Frag} {mg : Str → Option Value} {base : Heap} {k : Nat} {fa fs CS : Addr} {mc : Value} {fd fds : FuncData} {x qual z y y2 : Str} {params : Arguments} {scope : Scope} {dvs : List V} {kws : List (Str × V)} {j : Nat} {p1 p2 p3 p4 p5 p6 p7 p8 p9 p10 p11 p12 p13 p14 : Pos}
    (F : FunD K x qual params [.Expr (.Call (.Attribute (.Name "StoneError" p1) "__init__" p2) [.Name "self" p3, .Constant (.str z) j p4] [] p5) p6, .Assign [.Attribute (.Name "self" p7) y p8] (.Name y p9) p10, .Assign [.Attribute (.Name "self" p11) y2 p12] (.Name y2 p13) p14] scope dvs kws fa fd)
    (S : FnScope ["self", y, y2] ["self", y, y2] scope) (hs : scope.names.lookup ("self" : Str) = some NameKind.local) (hy : scope.names.lookup y = some NameKind.local) (hy1 : (y == ("__debug__" : Str)) = false) (hy2 : (y == ("__classdict__" : Str)) = false) (hz : scope.names.lookup y2 = some NameKind.local) (hz1 : (y2 == ("__debug__" : Str)) = false) (hz2 : (y2 == ("__classdict__" : Str)) = false) (hv : scope.names.lookup ("StoneError" : Str) = some NameKind.globalImplicit) (hm : mg "StoneError" = some (.ref CS))
    (r : ClX.CRead K CS mc) (c : ClX.CVal K CS mc "__init__" (.ref fs) (.ref fs)) (FS : FnOk prog w K mg base (L2.CX prog w) k fs fds ["self", "called"] (spStone K)) (hk : PySem.W.keepIn K (.ref fs) = true) (hb : Binds K fds ["self", "called"] [])
    (hc : ∀ env : PySem.Env, ∃ pl : Sem Bool, eval (.Call (.Attribute (.Name "StoneError" p1) "__init__" p2) [.Name "self" p3, .Constant (.str z) j p4] [] p5) env = (do
      let ov ← eval (.Name "StoneError" p1) env
      standAt p2.atName
      let (g, fst) ← holding [ov] (getMethod ov "__init__" pl)
      callWith p5 g fst (backTo p5 (starEach [.Name "self" p3, .Constant (.str z) j p4] env)) (backToKw p5 (keywordEach [] env)))) :
    FnOk prog w K mg base (L2.CX prog w) (k + 1) fa fd ["self", y, y2] (spHeir2 K z y y2) := by
  refine F.ok S (fun vs H Q E h => ?_) fun cdv A outer s0 H vs Q E hr h => ?_
  · obtain ⟨a, C, v, v2, rfl, _⟩ := h
    rfl
  · obtain ⟨a, C, v, v2, rfl, T, hf, hf2, hf3, ha, hq⟩ := h
    obtain ⟨pl, hc⟩ := hc (cxOf (L2.CX prog w) prog w K mg base ["self", y, y2] qual scope fa cdv A outer s0 H E).env
    have ho : PE (cxOf (L2.CX prog w) prog w K mg base ["self", y, y2] qual scope fa cdv A outer s0 H E) (.Name "StoneError" p1) (fun _ H Q => Q (.ref CS) H) := pe_glob (v := .ref CS) hv hm rfl
    refine ⟨_, pss_cons (ps_expr (pe_clsfn (W := fun _ _ _ _ => False) (pl := pl) ho r c FS hr hk hb L2.takes0 (pa_cons (pv 0 (hv := .inl hs)) (pa_cons pe_str pa_nil)) rfl rfl hc)) (pss_cons (ps_ost (pv 0 (hv := .inl hs)) (pv 1 (hv := .inl hy) (hd := hy1) (hcd := hy2))) (pss_one (ps_ost (pv 0 (hv := .inl hs)) (pv 2 (hv := .inl hz) (hd := hz1) (hcd := hz2))))), ?_⟩
    refine ⟨.ref a, rfl, a, C, .str z, rfl, T, hf, ha, fun dx h1 h2 => ?_⟩
    have e1 : upd (upd H dx (exd dx [("called", .str z)])) a (exo a C (some dx)) dx = some (exd dx [("called", .str z)]) := by
      rw [upd_ne h2]
      exact upd_same
    refine ⟨v, rfl, .ref a, rfl, a, C, rfl, T, hf2, .inr ⟨dx, _, upd_same, e1, by simp, ?_⟩⟩
    refine ⟨v2, rfl, .ref a, rfl, a, C, rfl, T, hf3, .inr ⟨dx, _, ?_, upd_same, by simp, hq dx h1 h2⟩⟩
    rw [upd_ne (Ne.symm h2)]
    exact upd_same
/-- what every __init__ keeps: the exception has its dict with all fields -/
def spInit (K : PySem.W.Frag) (z : Str) (fs : List Str) : Sp := fun vs H Q _ => ∃ a C xs, vs = .ref a :: xs ∧ xs.length = fs.length ∧ OexC K C ∧ PySem.W.findIn K (.ref C) "called" = some none ∧ (∀ f ∈ fs, PySem.W.findIn K (.ref C) f = some none) ∧ H a = some (exo a C none) ∧
  ∀ (dx : Addr) (H' : Hp) (l : List (Str × V)), H dx = none → dx ≠ a → H' a = some (exo a C (some dx)) → H' dx = some (exd dx l) → (∀ b, b ≠ a → b ≠ dx → H' b = H b) → (∀ (i : Nat) f v, (("called" : Str) :: fs)[i]? = some f → (V.str z :: xs)[i]? = some v → l.lookup f = some v) → Q .non H'
theorem lk_hit {f : Str} {v : V} {l : List (Str × V)} : ((f, v) :: l).lookup f = some v := by simp [List.lookup]
theorem lk_miss {f g : Str} {v : V} {l : List (Str × V)} (h : (f == g) = false) : ((g, v) :: l).lookup f = l.lookup f := by simp [List.lookup, h]
theorem init_0 {K : PySem.W.Frag} {z : Str} {vs : List V} {H : Hp} {Q : VK} {E : XK} (h : spInit K z [] vs H Q E) : spHeir0 K z vs H Q E := by
  obtain ⟨a, C, xs, rfl, hl, T, h1, h2, ha, hq⟩ := h
  cases xs with
  | cons _ _ => cases hl
  | nil =>
    refine ⟨a, C, rfl, T, h1, ha, fun dx n1 n2 => hq dx _ _ n1 n2 upd_same (by rw [upd_ne n2]; exact upd_same) (fun b b1 b2 => by rw [upd_ne b1, upd_ne b2]) fun i f v e1 e2 => ?_⟩
    match i, e1, e2 with
    | 0, e1, e2 => cases e1; cases e2; exact lk_hit
    | i + 1, e1, e2 => simp at e1
theorem init_1 {K : PySem.W.Frag} {z y : Str} {vs : List V} {H : Hp} {Q : VK} {E : XK} (hy : (("called" : Str) == y) = false) (h : spInit K z [y] vs H Q E) : spHeir1 K z y vs H Q E := by
  obtain ⟨a, C, xs, rfl, hl, T, h1, h2, ha, hq⟩ := h
  match xs, hl with
  | [v], _ =>
    refine ⟨a, C, v, rfl, T, h1, h2 _ (by simp), ha, fun dx n1 n2 => hq dx _ _ n1 n2 (by rw [upd_ne (Ne.symm n2)]; exact upd_same) upd_same (fun b b1 b2 => by rw [upd_ne b2, upd_ne b1, upd_ne b2]) fun i f v e1 e2 => ?_⟩
    match i, e1, e2 with
    | 0, e1, e2 => cases e1; cases e2; exact (lk_miss hy).trans lk_hit
    | 1, e1, e2 => cases e1; cases e2; exact lk_hit
    | i + 2, e1, e2 => simp at e1
theorem init_2 {K : PySem.W.Frag} {z y y2 : Str} {vs : List V} {H : Hp} {Q : VK} {E : XK} (hy : (("called" : Str) == y) = false) (hz : (("called" : Str) == y2) = false) (hyz : (y == y2) = false) (h : spInit K z [y, y2] vs H Q E) : spHeir2 K z y y2 vs H Q E := by
  obtain ⟨a, C, xs, rfl, hl, T, h1, h2, ha, hq⟩ := h
  match xs, hl with
  | [v, v2], _ =>
    refine ⟨a, C, v, v2, rfl, T, h1, h2 _ (by simp), h2 _ (by simp), ha, fun dx n1 n2 => hq dx _ _ n1 n2 (by show upd (upd (upd (upd H dx _) a _) dx _) dx _ a = _; rw [upd_ne (Ne.symm n2), upd_ne (Ne.symm n2)]; exact upd_same) upd_same (fun b b1 b2 => by show upd (upd (upd (upd H dx _) a _) dx _) dx _ b = _; rw [upd_ne b2, upd_ne b2, upd_ne b1, upd_ne b2]) fun i f v e1 e2 => ?_⟩
    match i, e1, e2 with
    | 0, e1, e2 => cases e1; cases e2; exact (lk_miss hz).trans ((lk_miss hy).trans lk_hit)
    | 1, e1, e2 => cases e1; cases e2; exact (lk_miss hyz).trans lk_hit
    | 2, e1, e2 => cases e1; cases e2; exact lk_hit
    | i + 3, e1, e2 => simp at e1
/-! ### raise -/
/-- what is known of an exception's class where it is raised -/
structure XOk (Γ : Gm) (prog : Program) (w : World) (mg : Str → Option Value) (base : Heap) (c : Nat) (x : XCls) (C : Addr) : Prop where
  cl : Γ.xcl c = some (C, x.all)
  ox : OexC Γ.K C
  xf : XfC Γ.K C
  no : ∀ f ∈ x.all, PySem.W.findIn Γ.K (.ref C) f = some none
  mgC : mg (tS x.name) = some (.ref C)
  few : x.fs.length ≤ 100
  init : ∃ fI fd ps, PySem.W.findIn Γ.K (.ref C) "__init__" = some (some (.ref fI)) ∧ PySem.W.typeIn Γ.K (.ref fI) = some (.type "function") ∧ FnOk prog w Γ.K mg base (L2.CX prog w) 2 fI fd ps (spInit Γ.K (tS x.name) x.fs) ∧ Binds Γ.K fd ps []
section
variable {Γ : Gm} {X : Cx} {W : WX} {c : Nat} {x : XCls} {C : Addr} {e : Expr} {es : List Expr} {gs : G.Env → Stt → R (List D)} {p pos pos2 : Pos}
theorem raise_read {φ : Fx} {H : Hp} {σ : L2.St} {ρ : G.Env} {s : Stt} {vs : List V} {xs : List D} {D : Ends} (O : XOk Γ X.prog X.w X.mg X.base c x C) (rel : Rel Γ φ H s) (er : ER Γ φ H σ ρ) (r : Reps Γ φ H vs xs) (hl : xs.length = x.fs.length) (go : GoS Γ W φ H (.exc c (.str x.name :: xs) ρ s) D) (a : Addr) (na : H a = none) :
    spInit Γ.K (tS x.name) x.fs (.ref a :: vs) (upd H a (exo a C none)) (fun v H2 => v = .non ∧ ∃ (d : Addr) (fs : List (Str × V)), H2 a = some (exo a C (some d)) ∧ H2 d = some (exd d fs) ∧ H d = none ∧ W (.ref C) (some d) σ (upd (del H2 a) d (.xd fs))) (fun _ _ _ => False) := by
  refine ⟨a, C, vs, rfl, by rw [r.len]; exact hl, O.ox, O.no _ (List.mem_cons_self ..), fun f hf => O.no f (List.mem_cons_of_mem _ hf), upd_same, fun dx H' l h1 h2 h3 h4 h5 h6 => ⟨rfl, dx, l, h3, h4, ?_, ?_⟩⟩
  · rw [upd_ne h2] at h1
    exact h1
  · rw [upd_ne h2] at h1
    have e : upd (del H' a) dx (.xd l) = upd H dx (.xd l) := by
      funext b
      by_cases b1 : b = dx
      · rw [b1, upd_same, upd_same]
      · rw [upd_ne b1, upd_ne b1]
        by_cases b2 : b = a
        · rw [b2, del_same, na]
        · rw [del_ne b2, h5 b b2 b1, upd_ne b2]
    rw [e]
    have A : After φ H φ (upd H dx (.xd l)) := .fresh h1
    refine go φ _ σ (.ref C) (some dx) A (rel.fresh h1) (er.mono A) ⟨C, x.all, dx, l, O.cl, rfl, rfl, upd_same, by simp [XCls.all, hl], fun i f e e1 e2 => ?_⟩
    have R : Reps Γ φ H (V.str (tS x.name) :: vs) (.str x.name :: xs) := .cons (.str _) r
    obtain ⟨v, q1, q2⟩ := R.get e2
    exact ⟨v, h6 i f v e1 q1, q2.mono A⟩
theorem ss_raise (O : XOk Γ X.prog X.w X.mg X.base c x C) (eK : X.K = Γ.K) (calm : X.calm = true) (hr : Room 3 X.A) (tk : Takes X W) (hg : Gl X (tS x.name)) (hdb : (tS x.name == ("__debug__" : Str)) = false) (hn : (e :: es).all ns = true) (ha : PA X (e :: es) (dA Γ W gs)) :
    PS X (.Raise (some (.Call (.Name (tS x.name) p) (e :: es) [] pos)) none pos2) (dS Γ W fun ρ s => (gs ρ s).st ρ fun xs s => if xs.length = x.fs.length then .exc c (.str x.name :: xs) ρ s else .stuck) := by
  obtain ⟨fI, fd, ps, i1, i2, F, b⟩ := O.init
  have no0 : Passes (L2.CX X.prog X.w) X (fun _ _ _ => False) := passes_call L2.takes0 fun _ _ _ _ h => h
  rw [← eK] at i1 i2 b
  have F' : FnOk X.prog X.w X.K X.mg X.base (L2.CX X.prog X.w) 2 fI fd ps (spInit Γ.K (tS x.name) x.fs) := by rw [eK]; exact F
  have T : OexC X.K C := by rw [eK]; exact O.ox
  simp only [List.all_cons, Bool.and_eq_true] at hn
  refine (ps_raise calm tk (pmk_oex (p := p) (pos := pos) T i1 i2 F' hr b .nil no0 hg O.mgC ha hdb (star_ns hn.1) (back_ns hn.2))).mono fun D σ H ⟨φ, ρ, s, er, rel, go⟩ => ?_
  refine ⟨φ, ρ, s, er, rel, (go.st er).imp fun xs s1 φ1 H1 a1 r1 go1 vs hvs => ?_⟩
  split at go1
  · rename_i hl
    refine ⟨by have := O.few; rw [hvs.len, hl]; omega, fun a na => ?_⟩
    rw [List.append_nil]
    exact raise_read O r1 (er.mono a1) hvs hl go1 a na
  · exact go1.elim
theorem ss_raise0 (O : XOk Γ X.prog X.w X.mg X.base c x C) (eK : X.K = Γ.K) (calm : X.calm = true) (hr : Room 3 X.A) (tk : Takes X W) (hg : Gl X (tS x.name)) (hdb : (tS x.name == ("__debug__" : Str)) = false) :
    PS X (.Raise (some (.Call (.Name (tS x.name) p) [] [] pos)) none pos2) (dS Γ W fun ρ s => (R.ok ([] : List G.D) s).st ρ fun xs s => if xs.length = x.fs.length then .exc c (.str x.name :: xs) ρ s else .stuck) := by
  obtain ⟨fI, fd, ps, i1, i2, F, b⟩ := O.init
  have no0 : Passes (L2.CX X.prog X.w) X (fun _ _ _ => False) := passes_call L2.takes0 fun _ _ _ _ h => h
  rw [← eK] at i1 i2 b
  have F' : FnOk X.prog X.w X.K X.mg X.base (L2.CX X.prog X.w) 2 fI fd ps (spInit Γ.K (tS x.name) x.fs) := by rw [eK]; exact F
  have T : OexC X.K C := by rw [eK]; exact O.ox
  refine (ps_raise calm tk (pmk_oex0 (p := p) (pos := pos) T i1 i2 F' hr b no0 hg O.mgC hdb)).mono fun D σ H ⟨φ, ρ, s, er, rel, go⟩ a na => ?_
  have go : GoS Γ W φ H (if ([] : List G.D).length = x.fs.length then .exc c (.str x.name :: []) ρ s else .stuck) D := go
  split at go
  · rename_i hl
    exact raise_read O rel er .nil hl go a na
  · exact go.elim
end
end G

set_option Elab.async false
set_option linter.all false
set_option maxRecDepth 100000
set_option maxHeartbeats 0
/-! try with several clauses that name what they catch; a def that calls what it got. -/
namespace G
open PySem L2 PySem.Spec PyProof.Rows

/-- the test of a clause names the classes cs -/
def ExTest (X : Cx) (t : Expr) (cs : List Value) : Prop := ∀ (a : Addr) (oe : Obj) (pins : List (Addr × Obj)) (σ : L2.St) (H : Hp) (s : Shared) (cls : Value) (b : Bool) (Q : Bool → Shared → Prop) (E : Value → Shared → Prop),
  L2.Inv (X.suite a ((a, oe) :: (X.pn ++ pins))) [] σ H s → (∀ h', (∀ q o, s.heap.get? q = some o → h'.get? q = some o) → PySem.W.Looks (model X.prog X.w) h' (typeOf (.ref a)) cls) → PySem.W.exmAny X.K cls cs = some b →
  (∀ h', (∀ q o, s.heap.get? q = some o → h'.get? q = some o) → Q b { s with heap := h' }) →
  wpAny (model X.prog X.w) (X.A.mark (some (.ref a))) (eval t X.env) (fun c s₁ => wpAny (model X.prog X.w) (X.A.mark (some (.ref a))) (excMatches (.ref a) c) Q E s₁) E s
section
variable {X : Cx}
theorem names_ld {a : Addr} {oe : Obj} {pins : List (Addr × Obj)} {σ : L2.St} {H : Hp} {s : Shared} {x : Str} {c : Value} {np : Pos} {Q : Value → Shared → Prop} {E : Value → Shared → Prop} (S : L2.Inv (X.suite a ((a, oe) :: (X.pn ++ pins))) [] σ H s) (hc : Names X x c) (q : Q c s) :
    wpAny (model X.prog X.w) (X.A.mark (some (.ref a))) (eval (.Name x np) X.env) Q E s := by
  obtain ⟨h1, h2, h3⟩ := hc
  rcases h3 with h3 | ⟨h3, h4, h5⟩
  · exact ld_glob (X := X.suite a ((a, oe) :: (X.pn ++ pins))) S h1 h3 q h2
  · exact ld_blt (X := X.suite a ((a, oe) :: (X.pn ++ pins))) S h1 h3 h4 q h5 h2
theorem exm_any1 {K : PySem.W.Frag} {cls c : Value} {b : Bool} (h : PySem.W.exmAny K cls [c] = some b) : PySem.W.exmOne K cls c = some b := by
  obtain ⟨b1, d1, h1, h2, h3⟩ := PySem.W.exmAny_cons h
  have e : d1 = false := by
    have : some false = some d1 := h2
    exact (Option.some.inj this).symm
  rw [h1, h3, e, Bool.or_false]
theorem ext_one {x : Str} {c : Value} {np : Pos} (hc : Names X x c) : ExTest X (.Name x np) [c] := fun a oe pins σ H s cls b Q E S LT hb hq =>
  names_ld S hc ((PySem.W.exm_one (M := model X.prog X.w) S.kIn (LT _ fun _ _ z => z) (exm_any1 hb)).here (hq s.heap fun _ _ z => z))
theorem ext_two {x1 x2 : Str} {c1 c2 : Value} {p1 p2 tp : Pos} {kk} (n1 : Names X x1 c1) (n2 : Names X x2 c2) : ExTest X (.Tuple [.Name x1 p1, .Name x2 p2] kk tp) [c1, c2] := fun a oe pins σ H s cls b Q E S LT hb hq => by
  refine wpAny_Tuple (wpAny_items_cons (names_ld S n1 (wpAny_items_cons (names_ld S n2 (wpAny_items_nil ⟨by size_fits, ?_⟩)))))
  have stay : ∀ q o, s.heap.get? q = some o → (s.heap.push { cls := .type "tuple", data := .seq [c1, c2].toArray }).get? q = some o := fun _ _ z => Heap.get?_push_of_some _ z
  exact (PySem.W.exm_tup2 (S.kIn.keeps stay) (LT _ stay) (Heap.get?_push_size s.heap rfl) hb).here (hq _ stay)
theorem ext_three {x1 x2 x3 : Str} {c1 c2 c3 : Value} {p1 p2 p3 tp : Pos} {kk} (n1 : Names X x1 c1) (n2 : Names X x2 c2) (n3 : Names X x3 c3) : ExTest X (.Tuple [.Name x1 p1, .Name x2 p2, .Name x3 p3] kk tp) [c1, c2, c3] := fun a oe pins σ H s cls b Q E S LT hb hq => by
  refine wpAny_Tuple (wpAny_items_cons (names_ld S n1 (wpAny_items_cons (names_ld S n2 (wpAny_items_cons (names_ld S n3 (wpAny_items_nil ⟨by size_fits, ?_⟩)))))))
  have stay : ∀ q o, s.heap.get? q = some o → (s.heap.push { cls := .type "tuple", data := .seq [c1, c2, c3].toArray }).get? q = some o := fun _ _ z => Heap.get?_push_of_some _ z
  exact (PySem.W.exm_tup3 (S.kIn.keeps stay) (LT _ stay) (Heap.get?_push_size s.heap rfl) hb).here (hq _ stay)
theorem ext_four {x1 x2 x3 x4 : Str} {c1 c2 c3 c4 : Value} {p1 p2 p3 p4 tp : Pos} {kk} (n1 : Names X x1 c1) (n2 : Names X x2 c2) (n3 : Names X x3 c3) (n4 : Names X x4 c4) : ExTest X (.Tuple [.Name x1 p1, .Name x2 p2, .Name x3 p3, .Name x4 p4] kk tp) [c1, c2, c3, c4] := fun a oe pins σ H s cls b Q E S LT hb hq => by
  refine wpAny_Tuple (wpAny_items_cons (names_ld S n1 (wpAny_items_cons (names_ld S n2 (wpAny_items_cons (names_ld S n3 (wpAny_items_cons (names_ld S n4 (wpAny_items_nil ⟨by size_fits, ?_⟩)))))))))
  have stay : ∀ q o, s.heap.get? q = some o → (s.heap.push { cls := .type "tuple", data := .seq [c1, c2, c3, c4].toArray }).get? q = some o := fun _ _ z => Heap.get?_push_of_some _ z
  exact (PySem.W.exm_tup4 (S.kIn.keeps stay) (LT _ stay) (Heap.get?_push_size s.heap rfl) hb).here (hq _ stay)
end
/-- behind a suite its name is gone -/
def goneE (D : Ends) (i : Nat) : Ends := { nx := fun σ H => D.nx (σ.set i none) H, rt := D.rt, bk := fun σ H => D.bk (σ.set i none) H, ct := fun σ H => D.ct (σ.set i none) H }
abbrev ClS : Type := List Value × (Addr → Value → Option Addr → TS)
/-- what the clauses wish -/
def wAsL (K : PySem.W.Frag) (i : Nat) (Wout : WX) (D : Ends) : List ClS → WX
  | [] => Wout
  | (cs, ts) :: r => fun cls d σ H => ∃ b, PySem.W.exmAny K cls cs = some b ∧ (b = true → ∀ a, H a = none → ts a cls d (goneE D i) (σ.set i (some (.ref a))) H) ∧ (b = false → wAsL K i Wout D r cls d σ H)
inductive HdsA (X : Cx) (n : Str) : List ExceptHandler → List ClS → Prop
  | nil : HdsA X n [] []
  | cons {t : Expr} {cs : List Value} {ts : Addr → Value → Option Addr → TS} {st : Stmt} {sts : List Stmt} {ps : Pos} {hds : List ExceptHandler} {l : List ClS} (ht : ExTest X t cs)
      (hsu : ∀ (a : Addr) (oe : Obj) (cls : Value) (d : Option Addr) (pn : List (Addr × Obj)), Zc cls d oe → (∃ vs, oe.data = .fields vs) → PSs (X.suite a ((a, oe) :: pn)) (st :: sts) (ts a cls d)) (r : HdsA X n hds l) :
      HdsA X n (.ExceptHandler (some t) (some n) (st :: sts) ps :: hds) ((cs, ts) :: l)
theorem flyZ_keeps {B : Heap} {l : List PySem.Env} {e : Addr} {Z : Obj → Prop} {h h' : Heap} (R : HandSPX.FlyingZ B l e Z h) (k : ∀ b o, h.get? b = some o → h'.get? b = some o) : HandSPX.FlyingZ B l e Z h' := by
  obtain ⟨f1, f2, f3, oe, vs, T, oT, us, h1, h2, h3, h4, h5, h6, h7, h8, h9⟩ := R
  exact ⟨fun b o q => k b o (f1 b o q), f2, f3.of_keeps fun b o q _ => ⟨o, k b o q, rfl⟩, oe, vs, T, oT, us, k _ _ h1, h2, h3, h4, h5, h6, k _ _ h7, h8, h9⟩
section
variable {X : Cx} {n : Str} {i : Nat} {body : List Stmt} {h₀ : ExceptHandler} {hds : List ExceptHandler} {l : List ClS} {pos : Pos} {tb : WX → TS} {Wout : WX}
theorem ps_try_asL (stk : X.stack = X.env :: X.outer) (fr : X.env.frame = some X.env.locals) (nd : X.N.Nodup) (at_ : X.N[i]? = some n) (loc : X.env.kindOf n = some .local) (tk : Takes X Wout)
    (hb : ∀ (W : WX) (pn : List (Addr × Obj)) (xe : Value → Shared → Prop), Takes (X.tr pn xe) W → PassesOwn (model X.prog X.w) X.A X.env xe → PSs (X.tr pn xe) body (tb W))
    (hh : HdsA X n (h₀ :: hds) l) : PS X (.Try body (h₀ :: hds) [] [] pos) (fun D σ H => tb (wAsL X.K i Wout D l) D σ H) := by
  refine ⟨fun pins s0 σ0 H0 D I0 h0 => ?_⟩
  have ok := I0.ok
  have frs_ : X.A.frames = some (X.env :: X.outer) := by rw [ok.frames, stk]
  have hlo : Loc X.env.scope n := .inl loc
  refine wpAny_Try_except ?_
  refine wpAny_mono ((hb (wAsL X.K i Wout D l) (X.pn ++ pins) (fun e s1 => wpAny (model X.prog X.w) X.A (noteFrame e X.env) (fun _ s2 => wpAny (model X.prog X.w) X.A (setFlight e none) (fun _ s3 =>
    wpAny (model X.prog X.w) X.A (handleBy e X.env (h₀ :: hds)) (SP X pins D) X.xe s3) X.xe s2) X.xe s1) (fun u s1 xx => ?_) PassesOwn.looking).run [] s0 σ0 H0 D (I0.toTry _) h0) (fun f s1 sp => ?_) (fun e s1 q => q)
  · obtain ⟨a, B, sI, pins1, σ1, H1, cls, d, rfl, J1, nb, up, sky, na, os, ag, w⟩ := xx
    have J : L2.Inv X pins σ1 H1 sI := J1.ofTry ok
    have sky1 : Sky B (X.env :: X.outer) a (Zc cls d) X.env.locals s1.heap := by rw [← stk]; exact sky
    show wpAny (model X.prog X.w) X.A (noteFrame (.ref a) X.env) _ _ _
    refine Sky.land Zc.steady frs_ fr sky1 fun h3 fl3 up3 => ?_
    have no_frame : ∀ {h : Heap} {o : Obj} {vs : Array Value}, h.FunFrames B (X.env :: X.outer) → h.get? a = some o → o.data = .fields vs → a ∉ frs (X.env :: X.outer) := fun {h o vs} ff e dd m => by
      obtain ⟨_, o1, e1, z1⟩ := ff.mem m
      rw [e] at e1
      cases e1
      exact z1 _ dd
    obtain ⟨oe3, vs3, he3, hz3, hd3⟩ := fl3.there
    have nfr := no_frame fl3.2.2.1 he3 hd3
    have neL : a ≠ X.env.locals := fun z => nfr (List.mem_filterMap.mpr ⟨X.env, List.mem_cons_self, by rw [fr, z]⟩)
    have neF : a ∉ X.fs := fun m => by
      obtain ⟨e1, m1, q1⟩ := List.mem_filterMap.mp m
      exact nfr (List.mem_filterMap.mpr ⟨e1, List.mem_cons_of_mem _ m1, q1⟩)
    have go : ∀ {hs1 : List ExceptHandler} {l1 : List ClS}, HdsA X n hs1 l1 → ∀ h3 : Heap, HandSPX.FlyingZ B (X.env :: X.outer) a (Zc cls d) h3 → s1.heap.UpToSlots h3 → wAsL X.K i Wout D l1 cls d σ1 H1 →
        wpAny (model X.prog X.w) X.A (handleBy (.ref a) X.env hs1) (SP X pins D) X.xe { s1 with heap := h3 } := by
      intro hs1 l1 hk
      induction hk with
      | nil =>
        intro h3 fl3 up3 w
        refine wpAny_handleBy_nil ?_
        obtain ⟨_, _, _, oe, vs, T, oT, us, q1, q2, q3, q4, q5⟩ := id fl3
        unfold PySem.passOn
        refine wpAny_bind (wpAny_field q1 q3 q4 ?_)
        rw [if_neg (show ¬ ((Value.ref T == Value.none) = true) from by simp)]
        have fin : wpAny (model X.prog X.w) X.A (setFlight (.ref a) X.env.frame) (fun _ s4 => wpAny (model X.prog X.w) X.A (throw (.ref a) : Sem Flow) (SP X pins D) X.xe s4) X.xe { s1 with heap := h3 } := by
          rw [fr]
          exact HandSPX.setFlight_upZ fl3 fun h4 hh4 up4 => wpAny_throw (tk _ _ ⟨a, B, sI, pins, σ1, H1, cls, d, rfl, J, nb, (up.trans up3).trans up4, .inr (.inr (by rw [stk]; exact hh4)), na, os, ag, w⟩)
        first
          | exact wpAny_bind (wpAny_pure (wpAny_bind fin))
          | exact wpAny_bind fin
      | @cons t cs ts st sts ps hds2 l2 ht hsu r ih =>
        intro h3 fl3 up3 w
        obtain ⟨b, hb1, yes, no⟩ := w
        have J3 : L2.Inv X pins σ1 H1 { s1 with heap := h3 } := J.landed nb fl3.1 (up.trans up3) os ag
        obtain ⟨oe3, vs3, he3, hz3, hd3⟩ := fl3.there
        have S3 := J3.suite he3 hd3 na neL neF
        refine wpAny_handleBy_cons (codeAny_handlers_test (ht a oe3 pins σ1 H1 _ cls b _ _ S3 (fun h' k => fun A Q E s k' q => wpAny_typeOf_ref (k' _ _ (k _ _ he3)) (by rw [hz3.1]; exact q)) hb1 fun h' k => ?_)) (by intro q; cases q)
        have fl' := flyZ_keeps fl3 k
        have up' : s1.heap.UpToSlots h' := up3.trans (Heap.UpToSlots.of_keeps k)
        cases b with
        | false => exact ih h' fl' up' (no rfl)
        | true =>
          refine codeAny_handlers_suite_as ?_
          refine HandSPX.lands_againZ fl' fun h4 fl4 up4 => ?_
          have J4 : L2.Inv X pins σ1 H1 { s1 with heap := h4 } := J.landed nb fl4.1 ((up.trans up').trans up4) os ag
          obtain ⟨oe4, vs4, he4, hz4, hd4⟩ := fl4.there
          have S4 := J4.suite he4 hd4 na neL neF
          refine store_ok (X := X.suite a ((a, oe4) :: (X.pn ++ pins))) (v := .ref a) S4 nd at_ hlo rfl (fun s5 S5 => ?_) (.inr loc)
          refine wpAny_mono ((hsu a oe4 cls d (X.pn ++ pins) hz4 ⟨_, hd4⟩).run [] s5 _ H1 _ S5 (yes rfl a na)) (fun f s6 sp => ?_) (fun _ _ z => False.elim z)
          have end_ : ∀ {σ6 : L2.St} {H6 : Hp} {Q : Shared → Prop}, L2.Inv (X.suite a ((a, oe4) :: (X.pn ++ pins))) [] σ6 H6 s6 → (∀ s7, L2.Inv X pins (σ6.set i none) H6 s7 → Q s7) →
              wpAny (model X.prog X.w) X.A (do bindName X.env n .none; unbindBehindTheSuite X.env n ps) (fun _ s7 => Q s7) X.xe s6 := fun {σ6 H6 Q} S6 hq => gone_ok (S6.unsuite ok) nd at_ loc hq
          cases f with
          | next =>
            obtain ⟨σ6, H6, S6, q6⟩ := sp
            exact end_ S6 fun s7 J7 => ⟨_, _, J7, q6⟩
          | brk =>
            obtain ⟨σ6, H6, S6, q6⟩ := sp
            exact end_ S6 fun s7 J7 => ⟨_, _, J7, q6⟩
          | cont =>
            obtain ⟨σ6, H6, S6, q6⟩ := sp
            exact end_ S6 fun s7 J7 => ⟨_, _, J7, q6⟩
          | ret u =>
            obtain ⟨v6, σ6, H6, S6, r6, q6⟩ := sp
            exact end_ S6 fun s7 J7 => ⟨_, _, _, J7, r6, q6⟩
    exact go hh h3 fl3 up3 w
  · cases f with
    | next =>
      obtain ⟨σ1, H1, J1, q⟩ := sp
      exact wpAny_execs_nil ⟨σ1, H1, J1.ofTry ok, q⟩
    | brk =>
      obtain ⟨σ1, H1, J1, q⟩ := sp
      exact ⟨σ1, H1, J1.ofTry ok, q⟩
    | cont =>
      obtain ⟨σ1, H1, J1, q⟩ := sp
      exact ⟨σ1, H1, J1.ofTry ok, q⟩
    | ret u =>
      obtain ⟨v1, σ1, H1, J1, r1, q⟩ := sp
      exact ⟨v1, σ1, H1, J1.ofTry ok, r1, q⟩
end
/-! ### what a clause tells: (e.f, ..) -/
def ckFs (e : Str) : List Str → List Expr → Bool
  | [], [] => true
  | f :: fs, .Attribute (.Name x _) g _ :: es => decide (x = e) && decide (g = f) && ckFs e fs es
  | _, _ => false
/-- the fields fs of the exception at slot 1 -/
def tHdA (K : PySem.W.Frag) (fs : List Str) (a : Addr) (cls : Value) (d : Option Addr) : TA := fun σ H Q => σ[1]? = some (some (.ref a)) ∧ ∃ C dd l vs, cls = .ref C ∧ d = some dd ∧ XfC K C ∧ (∀ f ∈ fs, PySem.W.findIn K (.ref C) f = some none) ∧ H dd = some (.xd l) ∧
  vs.length = fs.length ∧ (∀ (i : Nat) f v, fs[i]? = some f → vs[i]? = some v → l.lookup f = some v) ∧ Q vs H
section
variable {X : Cx} {a : Addr} {oe : Obj} {cls : Value} {d : Option Addr} {pn : List (Addr × Obj)}
theorem pa_flds {e : Str} (hN : X.N[1]? = some e) (he : X.env.scope.names.lookup e = some .local) (h1 : (e == ("__debug__" : Str)) = false) (h2 : (e == ("__classdict__" : Str)) = false) (hz : Zc cls d oe) (hf : ∃ vs, oe.data = .fields vs) : ∀ {fs : List Str} {es : List Expr}, ckFs e fs es = true →
    PA (X.suite a ((a, oe) :: pn)) es (tHdA X.K fs a cls d)
  | [], [], _ => (pa_nil (X := X.suite a ((a, oe) :: pn))).mono fun σ H Q ⟨_, C, dd, l, vs, _, _, _, _, _, hl, _, q⟩ => by
    cases vs with
    | nil => exact q
    | cons _ _ => cases hl
  | f :: fs, e1 :: es, h => by
    unfold ckFs at h
    split at h <;> first | contradiction | skip
    · rename_i x p g q es' heq1 heq2
      cases heq1
      cases heq2
      simp only [Bool.and_eq_true, decide_eq_true_eq] at h
      obtain ⟨⟨rfl, rfl⟩, h⟩ := h
      have ih := pa_flds hN he h1 h2 hz hf h
      by_cases hc : ∃ C, cls = .ref C ∧ XfC X.K C ∧ PySem.W.findIn X.K (.ref C) g = some none
      · obtain ⟨C, rfl, T, hno⟩ := hc
        have hv : PE (X.suite a ((a, oe) :: pn)) (.Name x p) (tVar 1) := pe_var hN (.inl he) h1 h2
        have hx := pe_xf (pos := q) T hno hz hf hv
        refine (pa_cons hx ih (by rfl)).mono fun σ H Q ⟨hs, C', dd, l, vs, hC, hd, hT, hn, hl, hlen, hvs, hq⟩ => ?_
        cases hC
        cases vs with
        | nil => cases hlen
        | cons v vs =>
          refine ⟨.ref a, hs, rfl, rfl, dd, l, v, hd, hl, hvs 0 _ _ rfl rfl, ?_⟩
          exact ⟨hs, C, dd, l, vs, rfl, hd, hT, fun f hf => hn f (List.mem_cons_of_mem _ hf), hl, by simpa using hlen, fun i f v h1 h2 => hvs (i + 1) f v (by simpa using h1) (by simpa using h2), hq⟩
      · exact ⟨fun pos pins s σ H Q I ⟨hs, C', dd, l, vs, hC, hd, hT, hn, _⟩ => absurd ⟨C', hC, hT, hn _ List.mem_cons_self⟩ hc⟩
  | [], _ :: _, h => by simp [ckFs] at h
  | _ :: _, [], h => by simp [ckFs] at h
/-- the clause's suite: return (e.f, ..) -/
def tHd (K : PySem.W.Frag) (fs : List Str) (a : Addr) (cls : Value) (d : Option Addr) : TS := fun D σ H => (∃ σ0 : L2.St, σ = σ0.set 1 (some (.ref a))) ∧ ∃ C dd l vs, cls = .ref C ∧ d = some dd ∧ XfC K C ∧ (∀ f ∈ fs, PySem.W.findIn K (.ref C) f = some none) ∧ H dd = some (.xd l) ∧
  vs.length = fs.length ∧ vs.length ≤ sizeLine ∧ (∀ (i : Nat) f v, fs[i]? = some f → vs[i]? = some v → l.lookup f = some v) ∧ ∀ p, H p = none → D.rt (.ref p) (upd H p (.tup vs))
theorem ps_hd {e : Str} {fs : List Str} {es : List Expr} {kk} {q1 q2 : Pos} (hN : X.N[1]? = some e) (he : X.env.scope.names.lookup e = some .local) (h1 : (e == ("__debug__" : Str)) = false) (h2 : (e == ("__classdict__" : Str)) = false) (hz : Zc cls d oe) (hf : ∃ vs, oe.data = .fields vs) (h : ckFs e fs es = true) :
    PSs (X.suite a ((a, oe) :: pn)) [.Return (some (.Tuple es kk q1)) q2] (tHd X.K fs a cls d) := by
  have hs := pss_one (ps_ret (pos := q2) (pe_tup (x1 := kk) (pos := q1) (pa_flds (a := a) (pn := pn) hN he h1 h2 hz hf h)))
  refine ⟨fun pins s σ H D I ⟨⟨σ0, hσ⟩, C, dd, l, vs, e1, e2, e3, e4, e5, e6, e6', e7, e8⟩ => hs.run pins s σ H D I ⟨?_, C, dd, l, vs, e1, e2, e3, e4, e5, e6, e7, e6', e8⟩⟩
  have hl := I.len
  have h3 : 1 < X.N.length := (List.getElem?_eq_some_iff.mp hN).1
  subst hσ
  refine List.getElem?_set_self ?_
  have h4 : (σ0.set 1 (some (V.ref a))).length = X.N.length := hl
  rw [List.length_set] at h4
  omega
end
end G

set_option Elab.async false
set_option linter.all false
set_option maxRecDepth 100000
/-! The checker: that a written expression is one of my terms; the soundness of expressions. -/
namespace G
open PySem L2

/-- the built-ins that may be called -/
def bnames : List Str := ["len", "abs", "list", "tuple", "int", "str", "all", "any", "sum", "min", "max", "isinstance", "range", "enumerate", "bool", "sorted", "zip", "ValueError", "LookupError"]
def visB (sc : Scope) (x : Str) : Bool := match sc.names.lookup x with
  | some .local => true
  | some .cell => true
  | some .free => true
  | _ => false
def glB (sc : Scope) (x : Str) : Bool := match sc.names.lookup x with
  | some .globalImplicit => true
  | _ => false
def locB (sc : Scope) (x : Str) : Bool := match sc.names.lookup x with
  | some .local => true
  | _ => false
def nmB (x : Str) : Bool := !(x == ("__debug__" : Str)) && !(x == ("__classdict__" : Str))
def tyB (sc : Scope) (ts : List String) : Bool := ts.all fun t => isTy t && glB sc (Str.ofString t)
/-- the names of a target, local ones -/
def tgB (N : List Str) (sc : Scope) : List Nat → List Expr → Bool
  | [], [] => true
  | i :: is, .Name x _ :: es => decide (N[i]? = some x) && locB sc x && tgB N sc is es
  | _, _ => false
/-- the comprehension's own names by their places -/
def ownL (N : List Str) (own : List Nat) : List (Str × Nat) := own.map fun i => (N.getD i Str.empty, i)
/-- no parameters -/
def lamA : Arguments → Bool
  | ⟨[], [], none, [], [], none, []⟩ => true
  | _ => false
def celB (sc : Scope) (x : Str) : Bool := match sc.names.lookup x with
  | some .cell => true
  | _ => false
/-- what is walked -/
def itB : Expr → Bool
  | .Set .. => false
  | _ => true
section
variable (P : Prog) (N : List Str)
mutual
def ckE : Bool → Scope → E → Expr → Bool
  | lm, sc, .var i, .Name x _ => decide (N[i]? = some x) && visB sc x && nmB x
  | _, _, .int i, .Constant (.int j) _ _ => decide (i = j)
  | _, _, .bl b, .Constant (.bool c) _ _ => b == c
  | _, _, .non, .Constant .none _ _ => true
  | _, _, .str t, .Constant (.str x) _ _ => decide (x = tS t)
  | lm, sc, .glob g, .Name x _ => (match P.consts[g]? with | some q => decide (q.1 = x) | none => false) && glB sc x && nmB x
  | lm, sc, .bin o a b, .BinOp a' op b' _ => decide (op = o.op) && ckE lm sc a a' && ckE lm sc b b'
  | lm, sc, .neg a, .UnaryOp .USub a' _ => ckE lm sc a a'
  | lm, sc, .not a, .UnaryOp .Not a' _ => ckE lm sc a a'
  | lm, sc, .cmp o a b, .Compare a' [op] [b'] _ => decide (op = o.op) && !behindInMarks op b' && ckE lm sc a a' && ckE lm sc b b'
  | lm, sc, .chain o o' a b d, .Compare a' [op, op'] [b', d'] _ => decide (op = o.op) && decide (op' = o'.op) && !behindInMarks op' d' && ckE lm sc a a' && ckE lm sc b b' && ckE lm sc d d'
  | lm, sc, .and as, .BoolOp .And es _ => ckEs lm sc as es
  | lm, sc, .or as, .BoolOp .Or es _ => ckEs lm sc as es
  | lm, sc, .ite c a b, .IfExp c' a' b' _ => ckE lm sc c c' && ckE lm sc a a' && ckE lm sc b b'
  | lm, sc, .tup as, .Tuple es _ _ => ckEs lm sc as es
  | lm, sc, .lst _ as, .List es _ => ckEs lm sc as es
  | lm, sc, .ix a i, .Subscript a' i' _ => nsl i' && ckE lm sc a a' && ckE lm sc i i'
  | lm, sc, .sl a lo hi, .Subscript a' (.Slice lo' hi' none _) _ => ckE lm sc a a' && ckO lm sc lo lo' && ckO lm sc hi hi'
  | lm, sc, .call f as, .Call (.Name x _) es [] _ => (match P.defs[f]? with | some df => df.pos && decide (df.name = x) | none => false) && glB sc x && nmB x && ckEs lm sc as es
  | lm, sc, .callk j as ks, .Call (.Name x _) es kws _ => (match P.shapes[j]? with | some sh => kwNames kws sh.ks && (match P.defs[sh.f]? with | some df => decide (df.name = x) | none => false) | none => false) && glB sc x && nmB x && ckEs lm sc as es && ckKs lm sc ks kws
  | lm, sc, .bi b a, .Call (.Name x _) [e] [] _ => decide (x = b.nm) && glB sc x && ns e && ckE lm sc a e
  | lm, sc, .isi a false [t], .Call (.Name x _) [e, .Name y _] [] _ => decide (x = "isinstance") && glB sc x && ns e && decide (y = Str.ofString t) && tyB sc [t] && ckE lm sc a e
  | lm, sc, .isi a true ts, .Call (.Name x _) [e, .Tuple tes _ _] [] _ => decide (x = "isinstance") && glB sc x && ns e && tyNames ts tes && decide (ts.length ≤ 100) && tyB sc ts && ckE lm sc a e
  | lm, sc, .met .append a as, .Call (.Attribute o m apos) [e] [] cpos => decide (m = "append") && nc o && (apos.endLine == cpos.line) && ns e && ckE lm sc a o && ckEs lm sc as [e]
  | lm, sc, .met .popAt a as, .Call (.Attribute o m apos) [e] [] cpos => decide (m = "pop") && nc o && (apos.endLine == cpos.line) && ns e && ckE lm sc a o && ckEs lm sc as [e]
  | lm, sc, .met .pop a [], .Call (.Attribute o m apos) [] [] cpos => decide (m = "pop") && nc o && (apos.endLine == cpos.line) && ckE lm sc a o
  | lm, sc, .met .rfind a as, .Call (.Attribute o m apos) [e] [] cpos => decide (m = "rfind") && nc o && (apos.endLine == cpos.line) && ns e && ckE lm sc a o && ckEs lm sc as [e]
  | lm, sc, .met .index a as, .Call (.Attribute o m apos) [e] [] cpos => decide (m = "index") && nc o && (apos.endLine == cpos.line) && ns e && ckE lm sc a o && ckEs lm sc as [e]
  | lm, sc, .met .lindex a as, .Call (.Attribute o m apos) [e] [] cpos => decide (m = "index") && nc o && (apos.endLine == cpos.line) && ns e && ckE lm sc a o && ckEs lm sc as [e]
  | lm, sc, .met .upper a [], .Call (.Attribute o m apos) [] [] cpos => decide (m = "upper") && nc o && (apos.endLine == cpos.line) && ckE lm sc a o
  | lm, sc, .met .lower a [], .Call (.Attribute o m apos) [] [] cpos => decide (m = "lower") && nc o && (apos.endLine == cpos.line) && ckE lm sc a o
  | lm, sc, .met .join a as, .Call (.Attribute o m apos) [e] [] cpos => decide (m = "join") && nc o && (apos.endLine == cpos.line) && ns e && ckE lm sc a o && ckEs lm sc as [e]
  | lm, sc, .met .split a as, .Call (.Attribute o m apos) [e] [] cpos => decide (m = "split") && nc o && (apos.endLine == cpos.line) && ns e && ckE lm sc a o && ckEs lm sc as [e]
  | lm, sc, .met .part a as, .Call (.Attribute o m apos) [e] [] cpos => decide (m = "partition") && nc o && (apos.endLine == cpos.line) && ns e && ckE lm sc a o && ckEs lm sc as [e]
  | lm, sc, .met .reverse a [], .Call (.Attribute o m apos) [] [] cpos => decide (m = "reverse") && nc o && (apos.endLine == cpos.line) && ckE lm sc a o
  | lm, sc, .met .clear a [], .Call (.Attribute o m apos) [] [] cpos => decide (m = "clear") && nc o && (apos.endLine == cpos.line) && ckE lm sc a o
  | lm, sc, .met .insert a as, .Call (.Attribute o m apos) [e, e2] [] cpos => decide (m = "insert") && nc o && (apos.endLine == cpos.line) && ns e && ns e2 && ckE lm sc a o && ckEs lm sc as [e, e2]
  | lm, sc, .fstr ps, .JoinedStr vs _ => decide (2 ≤ vs.length) && ckEs lm sc ps vs
  | lm, sc, .fmt a, .FormattedValue e i none _ => decide (i = -1) && ckE lm sc a e
  | lm, sc, .mk a, .Call (.Name x _) [e] [] _ => decide (x = Bi.list.nm) && glB sc x && ns e && ckE lm sc a e
  | lm, sc, .rev a, .Subscript a' (.Slice none none (some (.UnaryOp .USub (.Constant (.int i) _ _) _)) _) _ => decide (i = 1) && ckE lm sc a a'
  | lm, sc, .comp false e own tg k src c, .ListComp elt [⟨t, iter, ifs, 0⟩] scope _ => decide (scope.kind = .function) && blkC N sc scope (ownL N own) && (tg.all fun i => decide (i ∈ own)) && itB iter &&
      ckTg scope tg t && ckI lm sc k src t iter && ckC false (relS scope sc) c ifs && ckE false (relS scope sc) e elt
  | lm, sc, .told j e, .Call (.Name x _) [.Lambda params body scope _] [] _ => lm && (match P.tolds[j]? with | some td => decide (td.name = x) | none => false) && glB sc x && nmB x && lamA params && LamX.lamSB sc scope && ckE false scope e body
  | _, _, _, _ => false
/-- a target -/
def ckTg : Scope → List Nat → Expr → Bool
  | sc, [i], .Name x _ => decide (N[i]? = some x) && locB sc x
  | sc, is, .Tuple es _ _ => decide (2 ≤ is.length) && tgB N sc is es
  | _, _, _ => false
/-- what is walked -/
def ckI : Bool → Scope → It → List E → Expr → Expr → Bool
  | lm, sc, .seq, [a], _, e => ckE lm sc a e
  | lm, sc, .range1, [a], _, .Call (.Name x _) [e] [] _ => decide (x = "range") && glB sc x && ns e && ckE lm sc a e
  | lm, sc, .range2, [a, b], _, .Call (.Name x _) [e, e'] [] _ => decide (x = "range") && glB sc x && ns e && ns e' && ckE lm sc a e && ckE lm sc b e'
  | lm, sc, .range3, [a, b, d], _, .Call (.Name x _) [e, e', e2] [] _ => decide (x = "range") && glB sc x && ns e && ns e' && ns e2 && ckE lm sc a e && ckE lm sc b e' && ckE lm sc d e2
  | lm, sc, .enum, [a], .Tuple .., .Call (.Name x _) [e] [] _ => decide (x = "enumerate") && glB sc x && ns e && ckE lm sc a e
  | _, _, _, _, _, _ => false
def ckEs : Bool → Scope → List E → List Expr → Bool
  | _, _, [], [] => true
  | lm, sc, a :: as, e :: es => ns e && ckE lm sc a e && ckEs lm sc as es
  | _, _, _, _ => false
def ckKs : Bool → Scope → List E → List Keyword → Bool
  | _, _, [], [] => true
  | lm, sc, a :: as, ⟨_, e, _⟩ :: es => ckE lm sc a e && ckKs lm sc as es
  | _, _, _, _ => false
def ckO : Bool → Scope → Option E → Option Expr → Bool
  | _, _, none, none => true
  | lm, sc, some a, some e => ckE lm sc a e
  | _, _, _, _ => false
def ckC : Bool → Scope → Option E → List Expr → Bool
  | _, _, none, [] => true
  | lm, sc, some a, [e] => ckE lm sc a e
  | _, _, _, _ => false
end
end
end G

set_option Elab.async false
set_option linter.all false
set_option maxRecDepth 100000
set_option maxHeartbeats 0
/-! A def that calls what it got and tells how that ended: its text, its promise. -/
namespace G
open PySem L2

def scB (N ps : List Str) (sc : Scope) : Bool := decide (sc.kind = .function) && !sc.isCoroutine && !sc.isGenerator && decide N.Nodup && decide (N.take ps.length = ps) && ps.all (fun x => locB sc x || celB sc x) && sc.names.all fun y => !decide (y.2 = .free)
theorem scB_ok {N ps : List Str} {sc : Scope} (h : scB N ps sc = true) : FnScope N ps sc := by
  unfold scB at h
  simp only [Bool.and_eq_true, decide_eq_true_eq, Bool.not_eq_true', List.all_eq_true, Bool.or_eq_true, decide_eq_false_iff_not] at h
  obtain ⟨⟨⟨⟨⟨⟨h1, h2⟩, h3⟩, h4⟩, h5⟩, h6⟩, h7⟩ := h
  refine ⟨h1, h2, h3, h4, h5, fun x hx => ?_, h7⟩
  rcases h6 x hx with q | q
  · unfold locB at q
    split at q
    · exact .inl (by assumption)
    · cases q
  · unfold celB at q
    split at q
    · exact .inr (by assumption)
    · cases q
def tyN1 (sc : Scope) (x y : Str) : Bool := decide (y = x) && glB sc y && nmB y
def ckTy (sc : Scope) : List Str → Expr → Bool
  | [x], .Name y _ => tyN1 sc x y
  | [x1, x2], .Tuple [.Name y1 _, .Name y2 _] _ _ => tyN1 sc x1 y1 && tyN1 sc x2 y2
  | [x1, x2, x3], .Tuple [.Name y1 _, .Name y2 _, .Name y3 _] _ _ => tyN1 sc x1 y1 && tyN1 sc x2 y2 && tyN1 sc x3 y3
  | [x1, x2, x3, x4], .Tuple [.Name y1 _, .Name y2 _, .Name y3 _, .Name y4 _] _ _ => tyN1 sc x1 y1 && tyN1 sc x2 y2 && tyN1 sc x3 y3 && tyN1 sc x4 y4
  | _, _ => false
def ckHs (sc : Scope) (n : Str) : List (List Str × List Nat × List Str) → List ExceptHandler → Bool
  | [], [] => true
  | (ns, _, fs) :: l, .ExceptHandler (some t) (some m) [.Return (some (.Tuple es _ _)) _] _ :: r => decide (m = n) && ckTy sc ns t && ckFs n fs es && decide (fs.length ≤ 100) && ckHs sc n l r
  | _, _ => false
def ckTB (td : Told) (sc : Scope) : List Stmt → Bool
  | [.Try [.Return (some (.Tuple [.Constant (.str z) _ _, .Call (.Name a _) [] [] _] _ _)) _] (h :: hds) [] [] _] => decide (z = tS toldT) && decide (a = td.par) && ckHs sc td.as_ td.hs (h :: hds)
  | _ => false
/-- the def's text is the told one's -/
def ckTold (td : Told) (st : Stmt) : Bool := scB [td.par, td.as_] [td.par] (defScope st) && locB (defScope st) td.as_ && nmB td.as_ && nmB td.par && (locB (defScope st) td.par || celB (defScope st) td.par) && ckTB td (defScope st) (defBody st)
def hdsL (K : PySem.W.Frag) (cl : Str → Value) (hs : List (List Str × List Nat × List Str)) : List ClS := hs.map fun h => (h.1.map cl, tHd K h.2.2)
/-- what it makes of what is called -/
def TTd (K : PySem.W.Frag) (l : List ClS) : (XK → Hp → VK → Prop) → Hp → VK → Prop := fun tl H Q =>
  tl (fun cls d H' => ∀ σ, wAsL K 1 (fun _ _ _ _ => False) { nx := fun _ H' => Q .non H', rt := Q } l cls d σ H') H fun v H1 => [V.str (tS toldT), v].length ≤ sizeLine ∧ ∀ p, H1 p = none → Q (.ref p) (upd H1 p (.tup [.str (tS toldT), v]))
def ToldOk (P : Prog) (Γ : Gm) (mg : Str → Option Value) (td : Told) : Prop := ∃ dvs kws g fd st, FunD Γ.K td.name td.name (defArgs st) (defBody st) (defScope st) dvs kws g fd ∧ mg td.name = some (.ref g) ∧ Binds Γ.K fd [td.par] [] ∧ ckTold td st = true ∧
  ∃ cl : Str → Value, (∀ h ∈ td.hs, ∀ n ∈ h.1, mg n = some (cl n)) ∧ ∀ h ∈ td.hs, ∀ (c : Nat) x C, P.xcls[c]? = some x → Γ.xcl c = some (C, x.all) → PySem.W.exmAny Γ.K (.ref C) (h.1.map cl) = some (h.2.1.contains c)
section
variable {X : Cx}
theorem nm_of' {x : Str} (h : nmB x = true) : (x == ("__debug__" : Str)) = false ∧ (x == ("__classdict__" : Str)) = false := by
  unfold nmB at h
  simpa using h
theorem names_of {sc : Scope} {x y : Str} {v : Value} (hs : X.env.scope = sc) (h : tyN1 sc x y = true) (hm : X.mg x = some v) : Names X y v := by
  unfold tyN1 at h
  simp only [Bool.and_eq_true, decide_eq_true_eq] at h
  obtain ⟨⟨rfl, h1⟩, h2⟩ := h
  refine ⟨?_, (nm_of' h2).1, .inl hm⟩
  show X.env.scope.names.lookup y = _
  rw [hs]
  unfold glB at h1
  split at h1
  · assumption
  · cases h1
theorem ext_ok {sc : Scope} {cl : Str → Value} (hs : X.env.scope = sc) : ∀ {ns : List Str} {t : Expr}, ckTy sc ns t = true → (∀ n ∈ ns, X.mg n = some (cl n)) → ExTest X t (ns.map cl) := by
  intro ns t h hm
  unfold ckTy at h
  split at h
  · exact ext_one (names_of hs h (hm _ (by simp)))
  · simp only [Bool.and_eq_true] at h
    exact ext_two (names_of hs h.1 (hm _ (by simp))) (names_of hs h.2 (hm _ (by simp)))
  · simp only [Bool.and_eq_true] at h
    exact ext_three (names_of hs h.1.1 (hm _ (by simp))) (names_of hs h.1.2 (hm _ (by simp))) (names_of hs h.2 (hm _ (by simp)))
  · simp only [Bool.and_eq_true] at h
    exact ext_four (names_of hs h.1.1.1 (hm _ (by simp))) (names_of hs h.1.1.2 (hm _ (by simp))) (names_of hs h.1.2 (hm _ (by simp))) (names_of hs h.2 (hm _ (by simp)))
  · cases h
theorem hds_ok {sc : Scope} {cl : Str → Value} {n : Str} (hs : X.env.scope = sc) (hN : X.N[1]? = some n) (he : sc.names.lookup n = some .local) (h1 : (n == ("__debug__" : Str)) = false) (h2 : (n == ("__classdict__" : Str)) = false) :
    ∀ {l : List (List Str × List Nat × List Str)} {r : List ExceptHandler}, ckHs sc n l r = true → (∀ h ∈ l, ∀ n ∈ h.1, X.mg n = some (cl n)) → HdsA X n r (hdsL X.K cl l)
  | [], [], _, _ => .nil
  | [], _ :: _, h, _ => by simp [ckHs] at h
  | _ :: _, [], h, _ => by simp [ckHs] at h
  | (ns, cs, fs) :: l, e :: r, h, hm => by
    unfold ckHs at h
    split at h <;> first | contradiction | skip
    rename_i heq1 heq2
    cases heq1
    cases heq2
    simp only [Bool.and_eq_true, decide_eq_true_eq] at h
    obtain ⟨⟨⟨⟨rfl, h3⟩, h4⟩, h5⟩, h6⟩ := h
    refine .cons (ext_ok hs h3 (hm _ (List.mem_cons_self ..))) (fun a oe cls d pn hz hf => ps_hd hN (by rw [hs]; exact he) h1 h2 hz hf h4) (hds_ok hs hN he h1 h2 h6 fun h hh => hm h (List.mem_cons_of_mem _ hh))
theorem told_nm {td : Told} {st : Stmt} (h : ckTold td st = true) : (td.par == ("__debug__" : Str)) = false ∧ (td.par == ("__classdict__" : Str)) = false := by
  unfold ckTold at h
  simp only [Bool.and_eq_true] at h
  exact nm_of' h.1.1.2
theorem told_gives {td : Told} {st : Stmt} {g : Addr} {cdg : Value} {q : Str} {cl : Str → Value} (h : ckTold td st = true) (hm : ∀ h ∈ td.hs, ∀ n ∈ h.1, X.mg n = some (cl n)) : FnScope [td.par, td.as_] [td.par] (defScope st) ∧ Vis (defScope st) td.par ∧
    LamX.GivesTo X [td.par, td.as_] td.name (defScope st) g cdg (defBody st) td.par q (TTd X.K (hdsL X.K cl td.hs)) := by
  have hnm := told_nm h
  unfold ckTold at h
  simp only [Bool.and_eq_true] at h
  obtain ⟨⟨⟨⟨⟨h1, h2⟩, h3⟩, h4⟩, h5⟩, h6⟩ := h
  have S := scB_ok h1
  refine ⟨S, ?_, ?_⟩
  · rcases S.par td.par (by simp) with k | k
    · exact .inl k
    · exact .inr (.inl k)
  · intro f c' s H Q tl act hc hq
    unfold ckTB at h6
    split at h6 <;> first | contradiction | skip
    rename_i z kj p1 a p2 p3 kk p4 p5 h hds p6 heq
    rw [heq]
    simp only [Bool.and_eq_true, decide_eq_true_eq] at h6
    obtain ⟨⟨rfl, rfl⟩, h7⟩ := h6
    have hl : (defScope st).names.lookup td.as_ = some .local := by
      unfold locB at h2
      split at h2
      · assumption
      · cases h2
    have hh := hds_ok (X := (cxOf C8.CX0 X.prog X.w X.K X.mg X.base [td.par, td.as_] td.name (defScope st) g cdg X.A X.stack s H C8.E0).nox) (sc := defScope st) (cl := cl) (n := td.as_) rfl rfl hl (nm_of' h3).1 (nm_of' h3).2 h7 hm
    have hnd : ([td.par, td.as_] : List Str).Nodup := S.nd
    refine ⟨_, pss_one (ps_try_asL (X := (cxOf C8.CX0 X.prog X.w X.K X.mg X.base [td.par, td.as_] td.name (defScope st) g cdg X.A X.stack s H C8.E0).nox) (i := 1) (Wout := fun _ _ _ _ => False)
      (tb := fun W D σ H => ∃ Ech : XK, (∀ cls d σ' H', Ech cls d H' → W cls d σ' H') ∧ σ[0]? = some (some (.ref f)) ∧ H c' = some (LamX.CodeO c' q) ∧ tl Ech H fun v H1 => [V.str (tS toldT), v].length ≤ sizeLine ∧ ∀ p, H1 p = none → D.rt (.ref p) (upd H1 p (.tup [.str (tS toldT), v])))
      rfl rfl hnd rfl hl L2.takes0 (fun W pn xe tk _ => ?_) hh), ?_⟩
    · refine ⟨fun pins s' σ H' D I h' => ?_⟩
      obtain ⟨Ech, hW, g1, g2, g3⟩ := h'
      have hp := act W pn xe Ech p2 p3 tk hW
      have hq := pss_one (ps_ret (pos := p5) (pe_tup (x1 := kk) (pos := p4) (pa_cons (pe_str (x := tS toldT) (j := kj) (pos := p1)) (pa_cons hp pa_nil))))
      exact hq.run pins s' σ H' D I ⟨g1, g2, g3⟩
    · exact ⟨fun cls d H' => ∀ σ, wAsL X.K 1 (fun _ _ _ _ => False) { nx := fun _ H' => Q .non H', rt := Q } (hdsL X.K cl td.hs) cls d σ H', fun cls d σ' H' w => w σ', rfl, hc, hq⟩
theorem hs_few {sc : Scope} {n : Str} : ∀ {l : List (List Str × List Nat × List Str)} {r : List ExceptHandler}, ckHs sc n l r = true → ∀ h ∈ l, h.2.2.length ≤ 100
  | [], _, _, h, hh => nomatch hh
  | _ :: _, [], h, _, _ => by simp [ckHs] at h
  | (ns, cs, fs) :: l, e :: r, h, k, hk => by
    unfold ckHs at h
    split at h <;> first | contradiction | skip
    rename_i heq1 heq2
    cases heq1
    cases heq2
    simp only [Bool.and_eq_true, decide_eq_true_eq] at h
    rcases List.mem_cons.mp hk with e | e
    · subst e
      exact h.1.2
    · exact hs_few h.2 k e
theorem told_few {td : Told} {st : Stmt} (h : ckTold td st = true) : ∀ h ∈ td.hs, h.2.2.length ≤ 100 := by
  unfold ckTold at h
  simp only [Bool.and_eq_true] at h
  have h6 := h.2
  unfold ckTB at h6
  split at h6 <;> first | contradiction | skip
  simp only [Bool.and_eq_true] at h6
  exact hs_few h6.2
theorem zip_look {f : Str} {d : D} : ∀ {fn : List Str} {fs : List D}, (fn.zip fs).lookup f = some d → ∃ i : Nat, fn[i]? = some f ∧ fs[i]? = some d
  | [], _, h => by simp at h
  | _ :: _, [], h => by simp at h
  | g :: fn, e :: fs, h => by
    simp only [List.zip_cons_cons, List.lookup] at h
    split at h
    · rename_i q
      cases h
      exact ⟨0, by rw [beq_iff_eq.mp q]; rfl, rfl⟩
    · obtain ⟨i, h1, h2⟩ := zip_look h
      exact ⟨i + 1, h1, h2⟩
end
section
variable {Γ : Gm} {φ : Fx} {H : Hp}
theorem tellF_ok {x : XCls} {fs : List D} {l : List (Str × V)} (hf : ∀ (i : Nat) f e, x.all[i]? = some f → fs[i]? = some e → ∃ v, l.lookup f = some v ∧ Rep Γ φ H v e) : ∀ {ns : List Str} {ds : List D}, tellF x fs ns = some ds →
    ∃ vs, vs.length = ns.length ∧ Reps Γ φ H vs ds ∧ (∀ (i : Nat) f v, ns[i]? = some f → vs[i]? = some v → l.lookup f = some v) ∧ ∀ f ∈ ns, f ∈ x.all
  | [], ds, h => by
    simp only [tellF, Option.some.injEq] at h
    subst h
    exact ⟨[], rfl, .nil, fun i f v h => by simp at h, fun _ h => nomatch h⟩
  | n :: ns, ds, h => by
    simp only [tellF] at h
    split at h
    · rename_i d ds' h1 h2
      cases h
      obtain ⟨i, g1, g2⟩ := zip_look h1
      obtain ⟨v, g3, g4⟩ := hf i n d g1 g2
      obtain ⟨vs, k1, k2, k3, k4⟩ := tellF_ok hf h2
      refine ⟨v :: vs, by simp [k1], .cons g4 k2, fun i f u e1 e2 => ?_, fun f hf' => ?_⟩
      · cases i with
        | zero =>
          cases e1
          cases e2
          exact g3
        | succ i => exact k3 i f u (by simpa using e1) (by simpa using e2)
      · rcases List.mem_cons.mp hf' with e | e
        · subst e
          exact List.mem_of_getElem? g1
        · exact k4 f e
    · cases h
theorem tell_ok {K : PySem.W.Frag} {cl : Str → Value} {x : XCls} {c : Nat} {C d : Addr} {fs : List D} {l : List (Str × V)} {σ : L2.St} {D : Ends} {s : Stt} {Q : VK} (xf : XfC K C) (no : ∀ f ∈ x.all, PySem.W.findIn K (.ref C) f = some none) (hd : H d = some (.xd l))
    (hf : ∀ (i : Nat) f e, x.all[i]? = some f → fs[i]? = some e → ∃ v, l.lookup f = some v ∧ Rep Γ φ H v e) (rel : Rel Γ φ H s) (hD : D.rt = Q) : ∀ {hs : List (List Str × List Nat × List Str)} {z : G.D}, (∀ h ∈ hs, h.2.2.length ≤ 100) → (∀ h ∈ hs, PySem.W.exmAny K (.ref C) (h.1.map cl) = some (h.2.1.contains c)) →
    tellH x c fs hs = some z → Ko Γ φ H s z Q → wAsL K 1 (fun _ _ _ _ => False) D (hdsL K cl hs) (.ref C) (some d) σ H
  | [], z, _, _, h, _ => by simp [tellH] at h
  | (ns, cs, fn) :: hs, z, hl, hx, h, k => by
    refine ⟨cs.contains c, hx _ (List.mem_cons_self ..), fun hb a ha => ?_, fun hb => ?_⟩
    · simp only [tellH, hb, if_true, Option.map_eq_some_iff] at h
      obtain ⟨ds, h1, rfl⟩ := h
      obtain ⟨vs, g1, g2, g3, g4⟩ := tellF_ok hf h1
      refine ⟨⟨σ, rfl⟩, C, d, l, vs, rfl, rfl, xf, fun f hf => no f (g4 f hf), hd, g1, ?_, g3, fun p hp => ?_⟩
      · have := hl _ (List.mem_cons_self ..)
        have sl : (sizeLine : Nat) = 16777216 := sizeLine_eq
        simp only at this
        omega
      · show D.rt _ _
        rw [hD]
        exact k.tup rel g2 hp
    · simp only [tellH, hb, Bool.false_eq_true, if_false] at h
      exact tell_ok xf no hd hf rel hD (fun h hh => hl h (List.mem_cons_of_mem _ hh)) (fun h hh => hx h (List.mem_cons_of_mem _ hh)) h k
theorem told_read {P : Prog} {X : Cx} {W : WX} {call : CallS} {j : Nat} {e : E} {td : Told} {cl : Str → Value} {σ : L2.St} {Q : VK} (e1 : P.tolds[j]? = some td) (eK : X.K = Γ.K) (few : ∀ h ∈ td.hs, h.2.2.length ≤ 100) (xc : ∀ (c : Nat) x, P.xcls[c]? = some x → ∃ C, XOk Γ X.prog X.w X.mg X.base c x C)
    (g2 : ∀ h ∈ td.hs, ∀ (c : Nat) x C, P.xcls[c]? = some x → Γ.xcl c = some (C, x.all) → PySem.W.exmAny Γ.K (.ref C) (h.1.map cl) = some (h.2.1.contains c)) (h : dE Γ W (evE P call (.told j e)) σ H Q) :
    LamX.tLam Γ.T (TTd X.K (hdsL X.K cl td.hs)) (fun E => dE Γ (fun cls d _ H => E cls d H) (evE P call e)) σ H Q := by
  obtain ⟨φ, ρ, s, er, rel, go⟩ := h
  refine ⟨rel.tab, fun H1 eN t1 => ?_⟩
  have A : After φ H φ H1 := After.extN eN
  have rel1 := rel.extN eN t1
  have go1 := Go.from A go
  refine ⟨φ, ρ, s, er.mono A, rel1, ?_⟩
  rw [evE] at go1
  cases hev : evE P call e ρ s with
  | ok v s' =>
    rw [hev] at go1
    intro φ2 H2 a2 r2 u hu
    refine ⟨by have sl : (sizeLine : Nat) = 16777216 := sizeLine_eq; simp; omega, fun p hp => ?_⟩
    exact go1 φ2 _ (a2.trans (.fresh hp)) (r2.fresh hp) _ (.tup (SqT.of upd_same) (.cons (.str _) (.cons (hu.mono (.fresh hp)) .nil)))
  | stuck => rw [hev] at go1; exact go1.elim
  | exc c fs s' =>
    rw [hev] at go1
    obtain ⟨z, hz, k⟩ := go1.of
    intro φ2 H2 cls dd a2 r2 xr σ'
    unfold toldD at hz
    rw [e1] at hz
    cases hx : P.xcls[c]? with
    | none => rw [hx] at hz; cases hz
    | some x =>
      rw [hx] at hz
      obtain ⟨C, O⟩ := xc c x hx
      obtain ⟨C', fn, d, l, q1, rfl, rfl, hd, hlen, hf⟩ := xr
      rw [O.cl] at q1
      cases q1
      rw [eK]
      exact tell_ok (σ := σ') (Q := Q) O.xf O.no hd hf r2 rfl few (fun h hh => g2 h hh c x C hx O.cl) hz fun φ3 H3 a3 r3 v hv => k φ3 H3 (a2.trans a3) r3 v hv
end
end G

set_option Elab.async false
set_option linter.all false
set_option maxRecDepth 100000
set_option maxHeartbeats 0
/-! The soundness of expressions. -/
namespace G
open PySem L2

/-- what a def knows in which lambdas stand -/
structure LamOk (P : Prog) (Γ : Gm) (k : Nat) (X : Cx) : Prop where
  room : Room (3 * k + 5) X.A
  tab : ∃ c T, X.env.code = .ref c ∧ LamX.TabB X.base X.mg c T ∧ (T, X.env.qual ++ "<lambda>") ∈ Γ.T ∧ ∀ p ∈ Γ.T, p.1 = T → p.2 = X.env.qual ++ "<lambda>"
  told : ∀ (j : Nat) td, P.tolds[j]? = some td → ToldOk P Γ X.mg td
/-- what an expression's context knows -/
structure CxE (P : Prog) (Γ : Gm) (k : Nat) (N : List Str) (lm : Bool) (sc : Scope) (W : WX) (X : Cx) : Prop where
  eK : X.K = Γ.K
  eN : X.N = N
  nd : N.Nodup
  eS : X.env.scope = sc
  kf : sc.kind = .function
  calm : X.calm = true
  room : Room (3 * k + 3) X.A
  takes : Takes X W
  mgb : ∀ x ∈ bnames, X.mg x = none
  con : ∀ (g : Nat) x d, P.consts[g]? = some (x, d) → ∃ v u, X.mg x = some u ∧ RelV v u ∧ ∀ φ H, Rep Γ φ H v d
  def_ : ∀ (f : Nat) df, P.defs[f]? = some df → ∃ a fd, X.mg df.name = some (.ref a) ∧ PySem.W.keepIn X.K (.ref a) = true ∧ FnOk X.prog X.w X.K X.mg X.base (L2.CX X.prog X.w) (3 * k + 3) a fd df.ps (spD Γ df.ps.length (callD P k f)) ∧ (df.pos = true → Binds X.K fd df.ps []) ∧ ∀ sh ∈ P.shapes, sh.f = f → ShOk Γ X.K fd df.ps sh
  xc : ∀ (c : Nat) x, P.xcls[c]? = some x → ∃ C, XOk Γ X.prog X.w X.mg X.base c x C
  lam : lm = true → LamOk P Γ k X
theorem callD_len {P : Prog} {k f : Nat} {df : Def} (h : P.defs[f]? = some df) (ds : List D) (s : Stt) (hl : ds.length ≠ df.ps.length) : callD P k f ds s = .stuck := by
  cases k with
  | zero => rfl
  | succ k =>
    unfold callD
    rw [h]
    exact if_neg hl

section
variable {P : Prog} {Γ : Gm} {k : Nat} {N : List Str} {lm : Bool} {sc : Scope} {W : WX} {X : Cx}
theorem CxE.hu (c : CxE P Γ k N lm sc W X) : X.A.units + 65 < cLine := by have := c.room.un; omega
theorem vis_of (c : CxE P Γ k N lm sc W X) {x : Str} (h : visB sc x = true) : Vis X.env.scope x := by
  rw [c.eS]
  unfold visB at h
  split at h
  · exact .inl (by assumption)
  · exact .inr (.inl (by assumption))
  · exact .inr (.inr (by assumption))
  · cases h
theorem gl_of (c : CxE P Γ k N lm sc W X) {x : Str} (h : glB sc x = true) : Gl X x := by
  show X.env.scope.names.lookup x = _
  rw [c.eS]
  unfold glB at h
  split at h
  · assumption
  · cases h
theorem nm_of {x : Str} (h : nmB x = true) : (x == ("__debug__" : Str)) = false ∧ (x == ("__classdict__" : Str)) = false := by
  unfold nmB at h
  simpa using h
theorem plain_ix {e : Expr} (h : nsl e = true) : PlainIx e := by
  intro o i
  cases e <;> first | rfl | exact nomatch h
/-- the context of a comprehension's block -/
theorem CxE.blk (c : CxE P Γ k N lm sc W X) {scope : Scope} (hk : scope.kind = .function) (s : Shared) (H : Hp) (C : Addr) (cl : List (Str × Addr)) (fp : List Addr) :
    CxE P Γ k N false (relS scope sc) W0 (X.blk s H scope (compEnvC scope cl C X.env) fp) :=
  ⟨c.eK, c.eN, c.nd, by rw [← c.eS]; rfl, hk, c.calm, c.room, takes0, c.mgb, c.con, c.def_, c.xc, fun z => Bool.noConfusion z⟩
theorem pe_stuck {e : Expr} : PE X e (dE Γ W fun _ _ => .stuck) := ⟨fun _ _ _ _ _ _ ⟨_, _, _, _, _, go⟩ => go.elim⟩
theorem pt_stuck {e : Expr} : PT X e (dT Γ W fun _ _ => .stuck) := ⟨fun _ _ _ _ _ _ ⟨_, _, _, _, _, go⟩ => go.elim⟩
theorem pw_stuck {e : Expr} : PW X e (dT Γ W fun _ _ => .stuck) := ⟨fun _ _ _ _ _ _ _ ⟨_, _, _, _, _, go⟩ => go.elim⟩
theorem tg_pgs (hN : X.N = N) (hnd : N.Nodup) (sc' : Scope) (hl : ∀ x, locB sc' x = true → X.env.scope.names.lookup x = some .local) : ∀ {is : List Nat} {es : List Expr}, tgB N sc' is es = true → PGs X es (gNames is) ∧ (assignEach es X.env).length = is.length ∧ (assignEach es X.env).findIdx? (·.1) = none
  | [], [], _ => ⟨pgs_nil, rfl, rfl⟩
  | i :: is, .Name x p :: es, h => by
    simp only [tgB, Bool.and_eq_true, decide_eq_true_eq] at h
    obtain ⟨h1, h2, h3⟩ := tg_pgs hN hnd sc' hl h.2
    refine ⟨pgs_cons (pg_name (by rw [hN]; exact hnd) (by rw [hN]; exact h.1.1) (.inl (hl x h.1.2)) (.inr (hl x h.1.2))) h1, ?_, ?_⟩
    · show (assignEach es X.env).length + 1 = is.length + 1
      rw [h2]
    · show List.findIdx? _ ((false, assign (.Name x p) X.env) :: assignEach es X.env) = none
      rw [List.findIdx?_cons]
      simp [h3]
  | [], _ :: _, h => by simp [tgB] at h
  | _ :: _, [], h => by simp [tgB] at h
  | _ :: _, .BoolOp .. :: _, h => by simp [tgB] at h
  | _ :: _, .NamedExpr .. :: _, h => by simp [tgB] at h
  | _ :: _, .BinOp .. :: _, h => by simp [tgB] at h
  | _ :: _, .UnaryOp .. :: _, h => by simp [tgB] at h
  | _ :: _, .Lambda .. :: _, h => by simp [tgB] at h
  | _ :: _, .IfExp .. :: _, h => by simp [tgB] at h
  | _ :: _, .Dict .. :: _, h => by simp [tgB] at h
  | _ :: _, .Set .. :: _, h => by simp [tgB] at h
  | _ :: _, .ListComp .. :: _, h => by simp [tgB] at h
  | _ :: _, .SetComp .. :: _, h => by simp [tgB] at h
  | _ :: _, .DictComp .. :: _, h => by simp [tgB] at h
  | _ :: _, .GeneratorExp .. :: _, h => by simp [tgB] at h
  | _ :: _, .Await .. :: _, h => by simp [tgB] at h
  | _ :: _, .Yield .. :: _, h => by simp [tgB] at h
  | _ :: _, .YieldFrom .. :: _, h => by simp [tgB] at h
  | _ :: _, .Compare .. :: _, h => by simp [tgB] at h
  | _ :: _, .Call .. :: _, h => by simp [tgB] at h
  | _ :: _, .FormattedValue .. :: _, h => by simp [tgB] at h
  | _ :: _, .JoinedStr .. :: _, h => by simp [tgB] at h
  | _ :: _, .Constant .. :: _, h => by simp [tgB] at h
  | _ :: _, .Attribute .. :: _, h => by simp [tgB] at h
  | _ :: _, .Subscript .. :: _, h => by simp [tgB] at h
  | _ :: _, .Starred .. :: _, h => by simp [tgB] at h
  | _ :: _, .List .. :: _, h => by simp [tgB] at h
  | _ :: _, .Tuple .. :: _, h => by simp [tgB] at h
  | _ :: _, .Slice .. :: _, h => by simp [tgB] at h
theorem tgB_len {sc' : Scope} : ∀ {is : List Nat} {es : List Expr}, tgB N sc' is es = true → is.length = es.length
  | [], [], _ => rfl
  | [], _ :: _, h => by simp [tgB] at h
  | _ :: _, [], h => by simp [tgB] at h
  | i :: is, e :: es, h => by
    cases e <;> simp only [tgB, Bool.false_eq_true, Bool.and_eq_true] at h
    simp [tgB_len h.2]
/-- a target's rule, the same at every state of a block -/
theorem tg_ok (hN : X.N = N) (hnd : N.Nodup) (hK : X.K = Γ.K) (hc : X.calm = true) {sc' : Scope} (hl : ∀ x, locB sc' x = true → X.env.scope.names.lookup x = some .local) {tg : List Nat} {t : Expr} (h : ckTg P N sc' tg t = true) : PG X t (match tg, t with
    | [i], .Name _ _ => gName i
    | is, _ => gTup Γ.K is.length (gNames is)) := by
  unfold ckTg at h
  split at h
  · simp only [Bool.and_eq_true, decide_eq_true_eq] at h
    exact pg_name (by rw [hN]; exact hnd) (by rw [hN]; exact h.1) (.inl (hl _ h.2)) (.inr (hl _ h.2))
  · rename_i is es _ _ hx
    simp only [Bool.and_eq_true, decide_eq_true_eq] at h
    obtain ⟨h1, h2, h3⟩ := tg_pgs hN hnd sc' hl h.2
    have q := pg_tup hc h1 h2 h3 (k := by assumption) (pos := by assumption)
    rw [hK] at q
    match tg, h.1, q with
    | [_], h, _ => simp at h
    | [], _, q => exact q
    | _ :: _ :: _, _, q => exact q
  · cases h
theorem tg_tk {sc' : Scope} {tg : List Nat} {t : Expr} (h : ckTg P N sc' tg t = true) : TgOk Γ tg (match tg, t with
    | [i], .Name _ _ => gName i
    | is, _ => gTup Γ.K is.length (gNames is)) := by
  unfold ckTg at h
  split at h
  · exact tg_one
  · simp only [Bool.and_eq_true, decide_eq_true_eq] at h
    match tg, h.1 with
    | [_], h => simp at h
    | [], h => simp at h
    | _ :: _ :: _, h => exact tg_tup rfl h
  · cases h

/-- what a block's local names are where it runs -/
theorem relS_loc {scope sc' : Scope} {x : Str} (h : locB scope x = true) : (relS scope sc').names.lookup x = some .local := by
  unfold locB at h
  split at h
  · exact lookup_relS_keep (by decide) (by assumption)
  · cases h
theorem loc_of (c : CxE P Γ k N lm sc W X) {x : Str} (h : locB sc x = true) : X.env.scope.names.lookup x = some .local := by
  rw [c.eS]
  unfold locB at h
  split at h
  · assumption
  · cases h
theorem b_mem (b : Bi) : b.nm ∈ bnames := by cases b <;> decide +kernel
theorem ty_mem {t : String} (h : isTy t = true) : Str.ofString t ∈ bnames := by
  unfold isTy at h
  simp only [Bool.or_eq_true, beq_iff_eq] at h
  rcases h with (((rfl | rfl) | rfl) | rfl) | rfl <;> decide +kernel
theorem folded {e : Expr} {env : PySem.Env} (h : itB e = true) : ∀ x, foldedSetIterable e env x = pure x := by
  intro x
  cases e <;> first | rfl | exact nomatch h
theorem own_map (own : List Nat) : (ownL N own).map (·.2) = own := by
  unfold ownL
  rw [List.map_map]
  exact List.map_id own

theorem ckEs_ns : ∀ {ms : List E} {es : List Expr}, ckEs P N lm sc ms es = true → es.all ns = true
  | [], [], _ => rfl
  | [], _ :: _, h => by simp [ckEs] at h
  | _ :: _, [], h => by simp [ckEs] at h
  | m :: ms, e :: es, h => by
    simp only [ckEs, Bool.and_eq_true] at h
    rw [List.all_cons, h.1.1, ckEs_ns h.2]
    rfl
theorem pCall {f : Nat} {as : List E} {x : Str} {es : List Expr} {p pos : Pos} (c : CxE P Γ k N lm sc W X) (h0 : (match P.defs[f]? with | some df => df.pos && decide (df.name = x) | none => false) = true) (h1 : glB sc x = true) (h2 : nmB x = true) (h3 : ckEs P N lm sc as es = true)
    (ha : PA X es (dA Γ W (evEs P (callD P k) as))) : PE X (.Call (.Name x p) es [] pos) (dE Γ W (evE P (callD P k) (.call f as))) := by
  cases e1 : P.defs[f]? with
  | none => rw [e1] at h0; cases h0
  | some df =>
    rw [e1] at h0
    simp only [Bool.and_eq_true, decide_eq_true_eq] at h0
    obtain ⟨hp, rfl⟩ := h0
    obtain ⟨a, fd, hm, hk, F, hb, _⟩ := c.def_ f df e1
    cases es with
    | nil =>
      cases as with
      | nil => exact s_call0 F c.room (gl_of c h1) hm hk (hb hp) c.takes (fun ds s hl => callD_len e1 ds s hl) (nm_of h2).1
      | cons _ _ => simp [ckEs] at h3
    | cons e es => exact s_call F c.room (gl_of c h1) hm hk (hb hp) c.takes (ckEs_ns h3) (fun ds s hl => callD_len e1 ds s hl) ha (nm_of h2).1
theorem pBi {b : Bi} {a : E} {x : Str} {e : Expr} {p pos : Pos} (c : CxE P Γ k N lm sc W X) (h0 : x = b.nm) (h1 : glB sc x = true) (h2 : ns e = true) (ha : PE X e (dE Γ W (evE P (callD P k) a))) :
    PE X (.Call (.Name x p) [e] [] pos) (dE Γ W (evE P (callD P k) (.bi b a))) := by
  subst h0
  exact s_bi c.eK c.calm (gl_of c h1) (c.mgb _ (b_mem b)) h2 ha
theorem tyB_of (c : CxE P Γ k N lm sc W X) {ts : List String} (h : tyB sc ts = true) : ts.all isTy = true ∧ ∀ t ∈ ts, Gl X (Str.ofString t) ∧ X.mg (Str.ofString t) = none := by
  unfold tyB at h
  rw [List.all_eq_true] at h
  refine ⟨List.all_eq_true.mpr fun t ht => ?_, fun t ht => ?_⟩
  · have := h t ht
    simp only [Bool.and_eq_true] at this
    exact this.1
  · have := h t ht
    simp only [Bool.and_eq_true] at this
    exact ⟨gl_of c this.2, c.mgb _ (ty_mem this.1)⟩
theorem pIsi1 {t : String} {a : E} {x y : Str} {e : Expr} {p p2 pos : Pos} (c : CxE P Γ k N lm sc W X) (h0 : x = "isinstance") (h1 : glB sc x = true) (h2 : ns e = true) (h3 : y = Str.ofString t) (h4 : tyB sc [t] = true) (ha : PE X e (dE Γ W (evE P (callD P k) a))) :
    PE X (.Call (.Name x p) [e, .Name y p2] [] pos) (dE Γ W (evE P (callD P k) (.isi a false [t]))) := by
  subst h0 h3
  obtain ⟨q1, q2⟩ := tyB_of c h4
  have q := q2 t (by simp)
  simp only [List.all_cons, List.all_nil, Bool.and_true] at q1
  exact s_isi1 c.eK q1 (gl_of c h1) (c.mgb _ (by decide +kernel)) q.1 q.2 h2 ha
theorem pIsiT {ts : List String} {a : E} {x : Str} {e : Expr} {tes : List Expr} {kk} {p p2 pos : Pos} (c : CxE P Γ k N lm sc W X) (h0 : x = "isinstance") (h1 : glB sc x = true) (h2 : ns e = true) (h3 : tyNames ts tes = true) (hl : ts.length ≤ 100) (h4 : tyB sc ts = true) (ha : PE X e (dE Γ W (evE P (callD P k) a))) :
    PE X (.Call (.Name x p) [e, .Tuple tes kk p2] [] pos) (dE Γ W (evE P (callD P k) (.isi a true ts))) := by
  subst h0
  obtain ⟨q1, q2⟩ := tyB_of c h4
  exact s_isiT c.eK h3 q1 hl (gl_of c h1) (c.mgb _ (by decide +kernel)) q2 h2 ha
theorem inv_r1 {a : E} {tg e : Expr} (h : ckI P N lm sc .range1 [a] tg e = true) : ∃ x p e' pos, e = .Call (.Name x p) [e'] [] pos ∧ x = "range" ∧ glB sc x = true ∧ ns e' = true ∧ ckE P N lm sc a e' = true := by
  unfold ckI at h
  split at h <;> first | contradiction | skip
  rename_i heq
  cases heq
  simp only [Bool.and_eq_true, decide_eq_true_eq] at h
  exact ⟨_, _, _, _, rfl, h.1.1.1, h.1.1.2, h.1.2, h.2⟩
theorem inv_r2 {a b : E} {tg e : Expr} (h : ckI P N lm sc .range2 [a, b] tg e = true) : ∃ x p e' e2 pos, e = .Call (.Name x p) [e', e2] [] pos ∧ x = "range" ∧ glB sc x = true ∧ ns e' = true ∧ ns e2 = true ∧ ckE P N lm sc a e' = true ∧ ckE P N lm sc b e2 = true := by
  unfold ckI at h
  split at h <;> first | contradiction | skip
  rename_i heq
  cases heq
  simp only [Bool.and_eq_true, decide_eq_true_eq] at h
  exact ⟨_, _, _, _, _, rfl, h.1.1.1.1.1, h.1.1.1.1.2, h.1.1.1.2, h.1.1.2, h.1.2, h.2⟩
theorem inv_r3 {a b d : E} {tg e : Expr} (h : ckI P N lm sc .range3 [a, b, d] tg e = true) : ∃ x p e' e2 e3 pos, e = .Call (.Name x p) [e', e2, e3] [] pos ∧ x = "range" ∧ glB sc x = true ∧ ns e' = true ∧ ns e2 = true ∧ ns e3 = true ∧ ckE P N lm sc a e' = true ∧ ckE P N lm sc b e2 = true ∧ ckE P N lm sc d e3 = true := by
  unfold ckI at h
  split at h <;> first | contradiction | skip
  rename_i heq
  cases heq
  simp only [Bool.and_eq_true, decide_eq_true_eq] at h
  exact ⟨_, _, _, _, _, _, rfl, h.1.1.1.1.1.1.1, h.1.1.1.1.1.1.2, h.1.1.1.1.1.2, h.1.1.1.1.2, h.1.1.1.2, h.1.1.2, h.1.2, h.2⟩
theorem inv_en {a : E} {tg e : Expr} (h : ckI P N lm sc .enum [a] tg e = true) : ∃ es kk tp x p e' pos, tg = .Tuple es kk tp ∧ e = .Call (.Name x p) [e'] [] pos ∧ x = "enumerate" ∧ glB sc x = true ∧ ns e' = true ∧ ckE P N lm sc a e' = true := by
  unfold ckI at h
  split at h <;> first | contradiction | skip
  rename_i heq
  cases heq
  simp only [Bool.and_eq_true, decide_eq_true_eq] at h
  exact ⟨_, _, _, _, _, _, _, rfl, rfl, h.1.1.1, h.1.1.2, h.1.2, h.2⟩
/-- the lambda's context -/
theorem CxE.lamC (c : CxE P Γ k N lm sc W X) {scope : Scope} (L : LamX.LamS sc scope) {A : Around} {outer : List PySem.Env} {s : Shared} {H : Hp} {E : XK} {f c' : Addr} (hr : Room (3 * k + 3) (A.deeper (LamX.lamEnv X scope s.heap.objs.size f c'))) :
    CxE P Γ k N false scope (fun cls d _ H => E cls d H) (LamX.lamCx X A outer s H E scope f c') :=
  ⟨c.eK, c.eN, c.nd, rfl, L.kind, rfl, hr, takes_of rfl rfl rfl rfl, c.mgb, c.con, c.def_, c.xc, fun z => Bool.noConfusion z⟩
theorem pTold {j : Nat} {e : E} {x : Str} {params : Arguments} {body : Expr} {scope : Scope} {p lpos pos : Pos} (c : CxE P Γ k N lm sc W X) (h0 : lm = true) (h1 : (match P.tolds[j]? with | some td => decide (td.name = x) | none => false) = true) (h2 : glB sc x = true) (h3 : nmB x = true) (h4 : lamA params = true) (L : LamX.LamS sc scope) (h6 : ckE P N false scope e body = true)
    (hb : ∀ {W : WX} {X : Cx}, CxE P Γ k N false scope W X → PE X body (dE Γ W (evE P (callD P k) e))) : PE X (.Call (.Name x p) [.Lambda params body scope lpos] [] pos) (dE Γ W (evE P (callD P k) (.told j e))) := by
  obtain ⟨room, ⟨cc, T, t1, t2, t3, t4⟩, td_⟩ := c.lam h0
  cases e1 : P.tolds[j]? with
  | none => rw [e1] at h1; cases h1
  | some td =>
    rw [e1] at h1
    obtain rfl : td.name = x := by simpa using h1
    have hp : params = ⟨[], [], none, [], [], none, []⟩ := by
      unfold lamA at h4
      split at h4
      · rfl
      · cases h4
    subst hp
    have L' : LamX.LamS X.env.scope scope := by rw [c.eS]; exact L
    obtain ⟨dvs, kws, g, fd, st, F, hmg, hbd, ht, hcl⟩ := td_ j td e1
    obtain ⟨oc, od, dV, kV, doc, pm, an, cdv, ct, osl, rfl, lk, hcd, _, _⟩ := F.ex
    obtain ⟨cl, g1, g2⟩ := hcl
    have hkp := F.kp
    rw [← c.eK] at lk hcd hkp hbd
    obtain ⟨s1, s2, s3⟩ := told_gives (X := X) (g := g) (cdg := cdv) (q := X.env.qual ++ "<lambda>") ht g1
    have q := LamX.pe_lamcall (p := p) (lpos := lpos) (pos := pos) (k := 3 * k + 3) (T := Γ.T) (params := ⟨[], [], none, [], [], none, []⟩) (body := body) (scope := scope) (t := fun E => dE Γ (fun cls d _ H => E cls d H) (evE P (callD P k) e)) (gl_of c h2) hmg hkp lk hcd hbd s1 rfl s2 s3 t2 t1 t3 t4 room L' rfl (by intro _ _ _ _ _; rfl)
      (fun A outer s H E f c' hr => hb (c.lamC L hr)) (nm_of h3).1 (told_nm ht).1 (told_nm ht).2
    exact q.mono fun σ H Q h => told_read e1 c.eK (told_few ht) (fun i x hx => c.xc i x hx) g2 h
theorem evFs_eq {P : Prog} {call : CallS} : ∀ (ps : List E) (acc : T) (ρ : G.Env) (s : Stt), evFs P call ps acc ρ s = evFL (ps.map (evE P call)) acc ρ s
  | [], acc, ρ, s => by rw [evFs]; rfl
  | p :: ps, acc, ρ, s => by
    rw [evFs, List.map_cons, evFL]
    congr 1
    funext x s
    cases x <;> try rfl
    simp only
    split
    · exact evFs_eq ps _ ρ s
    · rfl
mutual
theorem sE (m : E) : ∀ {lm : Bool} {sc : Scope} {W : WX} {X : Cx} {e : Expr}, CxE P Γ k N lm sc W X → ckE P N lm sc m e = true → PE X e (dE Γ W (evE P (callD P k) m)) := by
  intro lm sc W X e c h
  cases m with
  | var i =>
    cases e <;> try simp only [ckE, Bool.false_eq_true, Bool.and_eq_true, decide_eq_true_eq] at h
    exact s_var (pe_var (by rw [c.eN]; exact h.1.1) (vis_of c h.1.2) (nm_of h.2).1 (nm_of h.2).2)
  | int i =>
    cases e <;> try simp only [ckE, Bool.false_eq_true] at h
    rename_i q _ _
    cases q <;> try simp only [ckE, Bool.false_eq_true, decide_eq_true_eq] at h
    subst h
    exact s_int
  | bl i =>
    cases e <;> try simp only [ckE, Bool.false_eq_true] at h
    rename_i q _ _
    cases q <;> try simp only [ckE, Bool.false_eq_true, beq_iff_eq] at h
    subst h
    exact s_bl
  | non =>
    cases e <;> try simp only [ckE, Bool.false_eq_true] at h
    rename_i q _ _
    cases q <;> try simp only [ckE, Bool.false_eq_true] at h
    exact s_non
  | str t =>
    cases e <;> try simp only [ckE, Bool.false_eq_true] at h
    rename_i q _ _
    cases q <;> try simp only [ckE, Bool.false_eq_true, decide_eq_true_eq] at h
    subst h
    exact s_str
  | glob g =>
    cases e <;> try simp only [ckE, Bool.false_eq_true, Bool.and_eq_true] at h
    rename_i x pos
    obtain ⟨⟨h1, h2⟩, h3⟩ := h
    cases e1 : P.consts[g]? with
    | none => rw [e1] at h1; cases h1
    | some q =>
      rw [e1] at h1
      simp only [decide_eq_true_eq] at h1
      obtain ⟨x', d⟩ := q
      obtain rfl : x' = x := h1
      obtain ⟨v, u, hm, r, hr⟩ := c.con g x' d e1
      refine (pe_glob (gl_of c h2) hm r (nm_of h3).1).mono fun σ H Q hq => dE_ok (x := d) (fun ρ s => ?_) hr hq
      unfold evE
      rw [e1]
      rfl
  | bin o a b =>
    cases e <;> try simp only [ckE, Bool.false_eq_true, Bool.and_eq_true, decide_eq_true_eq] at h
    obtain ⟨⟨rfl, h1⟩, h2⟩ := h
    exact s_bin c.eK (sE a c h1) (sE b c h2)
  | neg a =>
    cases e <;> try simp only [ckE, Bool.false_eq_true] at h
    rename_i q _ _
    cases q <;> try simp only [ckE, Bool.false_eq_true] at h
    exact s_neg (sE a c h)
  | not a =>
    cases e <;> try simp only [ckE, Bool.false_eq_true] at h
    rename_i q _ _
    cases q <;> try simp only [ckE, Bool.false_eq_true] at h
    exact s_not (sE a c h)
  | cmp o a b =>
    cases e <;> try simp only [ckE, Bool.false_eq_true] at h
    rename_i l ops cs pos
    match ops, cs, h with
    | [op], [b'], h =>
      simp only [ckE, Bool.and_eq_true, decide_eq_true_eq, Bool.not_eq_true'] at h
      obtain ⟨⟨⟨rfl, h0⟩, h1⟩, h2⟩ := h
      exact s_cmp c.eK c.hu h0 (sE a c h1) (sE b c h2)
    | [], _, h => simp [ckE] at h
    | _ :: _ :: _, _, h => simp [ckE] at h
    | [_], [], h => simp [ckE] at h
    | [_], _ :: _ :: _, h => simp [ckE] at h
  | chain o o' a b d =>
    unfold ckE at h
    split at h <;> first | contradiction | skip
    rename_i heq
    cases heq
    simp only [Bool.and_eq_true, decide_eq_true_eq, Bool.not_eq_true'] at h
    obtain ⟨⟨⟨⟨⟨rfl, rfl⟩, h0⟩, h1⟩, h2⟩, h3⟩ := h
    exact s_chain c.eK c.hu h0 (sE a c h1) (sE b c h2) (sE d c h3)
  | and as =>
    cases e <;> try simp only [ckE, Bool.false_eq_true] at h
    rename_i o es pos
    cases o <;> simp only [ckE, Bool.false_eq_true] at h
    exact sAnd as c h
  | or as =>
    cases e <;> try simp only [ckE, Bool.false_eq_true] at h
    rename_i o es pos
    cases o <;> simp only [ckE, Bool.false_eq_true] at h
    exact sOr as c h
  | ite a b d =>
    cases e <;> try simp only [ckE, Bool.false_eq_true, Bool.and_eq_true] at h
    exact s_ite (sT a c h.1.1) (sE b c h.1.2) (sE d c h.2)
  | tup as =>
    cases e <;> try simp only [ckE, Bool.false_eq_true] at h
    exact s_tup (sEs as c h)
  | lst cell as =>
    cases e <;> try simp only [ckE, Bool.false_eq_true] at h
    cases cell with
    | true => exact s_lstC (sEs as c h)
    | false => exact s_lst (sEs as c h)
  | ix a i =>
    cases e <;> try simp only [ckE, Bool.false_eq_true, Bool.and_eq_true] at h
    exact s_ix c.eK (plain_ix h.1.1) (sE a c h.1.2) (sE i c h.2)
  | sl a lo hi =>
    cases e <;> try simp only [ckE, Bool.false_eq_true] at h
    rename_i a' i' pos
    cases i' <;> try simp only [ckE, Bool.false_eq_true] at h
    rename_i lo' hi' st p2
    cases st <;> simp only [ckE, Bool.false_eq_true, Bool.and_eq_true] at h
    exact s_sl c.eK (sE a c h.1.1) (sO lo c h.1.2) (sO hi c h.2)
  | call f as =>
    unfold ckE at h
    split at h <;> first | contradiction | skip
    rename_i heq
    cases heq
    simp only [Bool.and_eq_true] at h
    exact pCall c h.1.1.1 h.1.1.2 h.1.2 h.2 (sEs as c h.2)
  | callk j as ks =>
    unfold ckE at h
    split at h <;> first | contradiction | skip
    rename_i heq
    cases heq
    simp only [Bool.and_eq_true] at h
    obtain ⟨⟨⟨⟨h0, h1⟩, h2⟩, h3⟩, h4⟩ := h
    cases e1 : P.shapes[j]? with
    | none => rw [e1] at h0; cases h0
    | some sh =>
      rw [e1] at h0
      simp only [Bool.and_eq_true] at h0
      obtain ⟨hk, h0⟩ := h0
      cases e2 : P.defs[sh.f]? with
      | none => rw [e2] at h0; cases h0
      | some df =>
        rw [e2] at h0
        simp only [decide_eq_true_eq] at h0
        subst h0
        obtain ⟨a, fd, hm, hkp, F, _, hS⟩ := c.def_ sh.f df e2
        have S := hS sh (List.mem_of_getElem? e1) rfl
        rename_i x es kws p pos
        have ev : evE P (callD P k) (.callk j as ks) = fun ρ s => (evEs P (callD P k) as ρ s).bind fun xs s => (evEs P (callD P k) ks ρ s).bind fun ys s => callK sh (callD P k sh.f) xs ys s := by
          funext ρ s
          show (match P.shapes[j]? with | some sh => _ | none => _) = _
          rw [e1]
        rw [ev]
        cases es with
        | nil =>
          cases as with
          | nil => exact s_callk0 F S c.room (gl_of c h1) hm hkp c.takes (fun ds s hl => callD_len e2 ds s hl) hk (sKs ks c h4) (nm_of h2).1
          | cons _ _ => simp [ckEs] at h3
        | cons e es => exact s_callk F S c.room (gl_of c h1) hm hkp c.takes (ckEs_ns h3) (fun ds s hl => callD_len e2 ds s hl) hk (sEs as c h3) (sKs ks c h4) (nm_of h2).1
  | bi b a =>
    unfold ckE at h
    split at h <;> first | contradiction | skip
    rename_i heq
    cases heq
    simp only [Bool.and_eq_true, decide_eq_true_eq] at h
    exact pBi c h.1.1.1 h.1.1.2 h.1.2 (sE a c h.2)
  | isi a many ts =>
    unfold ckE at h
    split at h <;> first | contradiction | skip
    · rename_i heq
      cases heq
      simp only [Bool.and_eq_true, decide_eq_true_eq] at h
      exact pIsi1 c h.1.1.1.1.1 h.1.1.1.1.2 h.1.1.1.2 h.1.1.2 h.1.2 (sE a c h.2)
    · rename_i heq
      cases heq
      simp only [Bool.and_eq_true, decide_eq_true_eq] at h
      exact pIsiT c h.1.1.1.1.1.1 h.1.1.1.1.1.2 h.1.1.1.1.2 h.1.1.1.2 h.1.1.2 h.1.2 (sE a c h.2)
  | met m a as =>
    unfold ckE at h
    split at h <;> first | contradiction | skip
    · rename_i heq
      cases heq
      simp only [Bool.and_eq_true, decide_eq_true_eq] at h
      obtain ⟨⟨⟨⟨⟨rfl, h1⟩, h2⟩, h3⟩, h4⟩, h5⟩ := h
      exact s_append c.eK h3 h1 h2 (sE a c h4) (sEs as c h5)
    · rename_i heq
      cases heq
      simp only [Bool.and_eq_true, decide_eq_true_eq] at h
      obtain ⟨⟨⟨⟨⟨rfl, h1⟩, h2⟩, h3⟩, h4⟩, h5⟩ := h
      exact s_popAt c.eK h3 h1 h2 (sE a c h4) (sEs as c h5)
    · rename_i heq
      cases heq
      simp only [Bool.and_eq_true, decide_eq_true_eq] at h
      obtain ⟨⟨⟨rfl, h1⟩, h2⟩, h3⟩ := h
      exact s_pop c.eK h1 h2 (sE a c h3)
    · rename_i heq
      cases heq
      simp only [Bool.and_eq_true, decide_eq_true_eq] at h
      obtain ⟨⟨⟨⟨⟨rfl, h1⟩, h2⟩, h3⟩, h4⟩, h5⟩ := h
      exact s_rfind h3 h1 h2 (sE a c h4) (sEs as c h5)
    · rename_i heq
      cases heq
      simp only [Bool.and_eq_true, decide_eq_true_eq] at h
      obtain ⟨⟨⟨⟨⟨rfl, h1⟩, h2⟩, h3⟩, h4⟩, h5⟩ := h
      exact s_sindex h3 h1 h2 (sE a c h4) (sEs as c h5)
    · rename_i heq
      cases heq
      simp only [Bool.and_eq_true, decide_eq_true_eq] at h
      obtain ⟨⟨⟨⟨⟨rfl, h1⟩, h2⟩, h3⟩, h4⟩, h5⟩ := h
      exact s_lindex c.eK h3 h1 h2 (sE a c h4) (sEs as c h5)
    · rename_i heq
      cases heq
      simp only [Bool.and_eq_true, decide_eq_true_eq] at h
      obtain ⟨⟨⟨rfl, h1⟩, h2⟩, h3⟩ := h
      exact s_upper h1 h2 (sE a c h3)
    · rename_i heq
      cases heq
      simp only [Bool.and_eq_true, decide_eq_true_eq] at h
      obtain ⟨⟨⟨rfl, h1⟩, h2⟩, h3⟩ := h
      exact s_lower h1 h2 (sE a c h3)
    · rename_i heq
      cases heq
      simp only [Bool.and_eq_true, decide_eq_true_eq] at h
      obtain ⟨⟨⟨⟨⟨rfl, h1⟩, h2⟩, h3⟩, h4⟩, h5⟩ := h
      exact s_join c.eK h3 h1 h2 (sE a c h4) (sEs as c h5)
    · rename_i heq
      cases heq
      simp only [Bool.and_eq_true, decide_eq_true_eq] at h
      obtain ⟨⟨⟨⟨⟨rfl, h1⟩, h2⟩, h3⟩, h4⟩, h5⟩ := h
      exact s_split h3 h1 h2 (sE a c h4) (sEs as c h5)
    · rename_i heq
      cases heq
      simp only [Bool.and_eq_true, decide_eq_true_eq] at h
      obtain ⟨⟨⟨⟨⟨rfl, h1⟩, h2⟩, h3⟩, h4⟩, h5⟩ := h
      exact s_part h3 h1 h2 (sE a c h4) (sEs as c h5)
    · rename_i heq
      cases heq
      simp only [Bool.and_eq_true, decide_eq_true_eq] at h
      obtain ⟨⟨⟨rfl, h1⟩, h2⟩, h3⟩ := h
      exact s_reverse c.eK h1 h2 (sE a c h3)
    · rename_i heq
      cases heq
      simp only [Bool.and_eq_true, decide_eq_true_eq] at h
      obtain ⟨⟨⟨rfl, h1⟩, h2⟩, h3⟩ := h
      exact s_clear c.eK h1 h2 (sE a c h3)
    · rename_i heq
      cases heq
      simp only [Bool.and_eq_true, decide_eq_true_eq] at h
      obtain ⟨⟨⟨⟨⟨⟨rfl, h1⟩, h2⟩, h3⟩, h4⟩, h5⟩, h6⟩ := h
      exact s_insert c.eK h3 h4 h1 h2 (sE a c h5) (sEs as c h6)
  | fstr ps =>
    cases e <;> try simp only [ckE, Bool.false_eq_true, Bool.and_eq_true, decide_eq_true_eq] at h
    rename_i vs pos
    obtain ⟨h1, h2⟩ := h
    have q := sPs ps c h2
    match vs, h1, q with
    | v1 :: v2 :: rest, _, q =>
      have ev : evE P (callD P k) (.fstr ps) = evFL (ps.map (evE P (callD P k))) [] := by
        funext ρ s
        rw [evE, evFs_eq]
      rw [ev]
      exact s_fstr q
  | fmt a =>
    cases e <;> try simp only [ckE, Bool.false_eq_true] at h
    rename_i a' i sp pos
    cases sp <;> simp only [ckE, Bool.false_eq_true, Bool.and_eq_true, decide_eq_true_eq] at h
    obtain ⟨rfl, h⟩ := h
    exact s_fmt (sE a c h)
  | rev a =>
    unfold ckE at h
    split at h <;> first | contradiction | skip
    rename_i heq
    cases heq
    simp only [Bool.and_eq_true, decide_eq_true_eq] at h
    obtain ⟨rfl, h1⟩ := h
    exact s_rev c.eK (sE a c h1)
  | mk a =>
    unfold ckE at h
    split at h <;> first | contradiction | skip
    rename_i heq
    cases heq
    simp only [Bool.and_eq_true, decide_eq_true_eq] at h
    obtain ⟨⟨⟨rfl, h1⟩, h2⟩, h3⟩ := h
    exact s_mk c.eK c.calm (gl_of c h1) (c.mgb _ (b_mem .list)) h2 (sE a c h3)
  | told j e =>
    unfold ckE at h
    split at h <;> first | contradiction | skip
    rename_i heq
    cases heq
    simp only [Bool.and_eq_true, decide_eq_true_eq] at h
    obtain ⟨⟨⟨⟨⟨⟨h0, h1⟩, h2⟩, h3⟩, h4⟩, h5⟩, h6⟩ := h
    exact pTold c h0 h1 h2 h3 h4 (LamX.lamS_by h5) h6 fun B => sE e B h6
  | comp cell d own tg kk src cc =>
    unfold ckE at h
    split at h <;> first | contradiction | skip
    rename_i pos heq
    cases heq
    simp only [Bool.and_eq_true, decide_eq_true_eq, List.all_eq_true] at h
    obtain ⟨⟨⟨⟨⟨⟨⟨hk, hb⟩, ht⟩, hit⟩, h1⟩, h2⟩, h3⟩, h4⟩ := h
    have hK := c.eK
    have B := fun s H C cl fp => c.blk hk s H C cl fp
    have q := s_comp (pos := pos) (W := W) (own := ownL N own) (tgs := tg) c.calm (by rw [c.eN]; exact c.nd) (sI kk src c h2) (by rw [c.eN, c.eS]; exact blkOk_by hb) (tg_tk h1) (by rw [own_map]; exact ht)
      (fun s H C cl fp => tg_ok (B s H C cl fp).eN (B s H C cl fp).nd (B s H C cl fp).eK (B s H C cl fp).calm (fun x hx => by rw [(B s H C cl fp).eS]; exact relS_loc hx) h1)
      (fun s H C cl fp => sC cc (B s H C cl fp) h3) (fun s H C cl fp => sE d (B s H C cl fp) h4) (folded hit)
    rw [own_map] at q
    exact q
theorem sT (m : E) : ∀ {lm : Bool} {sc : Scope} {W : WX} {X : Cx} {e : Expr}, CxE P Γ k N lm sc W X → ckE P N lm sc m e = true → PT X e (dT Γ W (evT P (callD P k) m)) := by
  intro lm sc W X e c h
  cases m with
  | var i =>
    cases e <;> try simp only [ckE, Bool.false_eq_true, Bool.and_eq_true, decide_eq_true_eq] at h
    exact s_truth c.eK (s_var (pe_var (by rw [c.eN]; exact h.1.1) (vis_of c h.1.2) (nm_of h.2).1 (nm_of h.2).2)) (fun _ => rfl)
  | not a =>
    cases e <;> try simp only [ckE, Bool.false_eq_true] at h
    rename_i q _ _
    cases q <;> try simp only [ckE, Bool.false_eq_true] at h
    exact s_tnot (sT a c h)
  | cmp o a b =>
    unfold ckE at h
    split at h <;> first | contradiction | skip
    rename_i heq
    cases heq
    simp only [ckE, Bool.and_eq_true, decide_eq_true_eq, Bool.not_eq_true'] at h
    obtain ⟨⟨⟨rfl, h0⟩, h1⟩, h2⟩ := h
    exact s_tcmp c.eK c.hu h0 (sE a c h1) (sE b c h2)
  | chain o o' a b d =>
    unfold ckE at h
    split at h <;> first | contradiction | skip
    rename_i heq
    cases heq
    simp only [Bool.and_eq_true, decide_eq_true_eq, Bool.not_eq_true'] at h
    obtain ⟨⟨⟨⟨⟨rfl, rfl⟩, h0⟩, h1⟩, h2⟩, h3⟩ := h
    exact s_tchain c.eK c.hu h0 (sE a c h1) (sE b c h2) (sE d c h3)
  | and as =>
    cases e <;> try simp only [ckE, Bool.false_eq_true] at h
    rename_i o es pos
    cases o <;> simp only [ckE, Bool.false_eq_true] at h
    exact (sTAnd as c h).pt
  | or as =>
    cases e <;> try simp only [ckE, Bool.false_eq_true] at h
    rename_i o es pos
    cases o <;> simp only [ckE, Bool.false_eq_true] at h
    exact (sTOr as c h).pt
  | call f as =>
    unfold ckE at h
    split at h <;> first | contradiction | skip
    rename_i heq
    cases heq
    simp only [Bool.and_eq_true] at h
    exact s_truth c.eK (pCall c h.1.1.1 h.1.1.2 h.1.2 h.2 (sEs as c h.2)) (fun _ => rfl)
  | bi b a =>
    unfold ckE at h
    split at h <;> first | contradiction | skip
    rename_i heq
    cases heq
    simp only [Bool.and_eq_true, decide_eq_true_eq] at h
    exact s_truth c.eK (pBi c h.1.1.1 h.1.1.2 h.1.2 (sE a c h.2)) (fun _ => rfl)
  | isi a many ts =>
    unfold ckE at h
    split at h <;> first | contradiction | skip
    · rename_i heq
      cases heq
      simp only [Bool.and_eq_true, decide_eq_true_eq] at h
      exact s_truth c.eK (pIsi1 c h.1.1.1.1.1 h.1.1.1.1.2 h.1.1.1.2 h.1.1.2 h.1.2 (sE a c h.2)) (fun _ => rfl)
    · rename_i heq
      cases heq
      simp only [Bool.and_eq_true, decide_eq_true_eq] at h
      exact s_truth c.eK (pIsiT c h.1.1.1.1.1.1 h.1.1.1.1.1.2 h.1.1.1.1.2 h.1.1.1.2 h.1.1.2 h.1.2 (sE a c h.2)) (fun _ => rfl)
  | _ => exact pt_stuck
theorem sI (kk : G.It) (src : List E) : ∀ {lm : Bool} {sc : Scope} {W : WX} {X : Cx} {tg e : Expr}, CxE P Γ k N lm sc W X → ckI P N lm sc kk src tg e = true → PI X tg e (dI Γ W fun ρ s => (evEs P (callD P k) src ρ s).bind fun ds s => R.of (srcF kk s ds) s) := by
  intro lm sc W X tg e c h
  match src with
  | [] => cases kk <;> simp [ckI] at h
  | [a] =>
    cases kk with
    | seq => exact s_iseq' c.eK (sE a c (by simpa [ckI] using h))
    | range1 =>
      obtain ⟨x, p, e', pos, rfl, rfl, h1, h2, h3⟩ := inv_r1 h
      exact s_irng1 (gl_of c h1) (c.mgb _ (by decide +kernel)) h2 (s_cons h2 (sE a c h3) s_nil)
    | range2 => simp [ckI] at h
    | range3 => simp [ckI] at h
    | enum =>
      obtain ⟨es, kk, tp, x, p, e', pos, rfl, rfl, rfl, h1, h2, h3⟩ := inv_en h
      exact s_ienum c.eK (gl_of c h1) (c.mgb _ (by decide +kernel)) h2 (s_cons h2 (sE a c h3) s_nil)
  | [a, b] =>
    cases kk with
    | range2 =>
      obtain ⟨x, p, e', e2, pos, rfl, rfl, h1, h2, h3, h4, h5⟩ := inv_r2 h
      exact s_irng2 (gl_of c h1) (c.mgb _ (by decide +kernel)) h2 h3 (s_cons h2 (sE a c h4) (s_cons h3 (sE b c h5) s_nil))
    | seq => simp [ckI] at h
    | range1 => simp [ckI] at h
    | range3 => simp [ckI] at h
    | enum => simp [ckI] at h
  | [a, b, d] =>
    cases kk with
    | range3 =>
      obtain ⟨x, p, e', e2, e3, pos, rfl, rfl, h1, h2, h3, h4, h5, h6, h7⟩ := inv_r3 h
      exact s_irng3 (gl_of c h1) (c.mgb _ (by decide +kernel)) h2 h3 h4 (s_cons h2 (sE a c h5) (s_cons h3 (sE b c h6) (s_cons h4 (sE d c h7) s_nil)))
    | seq => simp [ckI] at h
    | range1 => simp [ckI] at h
    | range2 => simp [ckI] at h
    | enum => simp [ckI] at h
  | _ :: _ :: _ :: _ :: _ => cases kk <;> simp [ckI] at h
theorem sC (m : Option E) : ∀ {lm : Bool} {sc : Scope} {W : WX} {X : Cx} {o : List Expr}, CxE P Γ k N lm sc W X → ckC P N lm sc m o = true → PTs X o (dT Γ W (evC P (callD P k) m)) := by
  intro lm sc W X o c h
  match m, o, h with
  | none, [], h => exact ⟨fun pins s σ H Q I ⟨φ, ρ, s0, er, rel, go⟩ => pts_nil.run pins s σ H Q I (go φ H (.refl _ _) rel)⟩
  | some m, [e], h =>
    exact pts_one (sT m c (by simpa [ckC] using h))
  | none, _ :: _, h => simp [ckC] at h
  | some _, [], h => simp [ckC] at h
  | some _, _ :: _ :: _, h => simp [ckC] at h
theorem sKs (ms : List E) : ∀ {lm : Bool} {sc : Scope} {W : WX} {X : Cx} {es : List Keyword}, CxE P Γ k N lm sc W X → ckKs P N lm sc ms es = true → PK X es (dA Γ W (evEs P (callD P k) ms)) := by
  intro lm sc W X es c h
  cases ms with
  | nil =>
    cases es <;> simp only [ckKs, Bool.false_eq_true] at h
    exact s_knil
  | cons m ms =>
    cases es with
    | nil => simp [ckKs] at h
    | cons kw es =>
      obtain ⟨nm, e, kp⟩ := kw
      simp only [ckKs, Bool.and_eq_true] at h
      exact s_kcons (sE m c h.1) (sKs ms c h.2)
theorem sTAnd (ms : List E) : ∀ {lm : Bool} {sc : Scope} {W : WX} {X : Cx} {es : List Expr} {pos : Pos}, CxE P Γ k N lm sc W X → ckEs P N lm sc ms es = true → PW X (.BoolOp .And es pos) (dT Γ W (evTAnd P (callD P k) ms)) := by
  intro lm sc W X es pos c h
  match ms, es, h with
  | [], _, _ => exact pw_stuck
  | [m], [e], h =>
    simp only [ckEs, Bool.and_eq_true] at h
    exact s_tand1 (sT m c h.1.2)
  | m :: m2 :: r, e :: e2 :: es, h =>
    simp only [ckEs, Bool.and_eq_true] at h
    refine s_tand (sT m c h.1.2) (sTAnd (m2 :: r) c ?_)
    simp only [ckEs, Bool.and_eq_true]
    exact h.2
  | [_], [], h => simp [ckEs] at h
  | [_], _ :: _ :: _, h => simp [ckEs] at h
  | _ :: _ :: _, [], h => simp [ckEs] at h
  | _ :: _ :: _, [_], h => simp [ckEs] at h
theorem sTOr (ms : List E) : ∀ {lm : Bool} {sc : Scope} {W : WX} {X : Cx} {es : List Expr} {pos : Pos}, CxE P Γ k N lm sc W X → ckEs P N lm sc ms es = true → PW X (.BoolOp .Or es pos) (dT Γ W (evTOr P (callD P k) ms)) := by
  intro lm sc W X es pos c h
  match ms, es, h with
  | [], _, _ => exact pw_stuck
  | [m], [e], h =>
    simp only [ckEs, Bool.and_eq_true] at h
    exact s_tor1 (sT m c h.1.2)
  | m :: m2 :: r, e :: e2 :: es, h =>
    simp only [ckEs, Bool.and_eq_true] at h
    refine s_tor (sT m c h.1.2) (sTOr (m2 :: r) c ?_)
    simp only [ckEs, Bool.and_eq_true]
    exact h.2
  | [_], [], h => simp [ckEs] at h
  | [_], _ :: _ :: _, h => simp [ckEs] at h
  | _ :: _ :: _, [], h => simp [ckEs] at h
  | _ :: _ :: _, [_], h => simp [ckEs] at h
theorem sEs (ms : List E) : ∀ {lm : Bool} {sc : Scope} {W : WX} {X : Cx} {es : List Expr}, CxE P Γ k N lm sc W X → ckEs P N lm sc ms es = true → PA X es (dA Γ W (evEs P (callD P k) ms)) := by
  intro lm sc W X es c h
  cases ms with
  | nil => 
    cases es <;> simp only [ckEs, Bool.false_eq_true] at h
    exact s_nil
  | cons m ms =>
    cases es <;> simp only [ckEs, Bool.false_eq_true, Bool.and_eq_true] at h
    exact s_cons h.1.1 (sE m c h.1.2) (sEs ms c h.2)
theorem sPs (ms : List E) : ∀ {lm : Bool} {sc : Scope} {W : WX} {X : Cx} {es : List Expr}, CxE P Γ k N lm sc W X → ckEs P N lm sc ms es = true → PJs X Γ W es (ms.map (evE P (callD P k))) := by
  intro lm sc W X es c h
  cases ms with
  | nil =>
    cases es <;> simp only [ckEs, Bool.false_eq_true] at h
    exact .nil
  | cons m ms =>
    cases es <;> simp only [ckEs, Bool.false_eq_true, Bool.and_eq_true] at h
    exact .cons (sE m c h.1.2) (sPs ms c h.2)
theorem sO (m : Option E) : ∀ {lm : Bool} {sc : Scope} {W : WX} {X : Cx} {o : Option Expr}, CxE P Γ k N lm sc W X → ckO P N lm sc m o = true → PO X o (dO Γ W (evO P (callD P k) m)) := by
  intro lm sc W X o c h
  cases m with
  | none =>
    cases o <;> simp only [ckO, Bool.false_eq_true] at h
    exact s_onone
  | some m =>
    cases o <;> simp only [ckO, Bool.false_eq_true] at h
    exact s_osome (sE m c h)
theorem sAnd (ms : List E) : ∀ {lm : Bool} {sc : Scope} {W : WX} {X : Cx} {es : List Expr} {pos : Pos}, CxE P Γ k N lm sc W X → ckEs P N lm sc ms es = true → PE X (.BoolOp .And es pos) (dE Γ W (evAnd P (callD P k) ms)) := by
  intro lm sc W X es pos c h
  match ms, es, h with
  | [], _, _ => exact pe_stuck
  | [m], [e], h =>
    simp only [ckEs, Bool.and_eq_true] at h
    exact s_one (sE m c h.1.2)
  | m :: m2 :: r, e :: e2 :: es, h =>
    have h' := h
    simp only [ckEs, Bool.and_eq_true] at h
    refine s_and (sE m c h.1.2) (sAnd (m2 :: r) c ?_)
    simp only [ckEs, Bool.and_eq_true]
    exact h.2
  | [_], [], h => simp [ckEs] at h
  | [_], _ :: _ :: _, h => simp [ckEs] at h
  | _ :: _ :: _, [], h => simp [ckEs] at h
  | _ :: _ :: _, [_], h => simp [ckEs] at h
theorem sOr (ms : List E) : ∀ {lm : Bool} {sc : Scope} {W : WX} {X : Cx} {es : List Expr} {pos : Pos}, CxE P Γ k N lm sc W X → ckEs P N lm sc ms es = true → PE X (.BoolOp .Or es pos) (dE Γ W (evOr P (callD P k) ms)) := by
  intro lm sc W X es pos c h
  match ms, es, h with
  | [], _, _ => exact pe_stuck
  | [m], [e], h =>
    simp only [ckEs, Bool.and_eq_true] at h
    exact s_one (sE m c h.1.2)
  | m :: m2 :: r, e :: e2 :: es, h =>
    have h' := h
    simp only [ckEs, Bool.and_eq_true] at h
    refine s_or (sE m c h.1.2) (sOr (m2 :: r) c ?_)
    simp only [ckEs, Bool.and_eq_true]
    exact h.2
  | [_], [], h => simp [ckEs] at h
  | [_], _ :: _ :: _, h => simp [ckEs] at h
  | _ :: _ :: _, [], h => simp [ckEs] at h
  | _ :: _ :: _, [_], h => simp [ckEs] at h
end
end
end G

set_option Elab.async false
set_option linter.all false
set_option maxRecDepth 100000
set_option maxHeartbeats 0
/-! Statements, defs, the whole program. -/
namespace G
open PySem L2

/-- whether name = value is stored within the comprehension -/
def swV (sc : Scope) (t : Str) (p : Pos) : Expr → Option Bool
  | .ListComp _ _ s q => some (locB sc t && p.line == q.line && !(s.names.any fun (n, k) => n == t && (k == .local || k == .cell)))
  | .SetComp .. => none
  | .DictComp .. => none
  | _ => some false
theorem swV_ok {env : PySem.Env} {t : Str} {p : Pos} {e : Expr} {l : Nat} {b : Bool} (hk : env.scope.kind = .function) (h : swV env.scope t p e = some b) : swapsWith e (some (.Name t p)) l env = pure b := by
  cases e <;> try (simp only [swV, Option.some.injEq] at h; subst h; rfl)
  case ListComp a1 a2 s q =>
    simp only [swV, Option.some.injEq] at h
    subst h
    have hb : env.blockKind = .function := by unfold Env.blockKind; rw [hk]; rfl
    unfold swapsWith
    simp only [hb, Expr.pos]
    have e1 : (env.kindOf t == some NameKind.local) = locB env.scope t := by
      show (env.scope.names.lookup t == some NameKind.local) = _
      unfold locB
      cases q : env.scope.names.lookup t with
      | none => rfl
      | some k => cases k <;> rfl
    rw [e1]
    rfl
  case SetComp => simp [swV] at h
  case DictComp => simp [swV] at h
section
variable (N : List Str) (sc : Scope)
/-- names that may be cells -/
def tgC : List Nat → List Expr → Bool
  | [], [] => true
  | i :: is, .Name x _ :: es => decide (N[i]? = some x) && (locB sc x || celB sc x) && tgC is es
  | _, _ => false
def ckTgC : List Nat → Expr → Bool
  | [i], .Name x _ => decide (N[i]? = some x) && (locB sc x || celB sc x)
  | is, .Tuple es _ _ => decide (2 ≤ is.length) && tgC N sc is es
  | _, _ => false
end
section
variable (P : Prog) (N : List Str) (lm : Bool) (sc : Scope)
mutual
def ckS : S → Stmt → Bool
  | .set i e, .Assign [.Name x p] v _ => decide (N[i]? = some x) && (locB sc x || celB sc x) && (swV sc x p v).isSome && ckE P N lm sc e v
  | .par is as, .Assign [.Tuple tes _ _] (.Tuple es _ _) _ => ckEs P N lm sc as es && (match swK sc tes es with
    | some none => decide (2 ≤ is.length) && decide (is.length ≤ 100) && tgC N sc is tes
    | some (some _) => tgB N sc is tes && decide (is.Nodup) && (decide (swK sc tes es = some (some (is.map fun i => N.getD i Str.empty))))
    | none => false)
  | .unp is e, .Assign [.Tuple tes _ _] v _ => decide (2 ≤ is.length) && tgC N sc is tes && ncomp v && ntup v && ckE P N lm sc e v
  | .setix o i e, .Assign [.Subscript o' i' _] v _ => nsl i' && ncomp v && ckE P N lm sc o o' && ckE P N lm sc i i' && ckE P N lm sc e v
  | .expr e, .Expr v _ => ncomp v && ckE P N lm sc e v
  | .ret e, .Return (some v) _ => ckE P N lm sc e v
  | .retN, .Return none _ => true
  | .ite c a b, .If c' a' b' _ => ckE P N lm sc c c' && ckSs a a' && ckSs b b'
  | .for tg k src b, .For t it b' [] _ => itB it && ckTgC N sc tg t && ckI P N lm sc k src t it && ckSs b b'
  | .while c b, .While c' b' [] _ => ckE P N lm sc c c' && ckSs b b'
  | .pass, .Pass _ => true
  | .brk, .Break _ => true
  | .cont, .Continue _ => true
  | .aug i .add e, .AugAssign (.Name x _) .Add v _ => decide (N[i]? = some x) && (locB sc x || celB sc x) && ckE P N lm sc e v
  | .raise c as, .Raise (some (.Call (.Name x _) es [] _)) none _ => (match P.xcls[c]? with | some xc => decide (x = tS xc.name) | none => false) && glB sc x && nmB x && ckEs P N lm sc as es
  | .never, _ => true
  | _, _ => false
def ckSs : List S → List Stmt → Bool
  | [], [] => true
  | a :: as, s :: ss => ckS a s && ckSs as ss
  | _, _ => false
end
end

/-- what a statement's context knows -/
structure CxS (P : Prog) (Γ : Gm) (k : Nat) (N : List Str) (lm : Bool) (sc : Scope) (W : WX) (X : Cx) : Prop where
  e : CxE P Γ k N lm sc W X
  po : PassesOwn (model X.prog X.w) X.A X.env X.xe
  fn : ∀ x, X.fn x = true
section
variable {P : Prog} {Γ : Gm} {k : Nat} {N : List Str} {lm : Bool} {sc : Scope} {W : WX} {X : Cx}
theorem loc_or (c : CxE P Γ k N lm sc W X) {x : Str} (h : (locB sc x || celB sc x) = true) : Loc X.env.scope x := by
  simp only [Bool.or_eq_true] at h
  rcases h with h | h
  · exact .inl (loc_of c h)
  · rw [c.eS]
    unfold celB at h
    split at h
    · exact .inr (by assumption)
    · cases h
theorem tgC_pgs (c : CxS P Γ k N lm sc W X) : ∀ {is : List Nat} {es : List Expr}, tgC N sc is es = true → PGs X es (gNames is) ∧ (assignEach es X.env).length = is.length ∧ (assignEach es X.env).findIdx? (·.1) = none
  | [], [], _ => ⟨pgs_nil, rfl, rfl⟩
  | i :: is, .Name x p :: es, h => by
    simp only [tgC, Bool.and_eq_true, decide_eq_true_eq] at h
    obtain ⟨h1, h2, h3⟩ := tgC_pgs c h.2
    refine ⟨pgs_cons (pg_name (by rw [c.e.eN]; exact c.e.nd) (by rw [c.e.eN]; exact h.1.1) (loc_or c.e h.1.2) (.inl (c.fn x))) h1, ?_, ?_⟩
    · show (assignEach es X.env).length + 1 = is.length + 1
      rw [h2]
    · show List.findIdx? _ ((false, assign (.Name x p) X.env) :: assignEach es X.env) = none
      rw [List.findIdx?_cons]
      simp [h3]
  | [], _ :: _, h => by simp [tgC] at h
  | _ :: _, [], h => by simp [tgC] at h
  | _ :: _, .BoolOp .. :: _, h => by simp [tgC] at h
  | _ :: _, .NamedExpr .. :: _, h => by simp [tgC] at h
  | _ :: _, .BinOp .. :: _, h => by simp [tgC] at h
  | _ :: _, .UnaryOp .. :: _, h => by simp [tgC] at h
  | _ :: _, .Lambda .. :: _, h => by simp [tgC] at h
  | _ :: _, .IfExp .. :: _, h => by simp [tgC] at h
  | _ :: _, .Dict .. :: _, h => by simp [tgC] at h
  | _ :: _, .Set .. :: _, h => by simp [tgC] at h
  | _ :: _, .ListComp .. :: _, h => by simp [tgC] at h
  | _ :: _, .SetComp .. :: _, h => by simp [tgC] at h
  | _ :: _, .DictComp .. :: _, h => by simp [tgC] at h
  | _ :: _, .GeneratorExp .. :: _, h => by simp [tgC] at h
  | _ :: _, .Await .. :: _, h => by simp [tgC] at h
  | _ :: _, .Yield .. :: _, h => by simp [tgC] at h
  | _ :: _, .YieldFrom .. :: _, h => by simp [tgC] at h
  | _ :: _, .Compare .. :: _, h => by simp [tgC] at h
  | _ :: _, .Call .. :: _, h => by simp [tgC] at h
  | _ :: _, .FormattedValue .. :: _, h => by simp [tgC] at h
  | _ :: _, .JoinedStr .. :: _, h => by simp [tgC] at h
  | _ :: _, .Constant .. :: _, h => by simp [tgC] at h
  | _ :: _, .Attribute .. :: _, h => by simp [tgC] at h
  | _ :: _, .Subscript .. :: _, h => by simp [tgC] at h
  | _ :: _, .Starred .. :: _, h => by simp [tgC] at h
  | _ :: _, .List .. :: _, h => by simp [tgC] at h
  | _ :: _, .Tuple .. :: _, h => by simp [tgC] at h
  | _ :: _, .Slice .. :: _, h => by simp [tgC] at h
/-- a tuple of names -/
theorem tgC_pg (c : CxS P Γ k N lm sc W X) {is : List Nat} {es : List Expr} {kk} {tp : Pos} (h : tgC N sc is es = true) : PG X (.Tuple es kk tp) (gTup X.K is.length (gNames is)) := by
  obtain ⟨h1, h2, h3⟩ := tgC_pgs c h
  exact pg_tup c.e.calm h1 h2 h3
theorem tgC_ok (c : CxS P Γ k N lm sc W X) {tg : List Nat} {t : Expr} (h : ckTgC N sc tg t = true) : ∃ g, PG X t g ∧ TgOk Γ tg g := by
  unfold ckTgC at h
  split at h
  · simp only [Bool.and_eq_true, decide_eq_true_eq] at h
    exact ⟨_, pg_name (by rw [c.e.eN]; exact c.e.nd) (by rw [c.e.eN]; exact h.1) (loc_or c.e h.2) (.inl (c.fn _)), tg_one⟩
  · simp only [Bool.and_eq_true, decide_eq_true_eq] at h
    refine ⟨gTup Γ.K _ (gNames _), ?_, tg_tup rfl h.1⟩
    rw [← c.e.eK]
    exact tgC_pg c h.2
  · cases h
theorem lcInv {m : E} {e1 : Expr} {ts} {s : Scope} {q : Pos} (h : ckE P N lm sc m (.ListComp e1 ts s q) = true) : ∃ d own tg kk src cc t it ifs, m = .comp false d own tg kk src cc ∧ ts = [⟨t, it, ifs, 0⟩] ∧
    s.kind = .function ∧ blkC N sc s (ownL N own) = true ∧ (∀ i ∈ tg, i ∈ own) ∧ itB it = true ∧ ckTg P N s tg t = true ∧ ckI P N lm sc kk src t it = true ∧ ckC P N false (relS s sc) cc ifs = true ∧ ckE P N false (relS s sc) d e1 = true := by
  unfold ckE at h
  split at h <;> first | contradiction | skip
  rename_i heq
  cases heq
  simp only [Bool.and_eq_true, decide_eq_true_eq, List.all_eq_true] at h
  obtain ⟨⟨⟨⟨⟨⟨⟨hk, hb⟩, ht⟩, hit⟩, h1⟩, h2⟩, h3⟩, h4⟩ := h
  exact ⟨_, _, _, _, _, _, _, _, _, rfl, rfl, hk, hb, ht, hit, h1, h2, h3, h4⟩
theorem pSet (c : CxS P Γ k N lm sc W X) {i : Nat} {m : E} {x : Str} {p pos : Pos} {v : Expr} (h1 : N[i]? = some x) (h2 : (locB sc x || celB sc x) = true) (h3 : (swV sc x p v).isSome = true) (h4 : ckE P N lm sc m v = true) : PS X (.Assign [.Name x p] v pos) (dS Γ W (evS P (callD P k) (.set i m))) := by
  obtain ⟨b, hb⟩ := Option.isSome_iff_exists.mp h3
  have hN : X.N.Nodup := by rw [c.e.eN]; exact c.e.nd
  have hi : X.N[i]? = some x := by rw [c.e.eN]; exact h1
  have hsw := swV_ok (env := X.env) (l := pos.line) (by rw [c.e.eS]; exact c.e.kf) (by rw [c.e.eS]; exact hb)
  cases b with
  | false =>
    exact (ps_set hN hi (loc_or c.e h2) (sE m c.e h4) hsw (.inl (c.fn x))).mono fun D σ H ⟨φ, ρ, s, er, rel, go⟩ =>
      ⟨φ, ρ, s, er, rel, (go.st er).imp fun x s1 φ1 H1 a1 r1 go1 v hv => go1.here r1 ((er.mono a1).set hv i)⟩
  | true =>
    cases v <;> try (simp [swV] at hb; done)
    rename_i e1 ts s q
    obtain ⟨d, own, tg, kk, src, cc, t, it, ifs, rfl, rfl, hk, hbk, ht, hit, g1, g2, g3, g4⟩ := lcInv h4
    have hl : X.env.scope.names.lookup x = some .local := by
      simp only [swV, Option.some.injEq, Bool.and_eq_true] at hb
      exact loc_of c.e hb.1.1
    have B := fun s' H C cl fp => c.e.blk hk s' H C cl fp
    have qq := ss_lc (pos := q) (spos := pos) (W := W) (own := ownL N own) (tgs := tg) c.e.calm hN hi hl hsw (sI kk src c.e g2) (by rw [c.e.eN, c.e.eS]; exact blkOk_by hbk) (tg_tk g1) (by rw [own_map]; exact ht)
      (fun s H C cl fp => tg_ok (B s H C cl fp).eN (B s H C cl fp).nd (B s H C cl fp).eK (B s H C cl fp).calm (fun x hx => by rw [(B s H C cl fp).eS]; exact relS_loc hx) g1)
      (fun s H C cl fp => sC cc (B s H C cl fp) g3) (fun s H C cl fp => sE d (B s H C cl fp) g4) (folded hit)
    rw [own_map] at qq
    exact qq
theorem len2 {α : Type} {l : List α} (h : l.length = 2) : ∃ a b, l = [a, b] := by
  match l, h with
  | [a, b], _ => exact ⟨a, b, rfl⟩
theorem len3 {α : Type} {l : List α} (h : l.length = 3) : ∃ a b c, l = [a, b, c] := by
  match l, h with
  | [a, b, c], _ => exact ⟨a, b, c, rfl⟩
theorem tgB_inv {i : Nat} {is : List Nat} {e : Expr} {es : List Expr} (h : tgB N sc (i :: is) (e :: es) = true) : ∃ x p, e = .Name x p ∧ N[i]? = some x ∧ locB sc x = true ∧ tgB N sc is es = true := by
  cases e <;> simp only [tgB, Bool.false_eq_true, Bool.and_eq_true, decide_eq_true_eq] at h
  exact ⟨_, _, rfl, h.1.1, h.1.2, h.2⟩
theorem pPar (c : CxS P Γ k N lm sc W X) {is : List Nat} {as : List E} {tes es : List Expr} {kt k2 pt p2 pos} (h1 : ckEs P N lm sc as es = true) (h2 : (match swK sc tes es with
    | some none => decide (2 ≤ is.length) && decide (is.length ≤ 100) && tgC N sc is tes
    | some (some _) => tgB N sc is tes && decide (is.Nodup) && (decide (swK sc tes es = some (some (is.map fun i => N.getD i Str.empty))))
    | none => false) = true) : PS X (.Assign [.Tuple tes kt pt] (.Tuple es k2 p2) pos) (dS Γ W (evS P (callD P k) (.par is as))) := by
  have ha := sEs as c.e h1
  have hb : X.env.scope.kind = .function := by rw [c.e.eS]; exact c.e.kf
  have hN : X.N.Nodup := by rw [c.e.eN]; exact c.e.nd
  split at h2
  · rename_i q
    simp only [Bool.and_eq_true, decide_eq_true_eq] at h2
    exact ss_parN c.e.calm c.e.eK rfl h2.1.1 h2.1.2 (tgC_pg c h2.2) hb ha (by rw [c.e.eS]; exact q)
  · simp only [Bool.and_eq_true, decide_eq_true_eq] at h2
    obtain ⟨⟨t1, t2⟩, t3⟩ := h2
    have l1 := tgB_len t1
    have lq : (tes.length = 2 ∨ tes.length = 3) ∧ es.length = tes.length := by
      unfold swK at t3
      split at t3
      · cases t3
      · rename_i q
        simp only [Bool.or_eq_true, Bool.not_eq_true', Bool.or_eq_false_iff, beq_eq_false_iff_ne, bne_iff_ne, ne_eq, not_or, not_and] at q
        constructor
        · by_cases e : tes.length = 2
          · exact .inl e
          · exact .inr (Classical.byContradiction fun e3 => absurd e3 (by simpa using q.1 e))
        · exact Classical.byContradiction fun e3 => q.2 e3
    obtain ⟨lq, le⟩ := lq
    rcases lq with lq | lq
    · obtain ⟨u, v, rfl⟩ := len2 lq
      obtain ⟨a, b, rfl⟩ := len2 le
      obtain ⟨i, j, rfl⟩ := len2 l1
      · 
        obtain ⟨x, px, rfl, n1, k1, t1⟩ := tgB_inv t1
        obtain ⟨y, py, rfl, n2, k2, t1⟩ := tgB_inv t1
        simp only [List.nodup_cons, List.mem_singleton, List.not_mem_nil, not_false_eq_true, List.nodup_nil, and_true] at t2
        have e1 : N.getD i Str.empty = x := by rw [List.getD_eq_getElem?_getD, n1]; rfl
        have e2 : N.getD j Str.empty = y := by rw [List.getD_eq_getElem?_getD, n2]; rfl
        simp only [List.map_cons, List.map_nil, e1, e2] at t3
        exact ss_par2 c.e.calm hN (by rw [c.e.eN]; exact n1) (by rw [c.e.eN]; exact n2) t2 hb (loc_of c.e k1) (loc_of c.e k2) ha (by rw [c.e.eS]; exact t3)
    · obtain ⟨u, v, w, rfl⟩ := len3 lq
      obtain ⟨a, b, d, rfl⟩ := len3 le
      obtain ⟨i, j, l, rfl⟩ := len3 l1
      · 
        obtain ⟨x, px, rfl, n1, k1, t1⟩ := tgB_inv t1
        obtain ⟨y, py, rfl, n2, k2, t1⟩ := tgB_inv t1
        obtain ⟨z, pz, rfl, n3, k3, t1⟩ := tgB_inv t1
        simp only [List.nodup_cons, List.mem_cons, List.mem_singleton, List.not_mem_nil, or_false, not_or, not_false_eq_true, List.nodup_nil, and_true] at t2
        have e1 : N.getD i Str.empty = x := by rw [List.getD_eq_getElem?_getD, n1]; rfl
        have e2 : N.getD j Str.empty = y := by rw [List.getD_eq_getElem?_getD, n2]; rfl
        have e3 : N.getD l Str.empty = z := by rw [List.getD_eq_getElem?_getD, n3]; rfl
        simp only [List.map_cons, List.map_nil, e1, e2, e3] at t3
        exact ss_par3 c.e.calm hN (by rw [c.e.eN]; exact n1) (by rw [c.e.eN]; exact n2) (by rw [c.e.eN]; exact n3) t2.1.1 t2.1.2 t2.2 hb (loc_of c.e k1) (loc_of c.e k2) (loc_of c.e k3) ha (by rw [c.e.eS]; exact t3)
  · cases h2

theorem inv_for {tg : List Nat} {kk : G.It} {src : List E} {b : List S} {st : Stmt} (h : ckS P N lm sc (.for tg kk src b) st = true) : ∃ t it b' pos, st = .For t it b' [] pos ∧ itB it = true ∧ ckTgC N sc tg t = true ∧ ckI P N lm sc kk src t it = true ∧ ckSs P N lm sc b b' = true := by
  unfold ckS at h
  split at h <;> first | contradiction | skip
  rename_i heq
  cases heq
  simp only [Bool.and_eq_true] at h
  exact ⟨_, _, _, _, rfl, h.1.1.1, h.1.1.2, h.1.2, h.2⟩
theorem inv_while {d : E} {b : List S} {st : Stmt} (h : ckS P N lm sc (.while d b) st = true) : ∃ d' b' pos, st = .While d' b' [] pos ∧ ckE P N lm sc d d' = true ∧ ckSs P N lm sc b b' = true := by
  unfold ckS at h
  split at h <;> first | contradiction | skip
  rename_i heq
  cases heq
  simp only [Bool.and_eq_true] at h
  exact ⟨_, _, _, rfl, h.1, h.2⟩
theorem pRaise (c : CxS P Γ k N lm sc W X) {cc : Nat} {as : List E} {x : Str} {es : List Expr} {p pos pos2 : Pos} (h0 : (match P.xcls[cc]? with | some xc => decide (x = tS xc.name) | none => false) = true) (h1 : glB sc x = true) (h2 : nmB x = true) (h3 : ckEs P N lm sc as es = true)
    (ha : PA X es (dA Γ W (evEs P (callD P k) as))) : PS X (.Raise (some (.Call (.Name x p) es [] pos)) none pos2) (dS Γ W (evS P (callD P k) (.raise cc as))) := by
  cases e1 : P.xcls[cc]? with
  | none => rw [e1] at h0; cases h0
  | some xc =>
    rw [e1] at h0
    obtain rfl : x = tS xc.name := by simpa using h0
    obtain ⟨C, O⟩ := c.e.xc cc xc e1
    have hr : Room 3 X.A := c.e.room.mono (by omega)
    have ev : evS P (callD P k) (.raise cc as) = fun ρ s => (evEs P (callD P k) as ρ s).st ρ fun xs s => if xs.length = xc.fs.length then .exc cc (.str xc.name :: xs) ρ s else .stuck := by
      funext ρ s
      show (evEs P (callD P k) as ρ s).st ρ (fun xs s => match P.xcls[cc]? with
        | some x => if xs.length = x.fs.length then RS.exc cc (.str x.name :: xs) ρ s else RS.stuck
        | none => RS.stuck) = _
      rw [e1]
    rw [ev]
    cases es with
    | nil =>
      cases as with
      | nil => exact ss_raise0 O c.e.eK c.e.calm hr c.e.takes (gl_of c.e h1) (nm_of h2).1
      | cons _ _ => simp [ckEs] at h3
    | cons e es => exact ss_raise O c.e.eK c.e.calm hr c.e.takes (gl_of c.e h1) (nm_of h2).1 (ckEs_ns h3) ha
mutual
theorem sS (m : S) : ∀ {X : Cx} {st : Stmt}, CxS P Γ k N lm sc W X → ckS P N lm sc m st = true → PS X st (dS Γ W (evS P (callD P k) m)) := by
  intro X st c h
  cases m with
  | set i e =>
    unfold ckS at h
    split at h <;> first | contradiction | skip
    rename_i heq
    cases heq
    simp only [Bool.and_eq_true, decide_eq_true_eq] at h
    exact pSet c h.1.1.1 h.1.1.2 h.1.2 h.2
  | par is as =>
    unfold ckS at h
    split at h <;> first | contradiction | skip
    rename_i heq
    cases heq
    rw [Bool.and_eq_true] at h
    exact pPar c h.1 h.2
  | unp is e =>
    unfold ckS at h
    split at h <;> first | contradiction | skip
    rename_i heq
    cases heq
    simp only [Bool.and_eq_true, decide_eq_true_eq] at h
    obtain ⟨⟨⟨⟨h1, h2⟩, h3⟩, h4⟩, h5⟩ := h
    refine (ss_unp c.e.calm c.e.eK rfl h1 (tgC_pg c h2) h3 h4 (sE e c.e h5)).mono fun D σ H ⟨φ, ρ, s, er, rel, go⟩ => ⟨φ, ρ, s, er, rel, ?_⟩
    have ee : (fun (x : G.D) (s : Stt) => (match x with
      | .tup xs => if is.length = xs.length then RS.nx ((is.zip xs).foldl (fun ρ p => ρ.set p.1 (some p.2)) ρ) s else RS.stuck
      | _ => RS.stuck)) = fun x s => (match tgF is x ρ with
      | some ρ' => RS.nx ρ' s
      | none => RS.stuck) := by
      funext x s
      match is, h1 with
      | _ :: _ :: _, _ =>
        cases x <;> try rfl
        simp only [tgF]
        split <;> rfl
    exact Eq.mp (congrArg (fun f => GoS Γ W φ H ((evE P (callD P k) e ρ s).st ρ f) D) ee) go
  | setix o i e =>
    unfold ckS at h
    split at h <;> first | contradiction | skip
    rename_i heq
    cases heq
    simp only [Bool.and_eq_true, decide_eq_true_eq] at h
    exact ss_setix h.1.1.1.1 h.1.1.1.2 (sE o c.e h.1.1.2) (sE i c.e h.1.2) (sE e c.e h.2)
  | aug i o e =>
    unfold ckS at h
    split at h <;> first | contradiction | skip
    rename_i heq
    cases heq
    simp only [Bool.and_eq_true, decide_eq_true_eq] at h
    exact ss_aug (by rw [c.e.eN]; exact c.e.nd) (by rw [c.e.eN]; exact h.1.1) (loc_or c.e h.1.2) (.inl (c.fn _)) (sE e c.e h.2)
  | expr e =>
    unfold ckS at h
    split at h <;> first | contradiction | skip
    rename_i heq
    cases heq
    simp only [Bool.and_eq_true] at h
    exact ss_expr h.1 (sE e c.e h.2)
  | ret e =>
    unfold ckS at h
    split at h <;> first | contradiction | skip
    rename_i heq
    cases heq
    exact ss_ret (sE e c.e h)
  | retN =>
    unfold ckS at h
    split at h <;> first | contradiction | skip
    exact ss_retN
  | ite d a b =>
    cases st <;> try simp only [ckS, Bool.false_eq_true, Bool.and_eq_true] at h
    exact ss_if (sT d c.e h.1.1) (sSs a c h.1.2) (sSs b c h.2)
  | «for» tg kk src b =>
    obtain ⟨t, it, b', pos, rfl, h1, h2, h3, h4⟩ := inv_for h
    obtain ⟨g, hg, tk⟩ := tgC_ok c h2
    exact ss_for c.po c.e.calm (sI kk src c.e h3) tk hg (sSs b c h4) (folded h1)
  | «while» d b =>
    obtain ⟨d', b', pos, rfl, h1, h2⟩ := inv_while h
    exact ss_while c.po (sT d c.e h1) (sSs b c h2) WF
  | pass =>
    cases st <;> simp only [ckS, Bool.false_eq_true] at h
    exact ss_pass
  | brk =>
    cases st <;> simp only [ckS, Bool.false_eq_true] at h
    exact ss_brk
  | cont =>
    cases st <;> simp only [ckS, Bool.false_eq_true] at h
    exact ss_cont
  | raise cc as =>
    unfold ckS at h
    split at h <;> first | contradiction | skip
    rename_i heq
    cases heq
    simp only [Bool.and_eq_true] at h
    obtain ⟨⟨⟨h0, h1⟩, h2⟩, h3⟩ := h
    exact pRaise c h0 h1 h2 h3 (sEs as c.e h3)
  | never => exact ss_never
theorem sSs (ms : List S) : ∀ {X : Cx} {sts : List Stmt}, CxS P Γ k N lm sc W X → ckSs P N lm sc ms sts = true → PSs X sts (dS Γ W (evSs P (callD P k) ms)) := by
  intro X sts c h
  cases ms with
  | nil =>
    cases sts <;> simp only [ckSs, Bool.false_eq_true] at h
    exact ss_nil
  | cons m ms =>
    cases sts <;> simp only [ckSs, Bool.false_eq_true, Bool.and_eq_true] at h
    exact ss_cons (sS m c h.1) (sSs ms c h.2)
end
end
end G

set_option Elab.async false
set_option linter.all false
set_option maxRecDepth 100000
set_option maxHeartbeats 0
/-! The exceptions' classes: what the written part shows of them. -/
namespace G
open PySem L2
theorem call_form {o : Expr} {m : Str} {apos pos : Pos} {es : List Expr} {env : PySem.Env} (hb : attributeBase o m env (eval o env) = eval o env) (few : methodCallForm (es.length + ([] : List Keyword).length) (backTo pos (starEach es env)) (backToKw pos (keywordEach [] env)) = true) (hl : (apos.endLine == pos.line) = true) :
    ∃ pl : Sem Bool, eval (.Call (.Attribute o m apos) es [] pos) env = (do
      let ov ← eval o env
      standAt apos.atName
      let (g, fst) ← holding [ov] (getMethod ov m pl)
      callWith pos g fst (backTo pos (starEach es env)) (backToKw pos (keywordEach [] env))) := by
  refine ⟨(do return (← importBound o env).getD true), ?_⟩
  have e : eval (.Call (.Attribute o m apos) es [] pos) env = (do
    let ov ← attributeBase o m env (eval o env)
    standAt apos.atName
    methodCall o m apos pos env ov (es.length + ([] : List Keyword).length) (backTo pos (starEach es env)) (backToKw pos (keywordEach [] env))) := by rw [eval]
  rw [e, hb]
  have e2 : ∀ ov, methodCall o m apos pos env ov (es.length + ([] : List Keyword).length) (backTo pos (starEach es env)) (backToKw pos (keywordEach [] env)) = (do
      let (g, fst) ← holding [ov] (getMethod ov m (do return (← importBound o env).getD true))
      callWith pos g fst (backTo pos (starEach es env)) (backToKw pos (keywordEach [] env))) := by
    intro ov
    unfold methodCall calleeOf methodCallPos
    rw [few, hl]
    simp
  congr 1
  funext ov
  congr 1
  funext _
  exact e2 ov
/-! ### the classes' __init__ by their text -/
def ckStone (st : Stmt) : Bool := scB ["self", "called"] ["self", "called"] (defScope st) && locB (defScope st) "self" && locB (defScope st) "called" && glB (defScope st) "ValueError" && (match defBody st with
  | [.Expr (.Call (.Attribute (.Name y _) m ap) [.Name s _, .Name c _] [] cp) _, .Assign [.Attribute (.Name s2 _) c2 _] (.Name c3 _) _] => decide (y = "ValueError") && decide (m = "__init__") && decide (s = "self") && decide (c = "called") && decide (s2 = "self") && decide (c2 = "called") && decide (c3 = "called") && (ap.endLine == cp.line)
  | _ => false)
def ckCall0 (b z : Str) : Expr → Bool
  | .Call (.Attribute (.Name y _) m ap) [.Name s _, .Constant (.str w) _ _] [] cp => decide (y = b) && decide (m = "__init__") && decide (s = "self") && decide (w = z) && (ap.endLine == cp.line)
  | _ => false
def ckFld (y : Str) : Stmt → Bool
  | .Assign [.Attribute (.Name s2 _) c2 _] (.Name c3 _) _ => decide (s2 = "self") && decide (c2 = y) && decide (c3 = y)
  | _ => false
def nmY (sc : Scope) (y : Str) : Bool := locB sc y && nmB y && !(("called" : Str) == y)
def ckX (b z : Str) (st : Stmt) : List Str → Bool
  | [] => scB ["self"] ["self"] (defScope st) && locB (defScope st) "self" && glB (defScope st) b && (match defBody st with
    | [.Expr e _] => ckCall0 b z e
    | _ => false)
  | [y] => scB ["self", y] ["self", y] (defScope st) && locB (defScope st) "self" && glB (defScope st) b && nmY (defScope st) y && (match defBody st with
    | [.Expr e _, s1] => ckCall0 b z e && ckFld y s1
    | _ => false)
  | [y, y2] => scB ["self", y, y2] ["self", y, y2] (defScope st) && locB (defScope st) "self" && glB (defScope st) b && nmY (defScope st) y && nmY (defScope st) y2 && !(y == y2) && (match defBody st with
    | [.Expr e _, s1, s2] => ckCall0 b z e && ckFld y s1 && ckFld y2 s2
    | _ => false)
  | _ => false
theorem ckCall0_inv {b z : Str} {e : Expr} (h : ckCall0 b z e = true) : ∃ p1 p2 p3 j p4 p5, e = .Call (.Attribute (.Name b p1) "__init__" p2) [.Name "self" p3, .Constant (.str z) j p4] [] p5 ∧ (p2.endLine == p5.line) = true := by
  unfold ckCall0 at h
  split at h <;> first | contradiction | skip
  simp only [Bool.and_eq_true, decide_eq_true_eq] at h
  obtain ⟨⟨⟨⟨rfl, rfl⟩, rfl⟩, rfl⟩, h⟩ := h
  exact ⟨_, _, _, _, _, _, rfl, h⟩
theorem ckFld_inv {y : Str} {s : Stmt} (h : ckFld y s = true) : ∃ p1 p2 p3 p4, s = .Assign [.Attribute (.Name "self" p1) y p2] (.Name y p3) p4 := by
  unfold ckFld at h
  split at h <;> first | contradiction | skip
  simp only [Bool.and_eq_true, decide_eq_true_eq] at h
  obtain ⟨⟨rfl, rfl⟩, rfl⟩ := h
  exact ⟨_, _, _, _, rfl⟩
theorem loc_l {sc : Scope} {x : Str} (h : locB sc x = true) : sc.names.lookup x = some .local := by
  unfold locB at h
  split at h
  · assumption
  · cases h
theorem gl_l {sc : Scope} {x : Str} (h : glB sc x = true) : sc.names.lookup x = some .globalImplicit := by
  unfold glB at h
  split at h
  · assumption
  · cases h
theorem nmY_of {sc : Scope} {y : Str} (h : nmY sc y = true) : sc.names.lookup y = some .local ∧ (y == ("__debug__" : Str)) = false ∧ (y == ("__classdict__" : Str)) = false ∧ (("called" : Str) == y) = false := by
  unfold nmY at h
  simp only [Bool.and_eq_true, Bool.not_eq_true'] at h
  exact ⟨loc_l h.1.1, (nm_of' h.1.2).1, (nm_of' h.1.2).2, h.2⟩
section
variable {prog : Program} {w : World} {K : PySem.W.Frag} {mg : Str → Option Value} {base : Heap} {fa : Addr} {fd : FuncData} {x qual : Str} {st : Stmt} {dvs : List V} {kws : List (Str × V)}
theorem stone_by (F : FunD K x qual (defArgs st) (defBody st) (defScope st) dvs kws fa fd) (h : ckStone st = true) (hm : mg "ValueError" = none) (vV : PySem.W.findCls K (.type "ValueError") (.type "type") "__init__" = some (.val (.builtin "ValueError.__init__"))) :
    FnOk prog w K mg base (L2.CX prog w) 1 fa fd ["self", "called"] (spStone K) := by
  unfold ckStone at h
  simp only [Bool.and_eq_true] at h
  obtain ⟨⟨⟨⟨h1, h2⟩, h3⟩, h4⟩, h5⟩ := h
  split at h5 <;> first | contradiction | skip
  rename_i heq
  rw [heq] at F
  simp only [Bool.and_eq_true, decide_eq_true_eq] at h5
  obtain ⟨⟨⟨⟨⟨⟨⟨rfl, rfl⟩, rfl⟩, rfl⟩, rfl⟩, rfl⟩, rfl⟩, hl⟩ := h5
  exact stone_ok F (scB_ok h1) (loc_l h2) (loc_l h3) (gl_l h4) hm vV fun env => call_form rfl rfl hl
theorem heir_by {fs CS : Addr} {mc : Value} {fds : FuncData} {z : Str} {ys : List Str} (F : FunD K x qual (defArgs st) (defBody st) (defScope st) dvs kws fa fd) (h : ckX "StoneError" z st ys = true) (hm : mg "StoneError" = some (.ref CS)) (r : ClX.CRead K CS mc) (c : ClX.CVal K CS mc "__init__" (.ref fs) (.ref fs))
    (FS : FnOk prog w K mg base (L2.CX prog w) 1 fs fds ["self", "called"] (spStone K)) (hk : PySem.W.keepIn K (.ref fs) = true) (hb : Binds K fds ["self", "called"] []) : FnOk prog w K mg base (L2.CX prog w) 2 fa fd ("self" :: ys) (spInit K z ys) := by
  unfold ckX at h
  split at h
  · simp only [Bool.and_eq_true] at h
    obtain ⟨⟨⟨h1, h2⟩, h3⟩, h4⟩ := h
    split at h4 <;> first | contradiction | skip
    rename_i heq
    rw [heq] at F
    obtain ⟨p1, p2, p3, j, p4, p5, rfl, hl⟩ := ckCall0_inv h4
    exact (heir0_ok F (scB_ok h1) (loc_l h2) (gl_l h3) hm r c FS hk hb fun env => call_form rfl rfl hl).imp fun vs H Q E => init_0
  · simp only [Bool.and_eq_true] at h
    obtain ⟨⟨⟨⟨h1, h2⟩, h3⟩, hy⟩, h4⟩ := h
    split at h4 <;> first | contradiction | skip
    rename_i heq
    rw [heq] at F
    rw [Bool.and_eq_true] at h4
    obtain ⟨p1, p2, p3, j, p4, p5, rfl, hl⟩ := ckCall0_inv h4.1
    obtain ⟨q1, q2, q3, q4, rfl⟩ := ckFld_inv h4.2
    obtain ⟨y1, y2, y3, y4⟩ := nmY_of hy
    exact (heir1_ok F (scB_ok h1) (loc_l h2) y1 y2 y3 (gl_l h3) hm r c FS hk hb fun env => call_form rfl rfl hl).imp fun vs H Q E => init_1 y4
  · simp only [Bool.and_eq_true, Bool.not_eq_true'] at h
    obtain ⟨⟨⟨⟨⟨⟨h1, h2⟩, h3⟩, hy⟩, hz⟩, hyz⟩, h4⟩ := h
    split at h4 <;> first | contradiction | skip
    rename_i heq
    rw [heq] at F
    simp only [Bool.and_eq_true] at h4
    obtain ⟨p1, p2, p3, j, p4, p5, rfl, hl⟩ := ckCall0_inv h4.1.1
    obtain ⟨q1, q2, q3, q4, rfl⟩ := ckFld_inv h4.1.2
    obtain ⟨r1, r2, r3, r4, rfl⟩ := ckFld_inv h4.2
    obtain ⟨y1, y2, y3, y4⟩ := nmY_of hy
    obtain ⟨z1, z2, z3, z4⟩ := nmY_of hz
    exact (heir2_ok F (scB_ok h1) (loc_l h2) y1 y2 y3 z1 z2 z3 (gl_l h3) hm r c FS hk hb fun env => call_form rfl rfl hl).imp fun vs H Q E => init_2 y4 z4 hyz
  · cases h
end
/-! ### the classes' facts -/
def oexB (K : PySem.W.Frag) (C : Addr) : Bool := match K.lookup C with
  | some ⟨.type t, _, .cls cd, sl⟩ => decide (t = "type") && (match cd.mro, sl.toList with
    | .ref C' :: bm, [_, _, _, _, some (.builtin n), _] => C' == C && n == "ValueError.__new__" && !cd.hasDel && cd.hasDict && PySem.HandSPX.refsVE bm
    | _, _ => false)
  | _ => false
theorem oexB_ok {K : PySem.W.Frag} {C : Addr} (h : oexB K C = true) : ∃ nm q N bs bm sn sub ab col dd k0 k1 k2 k3 k5, K.lookup C = some (excClassObj nm q C N bs bm true sn sub ab col dd k0 k1 k2 k3 k5 "ValueError.__new__") ∧ PySem.HandSPX.refsVE bm = true := by
  unfold oexB at h
  split at h
  · rename_i t dd cd sl ho
    simp only [Bool.and_eq_true, decide_eq_true_eq] at h
    obtain ⟨rfl, h⟩ := h
    split at h
    · rename_i C' bm k0 k1 k2 k3 n k5 hm hs
      simp only [Bool.and_eq_true, beq_iff_eq, Bool.not_eq_true'] at h
      obtain ⟨⟨⟨⟨rfl, rfl⟩, hdel⟩, hdc⟩, hr⟩ := h
      obtain ⟨nm, bs, mro, ns, qn, hd, sn, sub, ab, col, del⟩ := cd
      dsimp only at hm hdel hdc
      subst hm hdel hdc
      have hsl : sl = #[k0, k1, k2, k3, some (.builtin "ValueError.__new__"), k5] := by
        obtain ⟨l⟩ := sl
        simp only at hs
        rw [hs]
      subst hsl
      exact ⟨nm, qn, ns, bs, bm, sn, sub, ab, col, dd, k0, k1, k2, k3, k5, ho, hr⟩
    · cases h
  · cases h
def xcB (K : PySem.W.Frag) (x : XCls) : Bool := He.eqO (PySem.W.nsIn K mainGlobals (tS x.name)) (some (some (.ref (He.ga K (tS x.name))))) && oexB K (He.ga K (tS x.name)) &&
  He.eqO (PySem.W.findIn K (.ref (He.ga K (tS x.name))) "__setattr__") (some (some (.builtin "object.__setattr__"))) && decide (PySem.W.subIn K (.ref (He.ga K (tS x.name))) (.type "BaseException") = some true) &&
  decide (PySem.W.typeIn K (.ref (He.ga K (tS x.name))) = some (.type "type")) && PySem.W.keepIn K (.ref (He.ga K (tS x.name))) && xfB K (He.ga K (tS x.name)) && (x.all.all fun f => He.eqO (PySem.W.findIn K (.ref (He.ga K (tS x.name))) f) (some none)) &&
  He.eqO (PySem.W.findIn K (.ref (He.ga K (tS x.name))) "__init__") (some (some (.ref (He.ma K (He.ga K (tS x.name)) "__init__")))) && decide (PySem.W.typeIn K (.ref (He.ma K (He.ga K (tS x.name)) "__init__")) = some (.type "function")) && decide (x.fs.length ≤ 100)
def fcRef (K : PySem.W.Frag) (C : Addr) (m : Str) (f : Addr) : Bool := match PySem.W.findCls K (.ref C) (.type "type") m with
  | some (.val (.ref a)) => decide (a = f)
  | _ => false
def fcVE (K : PySem.W.Frag) : Bool := match PySem.W.findCls K (.type "ValueError") (.type "type") "__init__" with
  | some (.val (.builtin z)) => decide (z = "ValueError.__init__")
  | _ => false
/-- of the class above all -/
def stB (K : PySem.W.Frag) : Bool := He.eqO (PySem.W.nsIn K mainGlobals "StoneError") (some (some (.ref (He.ga K "StoneError")))) && PySem.W.readsIn K (He.ga K "StoneError") (.type "type") && He.eqO (PySem.W.specialIn K (.ref (He.ga K "StoneError")) "__getattribute__") (some (some (.builtin "type.__getattribute__"))) &&
  fcRef K (He.ga K "StoneError") "__init__" (He.ma K (He.ga K "StoneError") "__init__") && fcVE K
theorem fcRef_ok {K : PySem.W.Frag} {C f : Addr} {m : Str} (h : fcRef K C m f = true) : PySem.W.findCls K (.ref C) (.type "type") m = some (.val (.ref f)) := by
  unfold fcRef at h
  split at h
  · rename_i a e
    rw [e, of_decide_eq_true h]
  · cases h
theorem fcVE_ok {K : PySem.W.Frag} (h : fcVE K = true) : PySem.W.findCls K (.type "ValueError") (.type "type") "__init__" = some (.val (.builtin "ValueError.__init__")) := by
  unfold fcVE at h
  split at h
  · rename_i a e
    rw [e, of_decide_eq_true h]
  · cases h
section
variable {Γ : Gm} {prog : Program} {w : World} {mg : Str → Option Value} {base h : Heap}
/-- all that is asked of the class c -/
theorem xok_by {c : Nat} {x : XCls} {qS q1 : Str} {sS sI : Stmt} {fdS fdI : FuncData} {d1 d2 : List V} {k1 k2 : List (Str × V)} (X : Γ.K.In h) (N : h.Ns mainGlobals mg) (hcl : Γ.xcl c = some (He.ga Γ.K (tS x.name), x.all)) (hx : xcB Γ.K x = true) (hs : stB Γ.K = true) (hmV : mg "ValueError" = none)
    (FS : FunD Γ.K "__init__" qS (defArgs sS) (defBody sS) (defScope sS) d1 k1 (He.ma Γ.K (He.ga Γ.K "StoneError") "__init__") fdS) (cS : ckStone sS = true) (bS : Binds Γ.K fdS ["self", "called"] [])
    (FI : FunD Γ.K "__init__" q1 (defArgs sI) (defBody sI) (defScope sI) d2 k2 (He.ma Γ.K (He.ga Γ.K (tS x.name)) "__init__") fdI) (cI : ckX "StoneError" (tS x.name) sI x.fs = true) (bI : Binds Γ.K fdI ("self" :: x.fs) []) : XOk Γ prog w mg base c x (He.ga Γ.K (tS x.name)) := by
  unfold xcB at hx
  simp only [Bool.and_eq_true, decide_eq_true_eq, List.all_eq_true] at hx
  obtain ⟨⟨⟨⟨⟨⟨⟨⟨⟨⟨g0, g1⟩, g2⟩, g3⟩, g4⟩, g5⟩, g6⟩, g7⟩, g8⟩, g9⟩, g10⟩ := hx
  unfold stB at hs
  simp only [Bool.and_eq_true] at hs
  obtain ⟨⟨⟨⟨e0, e1⟩, e2⟩, e3⟩, e4⟩ := hs
  refine ⟨hcl, ⟨oexB_ok g1, He.eqO_ok g2, g3, g4, g5⟩, xfB_ok g6, fun f hf => He.eqO_ok (g7 f hf), PySem.W.mg_of X N (He.eqO_ok g0), g10, _, fdI, _, He.eqO_ok g8, g9, ?_, bI⟩
  exact heir_by FI cI (PySem.W.mg_of X N (He.eqO_ok e0)) ⟨e1, He.eqO_ok e2⟩ ⟨fcRef_ok e3, rfl⟩ (stone_by FS cS hmV (fcVE_ok e4)) FS.kp bS
end
/-! ### what a def that catches leans on -/
def clOf (K : PySem.W.Frag) (x : Str) : Value := .ref (He.ga K x)
def tdB (P : Prog) (K : PySem.W.Frag) (td : Told) : Bool := td.hs.all fun h => (h.1.all fun n => He.eqO (PySem.W.nsIn K mainGlobals n) (some (some (clOf K n)))) &&
  ((List.range P.xcls.length).all fun c => match P.xcls[c]? with
    | some x => decide (PySem.W.exmAny K (.ref (He.ga K (tS x.name))) (h.1.map (clOf K)) = some (h.2.1.contains c))
    | none => true)
theorem told_by {P : Prog} {Γ : Gm} {mg : Str → Option Value} {h : Heap} {td : Told} {st : Stmt} {fd : FuncData} {d1 : List V} {k1 : List (Str × V)} (X : Γ.K.In h) (N : h.Ns mainGlobals mg) (hcl : ∀ (c : Nat) x C, P.xcls[c]? = some x → Γ.xcl c = some (C, x.all) → C = He.ga Γ.K (tS x.name)) (hB : tdB P Γ.K td = true)
    (F : FunD Γ.K td.name td.name (defArgs st) (defBody st) (defScope st) d1 k1 (He.ga Γ.K td.name) fd) (hm : mg td.name = some (.ref (He.ga Γ.K td.name))) (hb : Binds Γ.K fd [td.par] []) (hk : ckTold td st = true) : ToldOk P Γ mg td := by
  unfold tdB at hB
  simp only [List.all_eq_true, Bool.and_eq_true] at hB
  refine ⟨d1, k1, _, fd, st, F, hm, hb, hk, clOf Γ.K, fun q hq n hn => PySem.W.mg_of X N (He.eqO_ok ((hB q hq).1 n hn)), fun q hq c x C hx hC => ?_⟩
  have e := hcl c x C hx hC
  subst e
  have hl := (List.getElem?_eq_some_iff.mp hx).1
  have q2 := (hB q hq).2 c (List.mem_range.mpr hl)
  rw [hx] at q2
  exact of_decide_eq_true q2
end G

set_option Elab.async false
set_option linter.all false
set_option maxRecDepth 100000
set_option maxHeartbeats 0
/-! Defs, the whole program. -/
namespace G
open PySem L2

section
variable {Γ : Gm} {φ : Fx} {H : Hp}
/-! ### the cells that a call made go -/
def Fx.cutAt (φ : Fx) (n : Nat) : Fx := ⟨φ.cs.take n, φ.hd⟩
theorem Fx.cut_out {n : Nat} {a : Addr} (h : φ.out a) : (φ.cutAt n).out a := ⟨fun q => h.1 (List.mem_of_mem_take q), h.2⟩
mutual
theorem Rep.trunc {n : Nat} : ∀ {v : V} {d : D}, D.under n d = true → Rep Γ φ H v d → Rep Γ (φ.cutAt n) H v d
  | _, _, _, .non => .non
  | _, _, _, .bl b => .bl b
  | _, _, _, .int i => .int i
  | _, _, _, .str t => .str t
  | _, _, u, .tup h r => .tup h (Reps.trunc (by simpa [D.under] using u) r)
  | _, _, u, .lst h n r => .lst h (Fx.cut_out n) (Reps.trunc (by simpa [D.under] using u) r)
  | _, _, _, .scr h => .scr h
  | _, _, _, .scrL h n => .scrL h (Fx.cut_out n)
  | _, _, u, .ins a1 a2 a3 a4 r => .ins a1 a2 a3 (Fx.cut_out a4) (Reps.trunc (by simpa [D.under] using u) r)
  | _, .ref m, u, .ref h => .ref (by
    have u : m < n := by simpa [D.under] using u
    show (φ.cs.take n)[_]? = _
    rw [List.getElem?_take_of_lt u]
    exact h)
  | _, _, _, .dfn h => .dfn h
theorem Reps.trunc {n : Nat} : ∀ {v : List V} {d : List D}, D.unders n d = true → Reps Γ φ H v d → Reps Γ (φ.cutAt n) H v d
  | _, _, _, .nil => .nil
  | _, _, u, .cons a b => by
    simp only [D.unders, Bool.and_eq_true] at u
    exact .cons (Rep.trunc u.1 a) (Reps.trunc u.2 b)
end
mutual
theorem Rep.freeze {n : Nat} {s : Stt} (rel : Rel Γ φ H s) : ∀ {v : V} {d d' : D}, D.freeze n s d = some d' → Rep Γ φ H v d → Rep Γ (φ.cutAt n) H v d'
  | _, .non, _, e, h => by simp [D.freeze] at e; subst e; cases h; constructor
  | _, .bl _, _, e, h => by simp [D.freeze] at e; subst e; cases h; constructor
  | _, .int _, _, e, h => by simp [D.freeze] at e; subst e; cases h; constructor
  | _, .str _, _, e, h => by simp [D.freeze] at e; subst e; cases h; constructor
  | .ref _, .tup _, _, e, .tup h r => by
    simp only [D.freeze, Option.map_eq_some_iff] at e
    obtain ⟨ds, h1, rfl⟩ := e
    exact .tup h (Reps.freeze rel h1 r)
  | .ref _, .lst _, _, e, .lst h n r => by
    simp only [D.freeze, Option.map_eq_some_iff] at e
    obtain ⟨ds, h1, rfl⟩ := e
    exact .lst h (Fx.cut_out n) (Reps.freeze rel h1 r)
  | _, .scr _, _, e, h => by
    simp [D.freeze] at e
    subst e
    cases h with
    | scr h => exact .scr h
    | scrL h n => exact .scrL h (Fx.cut_out n)
  | .ref _, .ins _ _, _, e, .ins a1 a2 a3 a4 r => by
    simp only [D.freeze, Option.map_eq_some_iff] at e
    obtain ⟨ds, h1, rfl⟩ := e
    exact .ins a1 a2 a3 (Fx.cut_out a4) (Reps.freeze rel h1 r)
  | .ref _, .ref m, _, e, .ref h => by
    simp only [D.freeze] at e
    split at e
    · rename_i u
      cases e
      exact .ref (by
        show (φ.cs.take n)[_]? = _
        rw [List.getElem?_take_of_lt u]
        exact h)
    · rename_i u
      split at e
      · rename_i xs hx
        split at e
        · rename_i hu
          cases e
          obtain ⟨vs, h1, h2⟩ := rel.cell _ _ _ h hx
          refine .lst h1 ⟨fun q => ?_, rel.dis _ (List.mem_of_getElem? h)⟩ (Reps.trunc hu h2)
          obtain ⟨j, hj⟩ := List.getElem?_of_mem q
          have lj : j < n := by
            have := (List.getElem?_eq_some_iff.mp hj).1
            rw [show (φ.cutAt n).cs = φ.cs.take n from rfl, List.length_take] at this
            omega
          rw [show (φ.cutAt n).cs = φ.cs.take n from rfl, List.getElem?_take_of_lt lj] at hj
          have := nodup_ixN rel.nd h hj
          omega
        · cases e
      · cases e
  | _, .dfn _, _, e, h => by simp [D.freeze] at e; subst e; cases h; constructor; assumption
theorem Reps.freeze {n : Nat} {s : Stt} (rel : Rel Γ φ H s) : ∀ {v : List V} {d d' : List D}, D.freezes n s d = some d' → Reps Γ φ H v d → Reps Γ (φ.cutAt n) H v d'
  | [], [], _, e, .nil => by simp [D.freezes] at e; subst e; exact .nil
  | _ :: _, d :: ds, _, e, .cons a b => by
    simp only [D.freezes] at e
    cases e1 : D.freeze n s d with
    | none => simp [e1] at e
    | some q =>
      cases e2 : D.freezes n s ds with
      | none => simp [e1, e2] at e
      | some qs =>
        simp [e1, e2] at e
        subst e
        exact .cons (Rep.freeze rel e1 a) (Reps.freeze rel e2 b)
end
theorem Rel.trunc {n : Nat} {s : Stt} (rel : Rel Γ φ H s) (h : (s.take n).all (·.under n) = true) : Rel Γ (φ.cutAt n) H (s.take n) := by
  refine ⟨?_, rel.nd.sublist (List.take_sublist _ _), fun a ha hb => rel.dis a (List.mem_of_mem_take ha) hb, rel.hid, fun m a c h1 h2 => ?_, rel.tab⟩
  · show (φ.cs.take n).length = (s.take n).length
    rw [List.length_take, List.length_take, rel.len]
  · have hm : m < n := by
      have := (List.getElem?_eq_some_iff.mp h2).1
      rw [List.length_take] at this
      omega
    have hu : c.under n = true := List.all_eq_true.mp h c (List.mem_of_getElem? h2)
    rw [show (φ.cutAt n).cs = φ.cs.take n from rfl, List.getElem?_take_of_lt hm] at h1
    rw [List.getElem?_take_of_lt hm] at h2
    have q := rel.cell m a c h1 h2
    cases c with
    | lst ds =>
      obtain ⟨xs, e, r⟩ := q
      exact ⟨xs, e, r.trunc hu⟩
    | ins c ds =>
      obtain ⟨C, fn, dx, xs, h0, e, l, r⟩ := q
      exact ⟨C, fn, dx, xs, h0, e, l, r.trunc hu⟩
/-- behind a call -/
theorem Go.leave {W : WX} {σ : St} {φ' : Fx} {H' : Hp} {keep : Bool} {s s' : Stt} {d : D} {v : V} {Q : VK} (rel0 : Rel Γ φ H s) (h : Go Γ W φ H σ (leave keep s.length d s') fun d s' φ' H' => ∀ v, Rep Γ φ' H' v d → Q v H') (x : After φ H φ' H') (rel : Rel Γ φ' H' s') (hv : Rep Γ φ' H' v d) : Q v H' := by
  unfold G.leave at h
  split at h
  · exact h φ' H' x rel v hv
  · split at h
    · exact h φ' H' x rel v hv
    · split at h
      · rename_i d' hf
        split at h
        · rename_i hu
          obtain ⟨ψ, e, f⟩ := x.grow
          have e2 : (φ'.cutAt s.length).cs = φ.cs := by
            show φ'.cs.take s.length = φ.cs
            rw [e, ← rel0.len, List.take_left']
            rfl
          have A : After φ H (φ'.cutAt s.length) H' := ⟨⟨[], by rw [e2]; simp, fun _ h => nomatch h⟩, x.hid, x.keep, x.tups, x.frzs, x.there⟩
          exact h _ H' A (rel.trunc hu) v (Rep.freeze rel hf hv)
        · exact h.elim
      · exact h.elim

theorem freezes_get {n : Nat} {s : Stt} : ∀ {ds es : List D}, D.freezes n s ds = some es → es.length = ds.length ∧ ∀ (i : Nat) e, es[i]? = some e → ∃ d, ds[i]? = some d ∧ D.freeze n s d = some e
  | [], es, h => by
    simp only [D.freezes, Option.some.injEq] at h
    subst h
    exact ⟨rfl, fun i e h => by simp at h⟩
  | d :: ds, es, h => by
    simp only [D.freezes] at h
    split at h
    · rename_i p ps h1 h2
      cases h
      obtain ⟨h3, h4⟩ := freezes_get h2
      refine ⟨by simp [h3], fun i e q => ?_⟩
      cases i with
      | zero =>
        cases q
        exact ⟨d, rfl, h1⟩
      | succ i => exact h4 i e (by simpa using q)
    · cases h
/-- behind a call that let an exception out -/
theorem Go.leaveX {W : WX} {σ : St} {φ' : Fx} {H' : Hp} {s s' : Stt} {c : Nat} {fs : List D} {cls : Value} {dd : Option Addr} {K : D → Stt → Fx → Hp → Prop} (rel0 : Rel Γ φ H s) (h : Go Γ W φ H σ (leaveX s.length c fs s') K) (x : After φ H φ' H') (rel : Rel Γ φ' H' s') (xr : XR Γ φ' H' cls dd c fs) : W cls dd σ H' := by
  unfold G.leaveX at h
  split at h
  · exact h φ' H' cls dd x rel xr
  · split at h
    · rename_i fs' hf
      split at h
      · rename_i hu
        obtain ⟨ψ, e, f⟩ := x.grow
        have e2 : (φ'.cutAt s.length).cs = φ.cs := by
          show φ'.cs.take s.length = φ.cs
          rw [e, ← rel0.len, List.take_left']
          rfl
        have A : After φ H (φ'.cutAt s.length) H' := ⟨⟨[], by rw [e2]; simp, fun _ h => nomatch h⟩, x.hid, x.keep, x.tups, x.frzs, x.there⟩
        obtain ⟨l1, l2⟩ := freezes_get hf
        obtain ⟨C, fn, d, l, h1, h2, h3, h4, h5, h6⟩ := xr
        exact h _ H' cls dd A (rel.trunc hu) ⟨C, fn, d, l, h1, h2, h3, h4, by rw [h5, l1], fun i f e q1 q2 => by
          obtain ⟨d0, q3, q4⟩ := l2 i e q2
          obtain ⟨v, q5, q6⟩ := h6 i f d0 q1 q3
          exact ⟨v, q5, Rep.freeze rel q4 q6⟩⟩
      · exact h.elim
    · exact h.elim

/-! ### a def -/
theorem Reps.ofLen {vs : List V} {ds : List D} (r : Reps Γ φ H vs ds) (N : List Str) : ER Γ φ H (L2.start N vs) (ds.map some ++ List.replicate (N.length - ds.length) none) := by
  refine ⟨by simp [L2.start, r.len], fun i d h => ?_⟩
  by_cases hi : i < ds.length
  · rw [List.getElem?_append_left (by simpa using hi), List.getElem?_map] at h
    cases e : ds[i]? with
    | none => rw [e] at h; cases h
    | some d' =>
      rw [e] at h
      cases h
      obtain ⟨v, h1, h2⟩ := r.get e
      refine ⟨v, ?_, h2⟩
      unfold L2.start
      rw [List.getElem?_append_left (by simpa [r.len] using hi), List.getElem?_map, h1]
      rfl
  · rw [List.getElem?_append_right (by simpa using hi)] at h
    have := List.mem_of_getElem? h
    simp at this
/-- what the written text shows of a def: its terms are mine -/
def ckDef (P : Prog) (df : Def) (st : Stmt) : Bool := scB df.N df.ps (defScope st) && ckSs P df.N df.lam (defScope st) df.body (defBody st)
end

/-- the table of a def in which lambdas stand -/
def LamF (Γ : Gm) (mg : Str → Option Value) (base : Heap) (qual : Str) (fd : FuncData) : Prop := ∃ c T, fd.code = .ref c ∧ LamX.TabB base mg c T ∧ (T, (qual ++ ".<locals>.") ++ "<lambda>") ∈ Γ.T ∧ ∀ p ∈ Γ.T, p.1 = T → p.2 = (qual ++ ".<locals>.") ++ "<lambda>"
/-- what of the top is known -/
structure Top (prog : Program) (w : World) (Γ : Gm) (mg : Str → Option Value) (base : Heap) (P : Prog) : Prop where
  mgb : ∀ x ∈ bnames, mg x = none
  con : ∀ (g : Nat) x d, P.consts[g]? = some (x, d) → ∃ v u, mg x = some u ∧ RelV v u ∧ ∀ φ H, Rep Γ φ H v d
  def_ : ∀ (f : Nat) df, P.defs[f]? = some df → ∃ x qual st dvs kws a fd, FunD Γ.K x qual (defArgs st) (defBody st) (defScope st) dvs kws a fd ∧ ckDef P df st = true ∧ mg df.name = some (.ref a) ∧ ((df.pos = true → Binds Γ.K fd df.ps []) ∧ ∀ sh ∈ P.shapes, sh.f = f → ShOk Γ Γ.K fd df.ps sh) ∧ (df.lam = true → LamF Γ mg base qual fd)
  xc : ∀ (c : Nat) x, P.xcls[c]? = some x → ∃ C, XOk Γ prog w mg base c x C
  told : ∀ (j : Nat) td, P.tolds[j]? = some td → ToldOk P Γ mg td
section
variable {prog : Program} {w : World} {Γ : Gm} {mg : Str → Option Value} {base : Heap} {P : Prog}
theorem callD_ok {k f : Nat} {df : Def} (hf : P.defs[f]? = some df) {ds : List D} {s : Stt} (hl : ds.length = df.ps.length) : callD P (k + 1) f ds s = (match evSs P (callD P k) df.body (ds.map some ++ List.replicate (df.N.length - ds.length) none) s with
      | .rt d s' => leave df.keep s.length d s'
      | .nx _ s' => leave df.keep s.length .non s'
      | .exc c fs _ s' => leaveX s.length c fs s'
      | _ => .stuck) := by
  unfold callD
  rw [hf]
  exact if_pos hl
theorem all_ok (T : Top prog w Γ mg base P) : ∀ (k f : Nat) (df : Def), P.defs[f]? = some df → ∃ a fd, mg df.name = some (.ref a) ∧ PySem.W.keepIn Γ.K (.ref a) = true ∧ FnOk prog w Γ.K mg base (L2.CX prog w) (3 * k + 3) a fd df.ps (spD Γ df.ps.length (callD P k f)) ∧ (df.pos = true → Binds Γ.K fd df.ps []) ∧ (∀ sh ∈ P.shapes, sh.f = f → ShOk Γ Γ.K fd df.ps sh) ∧ ∃ oc od osl, Γ.K.lookup a = some ⟨oc, od, .func fd, osl⟩ := by
  intro k
  induction k with
  | zero =>
    intro f df hf
    obtain ⟨x, qual, st, dvs, kws, a, fd, F, hc, hm, ⟨hb, hs⟩, hlam⟩ := T.def_ f df hf
    have lk : ∃ oc od osl, Γ.K.lookup a = some ⟨oc, od, .func fd, osl⟩ := by
      obtain ⟨oc, od, _, _, _, _, _, _, _, osl, _, lk, _⟩ := F.ex
      exact ⟨oc, od, osl, lk⟩
    exact ⟨a, fd, hm, F.kp, ⟨fun _ _ _ _ h => spD_len h, fun _ _ _ _ _ _ _ _ _ _ _ _ _ ⟨_, _, _, _, _, _, go⟩ => go.elim⟩, hb, hs, lk⟩
  | succ k ih =>
    intro f df hf
    obtain ⟨x, qual, st, dvs, kws, a, fd, F, hc, hm, ⟨hb, hs⟩, hlam⟩ := T.def_ f df hf
    unfold ckDef at hc
    rw [Bool.and_eq_true] at hc
    have S := scB_ok hc.1
    have lk : ∃ oc od osl, Γ.K.lookup a = some ⟨oc, od, .func fd, osl⟩ := by
      obtain ⟨oc, od, _, _, _, _, _, _, _, osl, _, lk, _⟩ := F.ex
      exact ⟨oc, od, osl, lk⟩
    refine ⟨a, fd, hm, F.kp, ?_, hb, hs, lk⟩
    clear lk
    obtain ⟨oc, od, dV, kV, doc, pm, an, cdv, ct, osl, rfl, lk, hcd, _, _⟩ := F.ex
    have lv : 3 * (k + 1) + 3 = (3 * k + 5) + 1 := by omega
    rw [lv]
    refine fn_of lk hcd S (fun _ _ _ _ h => spD_len h) fun A outer s0 H vs Q E hr hsp => ?_
    have hr3 := hr.mono (show 3 * k + 3 ≤ 3 * k + 5 by omega)
    have cE : CxE P Γ k df.N df.lam (defScope st) (fun cls dd _ H => E cls dd H) (cxOf (L2.CX prog w) prog w Γ.K mg base df.N qual (defScope st) a cdv A outer s0 H E) :=
      ⟨rfl, rfl, S.nd, rfl, S.kind, rfl, hr3, takes_of rfl rfl rfl rfl, T.mgb, T.con, (fun g dg hg => by
        obtain ⟨a, fd, h1, h2, h3, h4, h5, _⟩ := ih g dg hg
        exact ⟨a, fd, h1, h2, h3, h4, h5⟩), T.xc, fun hl => by
        obtain ⟨c, t, e1, e2, e3, e4⟩ := hlam hl
        exact ⟨hr, ⟨c, t, e1, e2, e3, e4⟩, T.told⟩⟩
    have cS : CxS P Γ k df.N df.lam (defScope st) (fun cls dd _ H => E cls dd H) (cxOf (L2.CX prog w) prog w Γ.K mg base df.N qual (defScope st) a cdv A outer s0 H E) :=
      ⟨cE, passes_of rfl, fun _ => rfl⟩
    refine ⟨_, sSs df.body cS hc.2, ?_⟩
    obtain ⟨φ, s, ds, hl, reps, rel, go⟩ := hsp
    refine ⟨φ, _, s, reps.ofLen df.N, rel, ?_⟩
    rw [callD_ok hf hl] at go
    cases e : evSs P (callD P k) df.body (ds.map some ++ List.replicate (df.N.length - ds.length) none) s with
    | nx ρ s' => rw [e] at go; exact fun φ' H' σ' x r er => Go.leave rel go x r .non
    | rt d s' => rw [e] at go; exact fun φ' H' v x r hv => Go.leave rel go x r hv
    | bk ρ s' => rw [e] at go; exact go.elim
    | ct ρ s' => rw [e] at go; exact go.elim
    | exc c fs ρ s' => rw [e] at go; exact fun φ' H' σ' cls dd x r er q => Go.leaveX rel go x r q
    | stuck => rw [e] at go; exact go.elim
end
/-- the facts of the defs, one behind another -/
inductive AllF (R : Nat → Def → Prop) : Nat → List Def → Prop
  | nil {n : Nat} : AllF R n []
  | cons {n : Nat} {d : Def} {ds : List Def} : R n d → AllF R (n + 1) ds → AllF R n (d :: ds)
theorem AllF.get {R : Nat → Def → Prop} : ∀ {n : Nat} {ds : List Def}, AllF R n ds → ∀ (f : Nat) df, ds[f]? = some df → R (n + f) df
  | _, _, .nil, f, df, h => by simp at h
  | _, _, .cons a b, 0, df, h => by simp at h; subst h; exact a
  | n, _, .cons a b, f + 1, df, h => by
    have := AllF.get b f df (by simpa using h)
    rw [Nat.add_right_comm] at this
    exact this
/-- the law's end: what its def tells of every script -/
theorem law_sp {Γ : Gm} {P : Prog} {k f : Nat} (H : Hp) (a : Addr) (ns : List Int) (h : ∃ s', callD P k f [.scr ns] [] = .ok (.bl true) s') (hT : LamX.Tabs Γ.T H) (hS : SqL Γ.K H a (ns.map V.int)) :
    spD Γ 1 (callD P k f) [.ref a] H (fun v _ => v = .bl true) fun _ _ _ => False := by
  obtain ⟨s', e⟩ := h
  refine ⟨⟨[], []⟩, [], [.scr ns], rfl, .cons ?_ .nil, ⟨rfl, List.nodup_nil, fun _ h => (nomatch h), fun _ h => (nomatch h), fun m a c h => by simp at h, hT⟩, ?_⟩
  · rcases hS with (hS | hS) | hS
    · exact .scrL hS ⟨(fun z => nomatch z), fun z => nomatch z⟩
    · exact .scr (.inl hS)
    · exact .scr (.inr hS)
  · rw [e]
    intro φ' H' x r v hv
    cases hv
    rfl
end G

set_option Elab.async false
set_option linter.all false
set_option maxRecDepth 100000
set_option maxHeartbeats 0
/-! The head: what the top leaves, by names; how calls with keywords bind. -/
namespace G
open PySem L2
/-! ### a Hook that looks at one Bool more, and at the tables of code objects -/
def isTab : Obj → Bool
  | ⟨.none, none, .fields vs, sl⟩ => vs.isEmpty && sl.isEmpty
  | _ => false
theorem isTab_ok {o : Obj} (h : isTab o = true) : o = PySem.W.tabObj #[] := by
  unfold isTab at h
  split at h
  · rename_i vs sl
    simp only [Bool.and_eq_true, Array.isEmpty_iff] at h
    obtain ⟨rfl, rfl⟩ := h
    rfl
  · cases h
theorem isTab_tab : isTab (PySem.W.tabObj #[]) = true := rfl
/-- what is read, the tables left out -/
def noTab (g : Addr → Option Obj) (a : Addr) : Option Obj := match g a with
  | some o => if isTab o = true then none else some o
  | none => none
theorem noTab_at {g : Addr → Option Obj} {a : Addr} {o : Obj} (h : noTab g a = some o) : g a = some o ∧ isTab o = false := by
  unfold noTab at h
  split at h
  · rename_i o' e
    split at h
    · cases h
    · rename_i q
      cases h
      exact ⟨e, by simpa using q⟩
  · cases h
def frT (n : Nat) (g : Addr → Option Obj) : PySem.W.Frag := He.frG (noTab g) (PySem.cStatics :: He.asD g n)
def tabOk (g : Addr → Option Obj) (K : PySem.W.Frag) (x : Str) : Bool := match PySem.W.tabIn K x with
  | some (c, P) => PySem.W.codeHdIn K c P && (match g P with | some o => isTab o | none => false)
  | none => false
abbrev AlG : Type := He.AlD × Bool
def obsG (n : Nat) (fa : List He.Fa) (fn : List He.DefD) (ex : PySem.W.Frag → Bool) (lam : List Str) (g : Addr → Option Obj) : AlG := (He.obsD fa fn (frT n g), ex (frT n g) && lam.all fun x => tabOk g (frT n g) x)
def SaysG (fa : List He.Fa) (fn : List He.DefD) (ex : PySem.W.Frag → Bool) (K : PySem.W.Frag) : Prop := He.SaysD fa fn K ∧ ex K = true
/-- the tables at the head -/
def TabsG (lam : List Str) (K : PySem.W.Frag) (h : Heap) : Prop := ∀ x ∈ lam, ∃ c P, PySem.W.tabIn K x = some (c, P) ∧ PySem.W.codeHdIn K c P = true ∧ h.get? P = some (PySem.W.tabObj #[]) ∧ K.lookup P = none
theorem frT_in {n : Nat} {h : Heap} : (frT n h.get?).In h := fun _ _ e => (noTab_at (He.frG_at _ e)).1
def hookG (n : Nat) (fa : List He.Fa) (fn : List He.DefD) (ex : PySem.W.Frag → Bool) (lam : List Str) : PySem.W.Hook where
  α := AlG
  obs := fun s => obsG n fa fn ex lam s.heap.get?
  val := fun _ => (He.valD fn, true)
  says := fun _ h => ∃ K : PySem.W.Frag, K.In h ∧ SaysG fa fn ex K ∧ TabsG lam K h
  of := fun _ s e => by
    have e2 : (ex (frT n s.heap.get?) && lam.all fun x => tabOk s.heap.get? (frT n s.heap.get?) x) = true := congrArg Prod.snd e
    rw [Bool.and_eq_true, List.all_eq_true] at e2
    refine ⟨_, frT_in, ⟨congrArg Prod.fst e, e2.1⟩, fun x hx => ?_⟩
    have q := e2.2 x hx
    unfold tabOk at q
    split at q
    · rename_i c P e3
      rw [Bool.and_eq_true] at q
      obtain ⟨q1, q2⟩ := q
      split at q2
      · rename_i o e4
        have e5 := isTab_ok q2
        subst e5
        refine ⟨c, P, e3, q1, e4, ?_⟩
        cases hk : (frT n s.heap.get?).lookup P with
        | none => rfl
        | some o =>
          obtain ⟨k1, k2⟩ := noTab_at (He.frG_at _ hk)
          rw [e4] at k1
          cases k1
          rw [isTab_tab] at k2
          cases k2
      · cases q2
    · cases q
  keeps := fun _ _ _ ⟨K, hK, c, t⟩ k => ⟨K, PySem.W.Frag.In.keeps hK k, c, fun x hx => let ⟨c, P, h1, h2, h3, h4⟩ := t x hx; ⟨c, P, h1, h2, k _ _ h3, h4⟩⟩
theorem obsG_eq {n : Nat} {fa : List He.Fa} {fn : List He.DefD} {ex : PySem.W.Frag → Bool} {lam : List Str} {g : Addr → Option Obj} {s : Shared} (h : ∀ a, g a = s.heap.get? a) : obsG n fa fn ex lam g = (hookG n fa fn ex lam).obs s := by
  have e : g = s.heap.get? := funext h
  rw [e] <;> rfl
/-! ### constants -/
def vOf : Value → V
  | .bool b => .bl b
  | .int i _ => .int i
  | .str x _ => .str x
  | .ref a => .ref a
  | _ => .non
mutual
def repB (K : PySem.W.Frag) : D → Value → Bool
  | .non, .none => true
  | .bl b, .bool c => b == c
  | .int i, .int j _ => decide (i = j)
  | .str t, .str x _ => decide (x = tS t)
  | .tup ds, .ref a => match K.lookup a with
    | some ⟨.type c, _, .seq its _, _⟩ => decide (c = "tuple") && (decide (its.size ≤ sizeLine) && repsB K ds its.toList)
    | _ => false
  | _, _ => false
def repsB (K : PySem.W.Frag) : List D → List Value → Bool
  | [], [] => true
  | d :: ds, u :: us => repB K d u && repsB K ds us
  | _, _ => false
end
mutual
theorem repB_ok {Γ : Gm} : ∀ {d : D} {u : Value}, repB Γ.K d u = true → RelV (vOf u) u ∧ ∀ φ H, Rep Γ φ H (vOf u) d
  | .non, u, h => by
    cases u <;> first | (cases h; done) | exact ⟨rfl, fun _ _ => .non⟩
  | .bl b, u, h => by
    cases u <;> first | (cases h; done) | skip
    have e := eq_of_beq h
    subst e
    exact ⟨rfl, fun _ _ => .bl _⟩
  | .int i, u, h => by
    cases u <;> first | (cases h; done) | skip
    have e := of_decide_eq_true h
    subst e
    exact ⟨He.relB_ok (show He.relB (.int i) _ = true from decide_eq_true rfl), fun _ _ => .int _⟩
  | .str t, u, h => by
    cases u <;> first | (cases h; done) | skip
    have e := of_decide_eq_true h
    subst e
    exact ⟨He.relB_ok (show He.relB (.str (tS t)) _ = true from decide_eq_true rfl), fun _ _ => .str _⟩
  | .tup ds, u, h => by
    cases u <;> first | (cases h; done) | skip
    rename_i a
    refine ⟨rfl, fun φ H => ?_⟩
    unfold repB at h
    split at h
    · rename_i c od its n sl q
      simp only [Bool.and_eq_true, decide_eq_true_eq] at h
      obtain ⟨vs, h1, h2⟩ := repsB_ok h.2.2
      refine .tup (xs := vs) (.inr ⟨_, its, n, q, congrArg Value.type h.1, rfl, h.2.1, h1⟩) (h2 φ H)
    · cases h
  | .lst _, u, h => by cases u <;> cases h
  | .scr _, u, h => by cases u <;> cases h
  | .ins _ _, u, h => by cases u <;> cases h
  | .ref _, u, h => by cases u <;> cases h
  | .dfn _, u, h => by cases u <;> cases h
theorem repsB_ok {Γ : Gm} : ∀ {ds : List D} {us : List Value}, repsB Γ.K ds us = true → ∃ vs, Vals vs us ∧ ∀ φ H, Reps Γ φ H vs ds
  | [], [], _ => ⟨[], .nil, fun _ _ => .nil⟩
  | [], _ :: _, h => by cases h
  | _ :: _, [], h => by cases h
  | d :: ds, u :: us, h => by
    simp only [repsB, Bool.and_eq_true] at h
    obtain ⟨h1, h2⟩ := repB_ok h.1
    obtain ⟨vs, h3, h4⟩ := repsB_ok h.2
    exact ⟨_, .cons h1 h3, fun φ H => .cons (h2 φ H) (h4 φ H)⟩
end
def conB (K : PySem.W.Frag) (x : Str) (d : D) : Bool := match PySem.W.nsIn K mainGlobals x with
  | some (some u) => repB K d u
  | _ => false
def dvB (K : PySem.W.Frag) (dv : He.Dv) (d : D) : Bool := match dv, d with
  | .non, .non => true
  | .bl b, .bl c => b == c
  | .int i, .int j => decide (i = j)
  | .str x, .str t => decide (x = tS t)
  | .glo x, .tup ds => (match PySem.W.nsIn K mainGlobals x with
    | some (some (.ref a)) => repB K (.tup ds) (.ref a)
    | _ => false)
  | _, _ => false
/-- the tables of the defs in lam, by what is looked at -/
def csOf (K : PySem.W.Frag) (lam : List Str) : List (Addr × Addr) := lam.filterMap fun x => PySem.W.tabIn K x
def tOf (K : PySem.W.Frag) (lam : List Str) : List (Addr × Str) := lam.filterMap fun x => (PySem.W.tabIn K x).map fun q => (q.2, (x ++ ".<locals>.") ++ "<lambda>")
/-- no two defs share a table -/
def tabsU (K : PySem.W.Frag) : List Str → Bool
  | [] => true
  | x :: r => (match PySem.W.tabIn K x with
    | some q => r.all fun y => match PySem.W.tabIn K y with
      | some p => !(p.2 == q.2)
      | none => true
    | none => true) && tabsU K r
theorem tabsU_ok {K : PySem.W.Frag} {x y : Str} {p q : Addr × Addr} : ∀ {l : List Str}, tabsU K l = true → x ∈ l → y ∈ l → PySem.W.tabIn K x = some p → PySem.W.tabIn K y = some q → p.2 = q.2 → x = y
  | [], _, h, _, _, _, _ => nomatch h
  | z :: r, h, hx, hy, e1, e2, e3 => by
    simp only [tabsU, Bool.and_eq_true] at h
    rcases List.mem_cons.mp hx with hx1 | hx1
    · rcases List.mem_cons.mp hy with hy1 | hy1
      · rw [hx1, hy1]
      · have h1 := h.1
        rw [← hx1, e1] at h1
        have h2 := List.all_eq_true.mp h1 y hy1
        rw [e2] at h2
        simp [e3] at h2
    · rcases List.mem_cons.mp hy with hy1 | hy1
      · have h1 := h.1
        rw [← hy1, e2] at h1
        have h2 := List.all_eq_true.mp h1 x hx1
        rw [e1] at h2
        simp [e3] at h2
      · exact tabsU_ok h.2 hx1 hy1 e1 e2 e3
def exG (P : Prog) (dv : List (He.Dv × D)) (lam : List Str) (K : PySem.W.Frag) : Bool := (P.consts.all fun q => conB K q.1 q.2) && (dv.all fun q => dvB K q.1 q.2) && (P.xcls.all fun x => xcB K x) && (P.xcls.isEmpty || stB K) && (P.tolds.all fun td => tdB P K td) && tabsU K lam
theorem conB_ok {Γ : Gm} {mg : Str → Option Value} {h : Heap} (X : Γ.K.In h) (N : h.Ns mainGlobals mg) {x : Str} {d : D} (c : conB Γ.K x d = true) : ∃ v u, mg x = some u ∧ RelV v u ∧ ∀ φ H, Rep Γ φ H v d := by
  unfold conB at c
  split at c
  · rename_i u q
    obtain ⟨h1, h2⟩ := repB_ok c
    exact ⟨_, u, PySem.W.mg_of X N q, h1, h2⟩
  · cases c
theorem dvB_ok {Γ : Gm} {dv : He.Dv} {d : D} (c : dvB Γ.K dv d = true) (φ : Fx) (H : Hp) : Rep Γ φ H (dv.v Γ.K) d := by
  cases dv with
  | non => cases d <;> first | (cases c; done) | exact .non
  | bl b =>
    cases d <;> first | (cases c; done) | skip
    have e := eq_of_beq c
    subst e
    exact .bl _
  | int i =>
    cases d <;> first | (cases c; done) | skip
    have e := of_decide_eq_true c
    subst e
    exact .int _
  | str i =>
    cases d <;> first | (cases c; done) | skip
    have e := of_decide_eq_true c
    subst e
    exact .str _
  | glo x =>
    cases d <;> first | (cases c; done) | skip
    unfold dvB at c
    simp only at c
    split at c
    · rename_i a q
      have e : He.ga Γ.K x = a := by unfold He.ga; rw [q]
      show Rep Γ φ H (.ref (He.ga Γ.K x)) _
      rw [e]
      exact (repB_ok c).2 φ H
    · cases c
  | byt b => cases d <;> cases c
  | flt b => cases d <;> cases c
  | ty b => cases d <;> cases c
  | adr b => cases d <;> cases c
/-! ### calls with keywords -/
def pick {α : Type} : List (Sum Nat Nat) → List α → List α → List α
  | [], _, _ => []
  | .inl j :: r, xs, ys => match xs[j]? with
    | some v => v :: pick r xs ys
    | none => pick r xs ys
  | .inr j :: r, xs, ys => match ys[j]? with
    | some v => v :: pick r xs ys
    | none => pick r xs ys
theorem pick_l {α : Type} {j : Nat} {r : List (Sum Nat Nat)} {xs ys : List α} {v : α} (h : xs[j]? = some v) : pick (.inl j :: r) xs ys = v :: pick r xs ys := by
  rw [pick, h]
theorem pick_l0 {α : Type} {j : Nat} {r : List (Sum Nat Nat)} {xs ys : List α} (h : xs[j]? = none) : pick (.inl j :: r) xs ys = pick r xs ys := by
  rw [pick, h]
theorem pick_r {α : Type} {j : Nat} {r : List (Sum Nat Nat)} {xs ys : List α} {v : α} (h : ys[j]? = some v) : pick (.inr j :: r) xs ys = v :: pick r xs ys := by
  rw [pick, h]
theorem pick_r0 {α : Type} {j : Nat} {r : List (Sum Nat Nat)} {xs ys : List α} (h : ys[j]? = none) : pick (.inr j :: r) xs ys = pick r xs ys := by
  rw [pick, h]
theorem Vals.pick {sel : List (Sum Nat Nat)} {vs ms : List V} {us mv : List Value} (h1 : Vals vs us) (h2 : Vals ms mv) : Vals (G.pick sel vs ms) (G.pick sel us mv) := by
  have get : ∀ {vs : List V} {us : List Value} (j : Nat), Vals vs us → (∃ v u, vs[j]? = some v ∧ us[j]? = some u ∧ RelV v u) ∨ (vs[j]? = none ∧ us[j]? = none) := by
    intro vs us j h
    induction h generalizing j with
    | nil => exact .inr ⟨rfl, rfl⟩
    | cons a b ih =>
      cases j with
      | zero => exact .inl ⟨_, _, rfl, rfl, a⟩
      | succ j => exact ih j
  induction sel with
  | nil => exact .nil
  | cons q r ih =>
    cases q with
    | inl j =>
      rcases get j h1 with ⟨v, u, e1, e2, e3⟩ | ⟨e1, e2⟩
      · rw [pick_l e1, pick_l e2]
        exact .cons e3 ih
      · rw [pick_l0 e1, pick_l0 e2]
        exact ih
    | inr j =>
      rcases get j h2 with ⟨v, u, e1, e2, e3⟩ | ⟨e1, e2⟩
      · rw [pick_r e1, pick_r e2]
        exact .cons e3 ih
      · rw [pick_r0 e1, pick_r0 e2]
        exact ih
/-- where each parameter's datum comes from: dd the lacking ones' -/
def srcOf (sel : List (Sum Nat Nat)) (dd : List D) : List (Sum Nat D) := sel.map fun q => match q with
  | .inl j => .inl j
  | .inr j => .inr (dd.getD j .non)
theorem reps_pick {Γ : Gm} {φ : Fx} {H : Hp} {dd : List D} {ms : List V} : ∀ {sel : List (Sum Nat Nat)} {vs : List V} {ds out : List D}, (sel.all fun q => match q with | .inl _ => true | .inr j => decide (j < dd.length)) = true → Reps Γ φ H vs ds → Reps Γ φ H ms dd → srcs (srcOf sel dd) ds = some out → Reps Γ φ H (G.pick sel vs ms) out
  | [], _, _, _, _, _, _, e => by
    simp [srcs, srcOf] at e
    subst e
    exact .nil
  | q :: r, vs, ds, out, hb, hv, hm, e => by
    simp only [List.all_cons, Bool.and_eq_true] at hb
    have e : ((match q with | .inl j => ds[j]? | .inr j => some (dd.getD j .non)).bind fun d => (srcs (srcOf r dd) ds).bind fun o => some (d :: o)) = some out := by
      rw [← e]
      unfold srcs srcOf
      rw [List.map_cons, List.mapM_cons]
      cases q <;> rfl
    cases q with
    | inl j =>
      simp only [Option.bind_eq_some_iff] at e
      obtain ⟨d, e1, o, e2, e3⟩ := e
      cases e3
      obtain ⟨v, h1, h2⟩ := hv.get e1
      rw [pick_l h1]
      exact .cons h2 (reps_pick hb.2 hv hm e2)
    | inr j =>
      simp only [Option.bind_eq_some_iff, Option.some.injEq] at e
      obtain ⟨d, e1, o, e2, e3⟩ := e
      subst e1 e3
      have hj : j < dd.length := of_decide_eq_true hb.1
      obtain ⟨v, h1, h2⟩ := hm.get (show dd[j]? = some (dd.getD j .non) by
        rw [List.getD_eq_getElem?_getD, List.getElem?_eq_getElem hj]; rfl)
      rw [pick_r h1]
      exact .cons h2 (reps_pick hb.2 hv hm e2)
theorem Vals.app {vs ws : List V} {us zs : List Value} (h1 : Vals vs us) (h2 : Vals ws zs) : Vals (vs ++ ws) (us ++ zs) := h1.append h2
section
variable {Γ : Gm} {x qual : Str} {params : Arguments} {body : List Stmt} {scope : Scope} {dvs : List V} {kws : List (Str × V)} {f : Addr} {fd : FuncData} {ps : List Str}
/-- keyword-only defaults, no others -/
theorem shOk0 (F : FunD Γ.K x qual params body scope [] kws f fd) {sh : Shape} (sel : List (Sum Nat Nat)) (dd : List D) (ms : List (Str × V)) (hk : kws ≠ []) (hms : ∀ q ∈ ms, q ∈ kws) (hsrc : sh.src = srcOf sel dd)
    (hb : (sel.all fun q => match q with | .inl _ => true | .inr j => decide (j < dd.length)) = true) (hr : ∀ φ H, Reps Γ φ H (ms.map (·.2)) dd)
    (h : ∀ (D : Addr) (doc pm : Value) (an : Option Addr) (cdv ct : Value) (us mv ws : List Value), us.length = sh.n → mv.length = ms.length → ws.length = sh.ks.length →
      KwChain D ((ms.map (·.1)).zip mv) (bindArgs (PySem.W.fnOf x qual params body scope .none (.ref D) doc pm an cdv ct) ⟨us, sh.ks.zip ws⟩) (ps.zip (pick sel (us ++ ws) mv))) : ShOk Γ Γ.K fd ps sh := by
  obtain ⟨mv, KB⟩ := F.kbinds0 sh.n sh.ks ms (fun us mv ws => pick sel (us ++ ws) mv) hk hms (fun r1 r2 r3 => Vals.pick (r1.append r3) r2) h
  refine ⟨_, _, KB, fun {φ H vs ds zs es out} r1 r2 l1 l2 e => ?_⟩
  rw [hsrc] at e
  exact reps_pick hb (r1.append r2) (hr φ H) e
/-- defaults, no keyword-only ones -/
theorem shOkD (F : FunD Γ.K x qual params body scope dvs kws f fd) {sh : Shape} (sel : List (Sum Nat Nat)) (dd : List D) (hd : dvs ≠ []) (hsrc : sh.src = srcOf sel dd)
    (hb : (sel.all fun q => match q with | .inl _ => true | .inr j => decide (j < dd.length)) = true) (hr : ∀ φ H, Reps Γ φ H dvs dd)
    (h : ∀ (T : Addr) (kV doc pm : Value) (an : Option Addr) (cdv ct : Value) (us its ws : List Value), us.length = sh.n → its.length = dvs.length → ws.length = sh.ks.length →
      ∃ k, bindArgs (PySem.W.fnOf x qual params body scope (.ref T) kV doc pm an cdv ct) ⟨us, sh.ks.zip ws⟩ = seqItems? (.ref T) >>= k ∧ k (some its.toArray) = pure (ps.zip (pick sel (us ++ ws) its))) : ShOk Γ Γ.K fd ps sh := by
  obtain ⟨its, KB⟩ := F.kbindsD sh.n sh.ks (fun us its ws => pick sel (us ++ ws) its) hd (fun r1 r2 r3 => Vals.pick (r1.append r3) r2) h
  refine ⟨_, _, KB, fun {φ H vs ds zs es out} r1 r2 l1 l2 e => ?_⟩
  rw [hsrc] at e
  exact reps_pick hb (r1.append r2) (hr φ H) e
/-- every parameter is written -/
theorem shOkN (F : FunD Γ.K x qual params body scope [] [] f fd) {sh : Shape} (sel : List (Sum Nat Nat)) (hsrc : sh.src = srcOf sel [])
    (hb : (sel.all fun q => match q with | .inl _ => true | .inr j => decide (j < ([] : List D).length)) = true)
    (h : ∀ (kV doc pm : Value) (an : Option Addr) (cdv ct : Value) (us ws : List Value), us.length = sh.n → ws.length = sh.ks.length →
      bindArgs (PySem.W.fnOf x qual params body scope .none kV doc pm an cdv ct) ⟨us, sh.ks.zip ws⟩ = pure (ps.zip (pick sel (us ++ ws) []))) : ShOk Γ Γ.K fd ps sh := by
  have KB : KBn Γ.K fd ps sh.n sh.ks (fun us ws => pick sel (us ++ ws) []) (fun vs zs => pick sel (vs ++ zs) []) := by
    obtain ⟨oc, od, dV, kV, doc, pm, an, cdv, ct, osl, rfl, lk, hcd, hD, hK⟩ := F.ex
    rcases hD with ⟨_, rfl⟩ | ⟨e, _⟩
    · exact ⟨fun s us ws X l1 l2 => .of_eq (h kV doc pm an cdv ct us ws l1 l2), fun r1 r2 => Vals.pick (r1.append r2) .nil⟩
    · exact absurd rfl e
  refine ⟨_, _, KB, fun {φ H vs ds zs es out} r1 r2 l1 l2 e => ?_⟩
  rw [hsrc] at e
  exact reps_pick hb (r1.append r2) .nil e
end
/-! ### the top -/
def ddOf (x : Str) (st : Stmt) (dfl : List He.Dv) (kwd : List (Str × He.Dv)) : He.DefD := ⟨(x, none), x, x, defArgs st, defBody st, defScope st, dfl, kwd⟩
def faOf (P : Prog) : List He.Fa := ((P.defs.map fun d => .glo d.name) ++ P.tolds.map fun d => .glo d.name) ++ bnames.map .free
/-- what is to be shown of the f-th def -/
def LamT (Γ : Gm) (cs : List (Addr × Addr)) (qual : Str) (fd : FuncData) : Prop := ∃ c T, fd.code = .ref c ∧ (c, T) ∈ cs ∧ (T, (qual ++ ".<locals>.") ++ "<lambda>") ∈ Γ.T ∧ ∀ p ∈ Γ.T, p.1 = T → p.2 = (qual ++ ".<locals>.") ++ "<lambda>"
def DefOk (Γ : Gm) (mg : Str → Option Value) (P : Prog) (cs : List (Addr × Addr)) (f : Nat) (df : Def) : Prop := ∃ x qual st dvs kws a fd, FunD Γ.K x qual (defArgs st) (defBody st) (defScope st) dvs kws a fd ∧ ckDef P df st = true ∧ mg df.name = some (.ref a) ∧ ((df.pos = true → Binds Γ.K fd df.ps []) ∧ ∀ sh ∈ P.shapes, sh.f = f → ShOk Γ Γ.K fd df.ps sh) ∧ (df.lam = true → LamT Γ cs qual fd)
theorem defOk {Γ : Gm} {mg : Str → Option Value} {P : Prog} {h : Heap} {fn : List He.DefD} {ex : PySem.W.Frag → Bool} {cs : List (Addr × Addr)} (X : Γ.K.In h) (N : h.Ns mainGlobals mg) (c : SaysG (faOf P) fn ex Γ.K) (f : Nat) {df : Def} {x : Str} {st : Stmt} {dfl : List He.Dv} {kwd : List (Str × He.Dv)}
    (hf : P.defs[f]? = some df) (hx : df.name = x) (h2 : fn[f]? = some (ddOf x st dfl kwd)) (h3 : ckDef P df st = true)
    (hb : ∀ {fd : FuncData}, FunD Γ.K x x (defArgs st) (defBody st) (defScope st) (dfl.map (He.Dv.v Γ.K)) (kwd.map fun q => (q.1, q.2.v Γ.K)) (He.ga Γ.K x) fd → (df.pos = true → Binds Γ.K fd df.ps []) ∧ ∀ sh ∈ P.shapes, sh.f = f → ShOk Γ Γ.K fd df.ps sh) (hl : ∀ {fd : FuncData}, FunD Γ.K x x (defArgs st) (defBody st) (defScope st) (dfl.map (He.Dv.v Γ.K)) (kwd.map fun q => (q.1, q.2.v Γ.K)) (He.ga Γ.K x) fd → df.lam = true → LamT Γ cs x fd) : DefOk Γ mg P cs f df := by
  obtain ⟨fd, F⟩ := c.1.def_ f h2
  have F : FunD Γ.K x x (defArgs st) (defBody st) (defScope st) (dfl.map (He.Dv.v Γ.K)) (kwd.map fun q => (q.1, q.2.v Γ.K)) (He.ga Γ.K x) fd := F
  obtain ⟨b1, b2⟩ := hb F
  have g : mg x = some (.ref (He.ga Γ.K x)) := by
    refine He.glo_ok X N (c.1.facts (List.mem_append_left _ (List.mem_append_left _ ?_)))
    rw [← hx]
    exact List.mem_map_of_mem (f := fun d : Def => He.Fa.glo d.name) (List.mem_of_getElem? hf)
  exact ⟨x, x, st, _, _, _, fd, F, h3, by rw [hx]; exact g, ⟨b1, b2⟩, hl F⟩
theorem exG_parts {P : Prog} {dv : List (He.Dv × D)} {lam : List Str} {K : PySem.W.Frag} (h : exG P dv lam K = true) : (∀ q ∈ P.consts, conB K q.1 q.2 = true) ∧ (∀ q ∈ dv, dvB K q.1 q.2 = true) ∧ (∀ x ∈ P.xcls, xcB K x = true) ∧ (P.xcls.isEmpty = true ∨ stB K = true) ∧ (∀ td ∈ P.tolds, tdB P K td = true) ∧ tabsU K lam = true := by
  unfold exG at h
  simp only [Bool.and_eq_true, List.all_eq_true, Bool.or_eq_true] at h
  exact ⟨h.1.1.1.1.1, h.1.1.1.1.2, h.1.1.1.2, h.1.1.2, h.1.2, h.2⟩
theorem topOf {prog : Program} {w : World} {Γ : Gm} {mg : Str → Option Value} {P : Prog} {base h : Heap} {fn : List He.DefD} {dv : List (He.Dv × D)} {lam : List Str} {cs : List (Addr × Addr)} (X : Γ.K.In h) (N : h.Ns mainGlobals mg) (c : SaysG (faOf P) fn (exG P dv lam) Γ.K) (hd : AllF (DefOk Γ mg P cs) 0 P.defs)
    (hx : ∀ (c : Nat) x, P.xcls[c]? = some x → ∃ C, XOk Γ prog w mg base c x C) (ht : ∀ (j : Nat) td, P.tolds[j]? = some td → ToldOk P Γ mg td) (hT : ∀ p ∈ cs, LamX.TabB base mg p.1 p.2) : Top prog w Γ mg base P := by
  refine ⟨fun x hx => ?_, fun g x d hg => ?_, fun f df hf => ?_, hx, ht⟩
  · exact He.free_ok X N (c.1.facts (List.mem_append_right _ (List.mem_map_of_mem hx)))
  · exact conB_ok X N ((exG_parts c.2).1 _ (List.mem_of_getElem? hg))
  · have := hd.get f df hf
    rw [Nat.zero_add] at this
    obtain ⟨x, qual, st, dvs, kws, a, fd, F, h1, h2, h3, h4⟩ := this
    exact ⟨x, qual, st, dvs, kws, a, fd, F, h1, h2, h3, fun hl => let ⟨c, T, e1, e2, e3, e4⟩ := h4 hl; ⟨c, T, e1, hT _ e2, e3, e4⟩⟩
theorem dv_ok {Γ : Gm} {fa : List He.Fa} {fn : List He.DefD} {P : Prog} {dv : List (He.Dv × D)} {lam : List Str} (c : SaysG fa fn (exG P dv lam) Γ.K) {q : He.Dv × D} (h : q ∈ dv) (φ : Fx) (H : Hp) : Rep Γ φ H (q.1.v Γ.K) q.2 := by
  exact dvB_ok ((exG_parts c.2).2.1 _ h) φ H
end G
namespace G
open PySem L2
def CXe : CXT := fun outer H s E u s' => ∃ P w, L2.CX P w outer H s E u s'
theorem cxe_no (H : Hp) (s : Shared) (e : Value) (s' : Shared) (h : CXe [] H s (fun _ _ _ => False) e s') : False := by
  obtain ⟨P, w, a, B, H', cls, d, _, _, _, _, _, _, _, z⟩ := h
  exact z
theorem FnOk.cxe {P : Program} {w : World} {K : PySem.W.Frag} {mg : Str → Option Value} {base : Heap} {k : Nat} {f : Addr} {fd : FuncData} {ps : List Str} {sp : Sp} (F : FnOk P w K mg base (L2.CX P w) k f fd ps sp) : FnOk P w K mg base CXe k f fd ps sp :=
  ⟨F.len, fun A outer s H args us vs Q E hr he hb hv hs => codeAny_mono (F.run A outer s H args us vs Q E hr he hb hv hs) fun r s' h => by
    cases r with
    | error e => exact ⟨P, w, h⟩
    | ok fl => cases fl <;> exact h⟩
theorem lamT_by {Γ : Gm} {x : Str} {params : Arguments} {body : List Stmt} {scope : Scope} {dvs : List V} {kws : List (Str × V)} {fd : FuncData} {lam : List Str} {h : Heap} (t : TabsG lam Γ.K h) (hT : Γ.T = tOf Γ.K lam) (hu : tabsU Γ.K lam = true) (hx : x ∈ lam) (hg : PySem.W.nsIn Γ.K mainGlobals x = some (some (.ref (He.ga Γ.K x)))) (F : FunD Γ.K x x params body scope dvs kws (He.ga Γ.K x) fd) : LamT Γ (csOf Γ.K lam) x fd := by
  obtain ⟨c, P, h1, h2, h3, h4⟩ := t x hx
  obtain ⟨oc, od, dV, kV, doc, pm, an, cdv, ct, osl, rfl, lk, hcd, _, _⟩ := F.ex
  refine ⟨c, P, ?_, List.mem_filterMap.mpr ⟨x, hx, h1⟩, ?_, fun p hp e => ?_⟩
  · show cdv = .ref c
    have h1' := h1
    unfold PySem.W.tabIn at h1'
    rw [hg] at h1'
    simp only [lk] at h1'
    cases cdv with
    | ref c2 =>
      have h5 : (match Γ.K.lookup c2 with
        | some ⟨_, _, .fields vs, _⟩ => (match (vs[11]? : Option Value) with
          | some (.ref P) => some (c2, P)
          | _ => none)
        | _ => none) = some (c, P) := h1'
      split at h5
      · split at h5
        · cases h5
          rfl
        · cases h5
      · cases h5
    | _ => cases h1'
  · rw [hT]
    exact List.mem_filterMap.mpr ⟨x, hx, by rw [h1]; rfl⟩
  · rw [hT] at hp
    obtain ⟨y, hy, e2⟩ := List.mem_filterMap.mp hp
    obtain ⟨q, e3, e4⟩ := Option.map_eq_some_iff.mp e2
    subst e4
    have := tabsU_ok hu hx hy h1 e3 e.symm
    rw [this]
theorem glo_ns {Γ : Gm} {P : Prog} {fn : List He.DefD} {ex : PySem.W.Frag → Bool} (c : SaysG (faOf P) fn ex Γ.K) {f : Nat} {df : Def} (h : P.defs[f]? = some df) : PySem.W.nsIn Γ.K mainGlobals df.name = some (some (.ref (He.ga Γ.K df.name))) :=
  He.eqO_ok (c.1.facts (f := .glo df.name) (List.mem_append_left _ (List.mem_append_left _ (List.mem_map_of_mem (f := fun d : Def => He.Fa.glo d.name) (List.mem_of_getElem? h)))))
theorem glo_td {Γ : Gm} {P : Prog} {fn : List He.DefD} {ex : PySem.W.Frag → Bool} (c : SaysG (faOf P) fn ex Γ.K) {f : Nat} {td : Told} (h : P.tolds[f]? = some td) : (He.Fa.glo td.name).ok Γ.K = true :=
  c.1.facts (f := .glo td.name) (List.mem_append_left _ (List.mem_append_right _ (List.mem_map_of_mem (f := fun d : Told => He.Fa.glo d.name) (List.mem_of_getElem? h))))
/-- the classes of exceptions, one behind another -/
def clsSt (s : Stmt) (j : Nat) : Stmt := match s with
  | .ClassDef _ _ _ b _ _ _ _ _ _ _ => b.getD j (.Pass ⟨0, 0, 0, 0⟩)
  | _ => .Pass ⟨0, 0, 0, 0⟩
def inOf (C qual : Str) (st : Stmt) : He.DefD := ⟨(C, some "__init__"), "__init__", qual, defArgs st, defBody st, defScope st, [], []⟩
def tdOf (x : Str) (st : Stmt) : He.DefD := ⟨(x, none), x, x, defArgs st, defBody st, defScope st, [], []⟩
inductive AllX (R : Nat → XCls → Prop) : Nat → List XCls → Prop
  | nil {n : Nat} : AllX R n []
  | cons {n : Nat} {d : XCls} {ds : List XCls} : R n d → AllX R (n + 1) ds → AllX R n (d :: ds)
theorem AllX.get {R : Nat → XCls → Prop} : ∀ {n : Nat} {ds : List XCls}, AllX R n ds → ∀ (f : Nat) df, ds[f]? = some df → R (n + f) df
  | _, _, .nil, f, df, h => by simp at h
  | _, _, .cons a b, 0, df, h => by simp at h; subst h; exact a
  | n, _, .cons a b, f + 1, df, h => by
    have := AllX.get b f df (by simpa using h)
    rw [Nat.add_right_comm] at this
    exact this
inductive AllT (R : Told → Prop) : List Told → Prop
  | nil : AllT R []
  | cons {d : Told} {ds : List Told} : R d → AllT R ds → AllT R (d :: ds)
theorem AllT.get {R : Told → Prop} : ∀ {ds : List Told}, AllT R ds → ∀ d ∈ ds, R d
  | _, .nil, _, h => nomatch h
  | _, .cons a b, d, h => by
    rcases List.mem_cons.mp h with e | e
    · rw [e]; exact a
    · exact AllT.get b d e
/-- a law's end over a head by facts, with tables -/
theorem walk_ofET {l : PySem.W.OpenLaw} {n k : Nat} {q : Program} {loose : List Str} {XP : (Str → Option Value) → Heap → Prop} {YP : World → Heap → Prop} {d : DefRec} {CX : CXT} {x : Str}
    (hn : l.most = some n) (hn2 : n ≤ sizeLine) (hdf : d.params.defaults = []) (hr : Room k callerA)
    (F : ∀ (w : World) (mg : Str → Option Value) (fa : Addr) (h : Heap), YP w h → h.Ns mainGlobals mg → mg d.name = some (.ref fa) →
      ∃ (K : PySem.W.Frag) (fd : FuncData) (cs : List (Addr × Addr)) (sp : Sp), K.In h ∧ (∀ p ∈ cs, h.get? p.2 = some { cls := .none, data := .fields #[] }) ∧ (∀ p ∈ cs, K.lookup p.2 = none) ∧ (∀ p ∈ cs, PySem.W.CodeHd h p.1 p.2) ∧ (∀ (s : Shared) (u : Value), BindsTo s fd ⟨[u], []⟩ [(x, u)]) ∧
        (∀ (H : Hp) (a : Addr) (ns : List Int), ns.length ≤ n → (∀ z ∈ ns, Builtin.Int.intBits z ≤ 1048576) → (∀ p ∈ cs, H p.2 = some (.tbl #[])) → SqL K H a (ns.map V.int) → sp [.ref a] H (fun v _ => v = .bl true) fun _ _ _ => False) ∧
        ∀ base : Heap, K.In base → base.Ns mainGlobals mg → (∀ p ∈ cs, LamX.TabB base mg p.1 p.2) → FnOk l.prog w K mg base CX k fa fd [x] sp)
    (hCX : ∀ (H : Hp) (s : Shared) (e : Value) (s' : Shared), CX [] H s (fun _ _ _ => False) e s' → False) :
    PySem.W.WalkO q loose XP YP l.row.toRowW d [] (fun f vs => PySem.call f vs) := by
  refine Att.attach_callB hn hdf fun w s₀ s₁ mg mb fa o pm cd doc a vs ns G Y ho hd hcd hmg hobj hints hlen hbits hg => ?_
  obtain ⟨K, fd, cs, sp, KX, hT, nT, C, hb, hsp, hF⟩ := F w mg fa _ Y G.T.g hmg
  exact LamX.law_callTs KX G.T.g G.T.b G.T.builtins G.T.nolimit hg hT nT C G.T.bmain hobj hints (Nat.le_trans hlen hn2) hr hF hb (fun H hH hS => hsp H a ns hlen hbits hH hS) fun H e s' => hCX H s₁ e s'
/-- the end: what the law's def answers is all that is left to be shown -/
theorem law_end {prog : Program} {w : World} {Γ : Gm} {mg : Str → Option Value} {h : Heap} {P : Prog} {k f : Nat} {df : Def} {a : Addr} {x : Str} {st : Stmt} {fd : FuncData} {n : Nat} {lam : List Str} (KX : Γ.K.In h) (tg : TabsG lam Γ.K h) (hTt : Γ.T = tOf Γ.K lam) (hm : mg x = some (.ref a)) (T : ∀ base : Heap, (∀ p ∈ csOf Γ.K lam, LamX.TabB base mg p.1 p.2) → Top prog w Γ mg base P)
    (hf : P.defs[f]? = some df) (hx : df.name = x) (hps : df.ps = [("_law_script" : Str)]) (F : FunD Γ.K x x (defArgs st) (defBody st) (defScope st) [] [] a fd)
    (hb : ∀ (kV doc pm : Value) (an : Option Addr) (cdv ct : Value) (us : List Value), us.length = ([("_law_script" : Str)] : List Str).length → bindArgs (PySem.W.fnOf x x (defArgs st) (defBody st) (defScope st) .none kV doc pm an cdv ct) ⟨us, []⟩ = pure (([("_law_script" : Str)] : List Str).zip us))
    (hs : ∀ ns : List Int, ns.length ≤ n → (∀ z ∈ ns, Builtin.Int.intBits z ≤ 1048576) → ∃ s', callD P k f [.scr ns] [] = .ok (.bl true) s')
    : ∃ (K : PySem.W.Frag) (fd : FuncData) (cs : List (Addr × Addr)) (sp : Sp), K.In h ∧ (∀ p ∈ cs, h.get? p.2 = some { cls := .none, data := .fields #[] }) ∧ (∀ p ∈ cs, K.lookup p.2 = none) ∧ (∀ p ∈ cs, PySem.W.CodeHd h p.1 p.2) ∧ (∀ (s : Shared) (u : Value), BindsTo s fd ⟨[u], []⟩ [(("_law_script" : Str), u)]) ∧
        (∀ (H : Hp) (a : Addr) (ns : List Int), ns.length ≤ n → (∀ z ∈ ns, Builtin.Int.intBits z ≤ 1048576) → (∀ p ∈ cs, H p.2 = some (.tbl #[])) → SqL K H a (ns.map V.int) → sp [.ref a] H (fun v _ => v = .bl true) fun _ _ _ => False) ∧
        ∀ base : Heap, K.In base → base.Ns mainGlobals mg → (∀ p ∈ cs, LamX.TabB base mg p.1 p.2) → FnOk prog w K mg base CXe (3 * k + 3) a fd [("_law_script" : Str)] sp := by
  have b := FunD.bindsA (ps := [("_law_script" : Str)]) F hb
  have look : ∀ p ∈ csOf Γ.K lam, ∃ x ∈ lam, PySem.W.tabIn Γ.K x = some p ∧ PySem.W.codeHdIn Γ.K p.1 p.2 = true ∧ h.get? p.2 = some (PySem.W.tabObj #[]) ∧ Γ.K.lookup p.2 = none := fun p hp => by
    obtain ⟨x, hx, e⟩ := List.mem_filterMap.mp hp
    obtain ⟨c, P, h1, h2, h3, h4⟩ := tg x hx
    rw [h1] at e
    cases e
    exact ⟨x, hx, h1, h2, h3, h4⟩
  refine ⟨Γ.K, fd, csOf Γ.K lam, spD Γ 1 (callD P k f), KX, fun p hp => let ⟨_, _, _, _, z, _⟩ := look p hp; z, fun p hp => let ⟨_, _, _, _, _, z⟩ := look p hp; z, fun p hp => let ⟨_, _, _, z, _⟩ := look p hp; PySem.W.codeHd_of_K KX z, fun s v => b s [v] rfl, fun H a ns hl hbits hT hS => law_sp H a ns (hs ns hl hbits) ?_ hS, fun base _ _ hTB => ?_⟩
  · intro p hp
    rw [hTt] at hp
    obtain ⟨x, hx, e⟩ := List.mem_filterMap.mp hp
    obtain ⟨q, e1, e2⟩ := Option.map_eq_some_iff.mp e
    subst e2
    exact LamX.TabS.nil (hT q (List.mem_filterMap.mpr ⟨x, hx, e1⟩))
  · obtain ⟨a', fd', h1, h2, h3, h4, h5, oc', od', osl', lk'⟩ := all_ok (T base hTB) k f df hf
    rw [hx, hm] at h1
    cases h1
    obtain ⟨oc, od, _, _, _, _, _, _, _, osl, _, lk, _⟩ := F.ex
    rw [lk] at lk'
    cases lk'
    rw [hps] at h3
    exact FnOk.cxe h3
end G

set_option Elab.async false
set_option linter.all false
set_option maxRecDepth 100000
/-! Plain laws about the evaluator and whole numbers; no program in sight. -/
namespace G
open PySem

/-! ### calls -/
def RS.fin (keep : Bool) (n : Nat) : RS → R D
  | .rt d s' => leave keep n d s'
  | .nx _ s' => leave keep n .non s'
  | .exc c fs _ s' => leaveX n c fs s'
  | _ => .stuck
theorem callD_fin {P : Prog} {k f : Nat} {df : Def} (hf : P.defs[f]? = some df) {ds : List D} {s : Stt} (hl : ds.length = df.ps.length) : callD P (k + 1) f ds s = RS.fin df.keep s.length (evSs P (callD P k) df.body (ds.map some ++ List.replicate (df.N.length - ds.length) none) s) := by
  rw [callD_ok hf hl]
  cases evSs P (callD P k) df.body (ds.map some ++ List.replicate (df.N.length - ds.length) none) s <;> rfl
theorem leave_eq {keep : Bool} {n : Nat} {d : D} {s : Stt} (h : s.length = n) : leave keep n d s = .ok d s := by
  unfold leave
  split
  · rfl
  · first | rw [if_pos h] | simp [h]
theorem leaveX_eq {n c : Nat} {fs : List D} {s : Stt} (h : s.length = n) : leaveX n c fs s = .exc c fs s := if_pos h
theorem leave_self {keep : Bool} {d : D} {s : Stt} : leave keep s.length d s = .ok d s := leave_eq rfl
theorem leave_cons {keep : Bool} {d : D} {b : Cell} {s : Stt} : leave keep (s.length + 1) d (b :: s) = .ok d (b :: s) := leave_eq rfl

/-! ### loops -/
theorem loopW_inv {c : Env → Stt → R Bool} {body : Env → Stt → RS} {s : Stt} {α : Type} (env : α → Env) (I : α → Prop) (go : α → Bool) (nxt : α → α) (μ : α → Nat) (hc : ∀ x, I x → c (env x) s = .ok (go x) s)
    (hb : ∀ x, I x → go x = true → body (env x) s = .nx (env (nxt x)) s ∧ I (nxt x) ∧ μ (nxt x) < μ x) : ∀ (n : Nat) (x : α), I x → μ x < n → ∃ y, loopW c body n (env x) s = .nx (env y) s ∧ I y ∧ go y = false
  | 0, x, _, h => by omega
  | n + 1, x, hI, h => by
    unfold loopW
    rw [hc x hI]
    cases e : go x with
    | false => exact ⟨x, rfl, hI, e⟩
    | true =>
      obtain ⟨h1, h2, h3⟩ := hb x hI e
      obtain ⟨y, h4, h5⟩ := loopW_inv env I go nxt μ hc hb n (nxt x) h2 (by omega)
      refine ⟨y, ?_, h5⟩
      show (match body (env x) s with
        | .nx ρ' s' => loopW c body n ρ' s'
        | .ct ρ' s' => loopW c body n ρ' s'
        | .bk ρ' s' => .nx ρ' s'
        | .rt d s' => .rt d s'
        | .exc c fs ρ' s' => .exc c fs ρ' s'
        | .stuck => .stuck) = _
      rw [h1]
      exact h4
/-- every turn goes on; env and store by an invariant that counts the turns -/
theorem loopF_inv {body : D → Env → Stt → RS} (I : Nat → Env → Stt → Prop) : ∀ (ds : List D) (n : Nat) (ρ : Env) (s : Stt), I n ρ s → (∀ i d ρ s, ds[i]? = some d → I (n + i) ρ s → ∃ ρ' s', body d ρ s = .nx ρ' s' ∧ I (n + i + 1) ρ' s') → ∃ ρ' s', loopF body ds ρ s = .nx ρ' s' ∧ I (n + ds.length) ρ' s'
  | [], n, ρ, s, h, _ => ⟨ρ, s, rfl, h⟩
  | d :: ds, n, ρ, s, h, hb => by
    obtain ⟨ρ1, s1, e1, h1⟩ := hb 0 d ρ s rfl h
    obtain ⟨ρ2, s2, e2, h2⟩ := loopF_inv I ds (n + 1) ρ1 s1 h1 fun i d ρ s hi hI => by
      have := hb (i + 1) d ρ s hi (by rw [← Nat.add_assoc, Nat.add_right_comm]; exact hI)
      rw [← Nat.add_assoc, Nat.add_right_comm n i 1] at this
      exact this
    refine ⟨ρ2, s2, ?_, by rw [List.length_cons, Nat.add_comm ds.length, ← Nat.add_assoc]; exact h2⟩
    unfold loopF
    rw [e1]
    exact e2
theorem loopC_inv {body : D → List D → Stt → R (List D)} (I : Nat → List D → Stt → Prop) : ∀ (ds : List D) (n : Nat) (acc : List D) (s : Stt), I n acc s → (∀ i d acc s, ds[i]? = some d → I (n + i) acc s → ∃ acc' s', body d acc s = .ok acc' s' ∧ I (n + i + 1) acc' s') → ∃ acc' s', loopC body ds acc s = .ok acc' s' ∧ I (n + ds.length) acc' s'
  | [], n, ρ, s, h, _ => ⟨ρ, s, rfl, h⟩
  | d :: ds, n, ρ, s, h, hb => by
    obtain ⟨ρ1, s1, e1, h1⟩ := hb 0 d ρ s rfl h
    obtain ⟨ρ2, s2, e2, h2⟩ := loopC_inv I ds (n + 1) ρ1 s1 h1 fun i d ρ s hi hI => by
      have := hb (i + 1) d ρ s hi (by rw [← Nat.add_assoc, Nat.add_right_comm]; exact hI)
      rw [← Nat.add_assoc, Nat.add_right_comm n i 1] at this
      exact this
    refine ⟨ρ2, s2, ?_, by rw [List.length_cons, Nat.add_comm ds.length, ← Nat.add_assoc]; exact h2⟩
    unfold loopC
    rw [e1]
    exact e2
/-- a comprehension that maps, the store as it is -/
theorem loopC_map {body : D → List D → Stt → R (List D)} {s : Stt} (f : D → D) : ∀ (ds acc : List D), acc.length + ds.length ≤ sizeLine → (∀ d acc, d ∈ ds → acc.length < sizeLine → body d acc s = .ok (acc ++ [f d]) s) → loopC body ds acc s = .ok (acc ++ ds.map f) s
  | [], acc, _, _ => by simp [loopC]
  | d :: ds, acc, hl, h => by
    rw [List.length_cons] at hl
    unfold loopC
    rw [h d acc (List.mem_cons_self ..) (by omega)]
    show loopC body ds (acc ++ [f d]) s = _
    rw [loopC_map f ds (acc ++ [f d]) (by rw [List.length_append, List.length_singleton]; omega) fun d acc hd => h d acc (List.mem_cons_of_mem _ hd)]
    simp
theorem evSs_cons {P : Prog} {call : CallS} {a : S} {r : List S} {ρ : Env} {s : Stt} : evSs P call (a :: r) ρ s = (evS P call a ρ s).seq fun ρ s => evSs P call r ρ s := by rw [evSs]
theorem evSs_nil {P : Prog} {call : CallS} {ρ : Env} {s : Stt} : evSs P call [] ρ s = .nx ρ s := by rw [evSs]
theorem seq_nx {ρ : Env} {s : Stt} {f : Env → Stt → RS} : (RS.nx ρ s).seq f = f ρ s := rfl
theorem seq_rt {d : D} {s : Stt} {f : Env → Stt → RS} : (RS.rt d s).seq f = .rt d s := rfl
theorem st_ok {α : Type} {a : α} {s : Stt} {ρ : Env} {f : α → Stt → RS} : (R.ok a s).st ρ f = f a s := rfl
theorem of_some {α : Type} {a : α} {s : Stt} : R.of (some a) s = .ok a s := rfl
theorem fin_rt {keep : Bool} {n : Nat} {d : D} {s : Stt} : RS.fin keep n (.rt d s) = leave keep n d s := rfl
theorem fin_nx {keep : Bool} {n : Nat} {ρ : Env} {s : Stt} : RS.fin keep n (.nx ρ s) = leave keep n .non s := rfl

def compB (P : Prog) (call : CallS) (e : E) (own tg : List Nat) (c : Option E) (ρ : Env) (d : D) (acc : List D) (s : Stt) : R (List D) := match tgF tg d (wipeE ρ own) with
  | none => .stuck
  | some ρ' => (evC P call c ρ' s).bind fun k s => if k = true then (evE P call e ρ' s).bind fun y s => if acc.length < sizeLine then .ok (acc ++ [y]) s else .stuck else .ok acc s
theorem evE_comp {P : Prog} {call : CallS} {cell : Bool} {e : E} {own tg : List Nat} {k : It} {src : List E} {c : Option E} {ρ : Env} {s : Stt} : evE P call (.comp cell e own tg k src c) ρ s = ((evEs P call src ρ s).bind fun ds s => R.of (srcF k s ds) s).bind fun xs s => (loopC (compB P call e own tg c ρ) xs [] s).bind fun acc s =>
    if cell = true then .ok (.ref s.length) (s ++ [.lst acc]) else .ok (.lst acc) s := by rw [evE]; rfl
def forB (P : Prog) (call : CallS) (tg : List Nat) (b : List S) (d : D) (ρ : Env) (s : Stt) : RS := match tgF tg d ρ with
  | none => .stuck
  | some ρ' => evSs P call b ρ' s
theorem evS_for {P : Prog} {call : CallS} {tg : List Nat} {k : It} {src : List E} {b : List S} {ρ : Env} {s : Stt} : evS P call (.for tg k src b) ρ s = ((evEs P call src ρ s).bind fun ds s => R.of (srcF k s ds) s).st ρ fun xs s => loopF (forB P call tg b) xs ρ s := by rw [evS]; rfl
theorem rbind_ok {α β : Type} {a : α} {s : Stt} {f : α → Stt → R β} : (R.ok a s).bind f = f a s := rfl
theorem compB_of {P : Prog} {call : CallS} {e : E} {own tg : List Nat} {ρ ρ' : Env} {d y : D} {acc : List D} {s s' : Stt} (h1 : tgF tg d (wipeE ρ own) = some ρ') (h2 : evE P call e ρ' s = .ok y s') (ha : acc.length < sizeLine) : compB P call e own tg none ρ d acc s = .ok (acc ++ [y]) s' := by
  unfold compB
  rw [h1]
  show (evC P call none ρ' s).bind _ = _
  rw [evC, rbind_ok, if_pos rfl, h2, rbind_ok, if_pos ha]
theorem tg_own {v : Nat} {d : D} {ρ : Env} : tgF [v] d (wipeE ρ [v]) = some (ρ.set v (some d)) := by
  show some ((wipeE ρ [v]).set v (some d)) = _
  simp [wipeE]
/-! ### sizes -/
theorem log2_lt' {n k : Nat} (h : n < 2 ^ k) (hk : 0 < k) : n.log2 < k := by
  by_cases e : n = 0
  · subst e
    simpa using hk
  · exact (Nat.log2_lt e).mpr h
theorem log2_le {n k : Nat} (h : n < 2 ^ k) : n.log2 ≤ k := by
  by_cases e : n = 0
  · subst e
    simp
  · exact Nat.le_of_lt ((Nat.log2_lt e).mpr h)
theorem lt_WF {n k : Nat} (h : n < 2 ^ k) (hk : k ≤ 1000000) : n < WF := by
  unfold WF
  exact Nat.lt_of_lt_of_le h (Nat.pow_le_pow_right (by decide) hk)
theorem bin_mul {i j : Int} {m n : Nat} (h1 : i.natAbs < 2 ^ m) (h2 : j.natAbs < 2 ^ n) (h : m + n < 1000000) : binF .mul (.int i) (.int j) = some (.int (i * j)) := by
  show (if i.natAbs.log2 + j.natAbs.log2 < 1000000 then some (D.int (i * j)) else none) = _
  rw [if_pos]
  have := log2_le h1
  have := log2_le h2
  omega
theorem bin_fdiv {i j : Int} {n : Nat} (h0 : 0 < j) (h2 : j.natAbs < 2 ^ n) (h : n < 9000) : binF .fdiv (.int i) (.int j) = some (.int (i / j)) := by
  show (if 0 < j ∧ j.natAbs.log2 < 9000 then some (D.int (i / j)) else none) = _
  rw [if_pos]
  have := log2_le h2
  exact ⟨h0, by omega⟩
theorem bin_mod {i j : Int} (h0 : 0 < j) : binF .mod (.int i) (.int j) = some (.int (i % j)) := by
  show (if 0 < j then some (D.int (i % j)) else none) = _
  rw [if_pos h0]
theorem bin_add {i j : Int} : binF .add (.int i) (.int j) = some (.int (i + j)) := rfl
theorem bin_sub {i j : Int} : binF .sub (.int i) (.int j) = some (.int (i - j)) := rfl
theorem eqF_int {i j : Int} : eqF (.int i) (.int j) = some (decide (i = j)) := by
  have h : ∀ i : Int, SeqAt.shaped (PyData.int i) = true := fun i => by simp [SeqAt.shaped, PyData.canLay0, PyData.depth]
  simp only [eqF, D.toP, h, and_self, if_true, PyData.eqv, Option.some.injEq]
  by_cases e : i = j <;> simp [e]
theorem eqF_bl {i j : Bool} : eqF (.bl i) (.bl j) = some (i == j) := by
  have h : ∀ i : Bool, SeqAt.shaped (PyData.bool i) = true := fun i => by simp [SeqAt.shaped, PyData.canLay0, PyData.depth]
  simp only [eqF, D.toP, h, and_self, if_true, PyData.eqv]
/-! plain data: trees of at most n levels -/
/-- texts -/
def Tx (t : T) : Prop := t.length ≤ 1000 ∧ ∀ c ∈ t, c < 1114112
theorem Tx.app {a b : T} (h1 : Tx a) (h2 : Tx b) (h : a.length + b.length ≤ 1000) : Tx (a ++ b) := ⟨by simpa using h, fun c hc => by
  rcases List.mem_append.mp hc with q | q
  · exact h1.2 c q
  · exact h2.2 c q⟩
theorem Tx.le {t : T} (h : Tx t) : t.length ≤ sizeLine := Nat.le_trans h.1 (by decide)
def txB (t : T) : Bool := t.all fun c => decide (c < 1114112)
theorem Tx.b {t : T} (h : Tx t) : txB t = true := List.all_eq_true.mpr fun c hc => decide_eq_true (h.2 c hc)
theorem txB_ok {t : T} (h : txB t = true) : PyData.strOk (tS t) = true := by
  unfold PyData.strOk tS
  simp
  intro c hc
  exact of_decide_eq_true (List.all_eq_true.mp h c hc)
theorem eqF_strB {a b : T} (h1 : txB a = true) (h2 : txB b = true) : eqF (.str a) (.str b) = some (decide (a = b)) := by
  have h : ∀ t : T, txB t = true → SeqAt.shaped (PyData.str (tS t)) = true := fun t ht => by
    simp [SeqAt.shaped, PyData.canLay0, PyData.depth, txB_ok ht]
  simp only [eqF, D.toP, h a h1, h b h2, and_self, if_true, PyData.eqv, Option.some.injEq]
  by_cases e : a = b
  · subst e; simp
  · have : ¬ tS a = tS b := fun z => e (tS_inj z)
    simp [e, this]
theorem eqF_str {a b : T} (h1 : Tx a) (h2 : Tx b) : eqF (.str a) (.str b) = some (decide (a = b)) := eqF_strB h1.b h2.b
mutual
def D.pl (n : Nat) : D → Bool
  | .non => true
  | .bl _ => true
  | .int _ => true
  | .str t => txB t
  | .tup xs => decide (0 < n ∧ xs.length ≤ 1000000) && D.pls (n - 1) xs
  | .lst xs => decide (0 < n ∧ xs.length ≤ 1000000) && D.pls (n - 1) xs
  | _ => false
def D.pls (n : Nat) : List D → Bool
  | [] => true
  | x :: xs => D.pl n x && D.pls n xs
end
mutual
theorem pl_toP {n : Nat} : ∀ {d : D}, D.pl n d = true → ∃ p, d.toP = some p ∧ p.canLay0 = true ∧ p.depth ≤ n ∧ PyData.eqv p p = true
  | .non, _ => ⟨_, rfl, by simp [PyData.canLay0], by simp [PyData.depth], by simp [PyData.eqv]⟩
  | .bl _, _ => ⟨_, rfl, by simp [PyData.canLay0], by simp [PyData.depth], by simp [PyData.eqv]⟩
  | .int _, _ => ⟨_, rfl, by simp [PyData.canLay0], by simp [PyData.depth], by simp [PyData.eqv]⟩
  | .str t, h => ⟨_, rfl, by simp only [D.pl] at h; simp [PyData.canLay0, txB_ok h], by simp [PyData.depth], by simp [PyData.eqv]⟩
  | .tup xs, h => by
    simp only [D.pl, Bool.and_eq_true, decide_eq_true_eq] at h
    obtain ⟨ps, e, h1, h2, h3⟩ := pls_toP h.2
    exact ⟨.tuple ps, by simp [D.toP, e], by simpa [PyData.canLay0] using h1, by simp only [PyData.depth]; omega, by simpa [PyData.eqv] using h3⟩
  | .lst xs, h => by
    simp only [D.pl, Bool.and_eq_true, decide_eq_true_eq] at h
    obtain ⟨ps, e, h1, h2, h3⟩ := pls_toP h.2
    exact ⟨.list ps, by simp [D.toP, e], by simpa [PyData.canLay0] using h1, by simp only [PyData.depth]; omega, by simpa [PyData.eqv] using h3⟩
  | .scr _, h => by simp [D.pl] at h
  | .ins _ _, h => by simp [D.pl] at h
  | .ref _, h => by simp [D.pl] at h
  | .dfn _, h => by simp [D.pl] at h
theorem pls_toP {n : Nat} : ∀ {ds : List D}, D.pls n ds = true → ∃ ps, D.toPs ds = some ps ∧ PyData.canLayAll0 ps = true ∧ PyData.depthAll ps ≤ n ∧ PyData.eqvAll ps ps = true
  | [], _ => ⟨[], rfl, by simp [PyData.canLayAll0], by simp [PyData.depthAll], by simp [PyData.eqvAll]⟩
  | d :: ds, h => by
    simp only [D.pls, Bool.and_eq_true] at h
    obtain ⟨p, e, h1, h2, h3⟩ := pl_toP h.1
    obtain ⟨ps, e', h1', h2', h3'⟩ := pls_toP h.2
    exact ⟨p :: ps, by simp [D.toPs, e, e'], by simp [PyData.canLayAll0, h1, h1'], by simp only [PyData.depthAll]; omega, by simp [PyData.eqvAll, h3, h3']⟩
end
theorem eqF_self {n : Nat} {d : D} (h : D.pl n d = true) (hn : n ≤ 64) : eqF d d = some true := by
  obtain ⟨p, e, h1, h2, h3⟩ := pl_toP h
  have : SeqAt.shaped p = true := by
    simp only [SeqAt.shaped, h1, Bool.true_and, decide_eq_true_eq]
    omega
  simp only [eqF, e, this, and_self, if_true, h3]

/-! ### parts -/
def qD (q : Rat) : D := .tup [.int q.num, .int q.den]
def Sz (n : Nat) (q : Rat) : Prop := q.num.natAbs < 2 ^ n ∧ q.den < 2 ^ n
theorem Sz.mono {m n : Nat} {q : Rat} (h : Sz m q) (hn : m ≤ n) : Sz n q := ⟨Nat.lt_of_lt_of_le h.1 (Nat.pow_le_pow_right (by decide) hn), Nat.lt_of_lt_of_le h.2 (Nat.pow_le_pow_right (by decide) hn)⟩
theorem pl_qD (q : Rat) : D.pl 1 (qD q) = true := rfl
theorem eqF_qD {p q : Rat} : eqF (qD p) (qD q) = some (decide (p = q)) := by
  have h : ∀ p : Rat, SeqAt.shaped (PyData.tuple [.int p.num, .int p.den]) = true := fun p => by simp [SeqAt.shaped, PyData.canLay0, PyData.canLayAll0, PyData.depth, PyData.depthAll]
  have e : ∀ p : Rat, (qD p).toP = some (PyData.tuple [.int p.num, .int p.den]) := fun p => rfl
  simp only [eqF, e, h, and_self, if_true, PyData.eqv, PyData.eqvAll, Bool.and_true, Option.some.injEq]
  by_cases q' : p = q
  · subst q'
    simp
  · have : ¬ (p.num = q.num ∧ (p.den : Int) = q.den) := fun ⟨a, b⟩ => q' (Rat.ext a (by exact_mod_cast b))
    simp only [q', decide_false, Bool.and_eq_false_iff, beq_eq_false_iff_ne, ne_eq]
    by_cases c : p.num = q.num
    · exact .inr fun z => this ⟨c, z⟩
    · exact .inl c
theorem Sz.divInt {n : Nat} {a b : Int} (h0 : b ≠ 0) (ha : a.natAbs < 2 ^ n) (hb : b.natAbs < 2 ^ n) : Sz n (Rat.divInt a b) := by
  constructor
  · rw [Rat.num_divInt, Int.natAbs_ediv_of_dvd]
    · refine Nat.lt_of_le_of_lt (Nat.div_le_self _ _) ?_
      rw [Int.natAbs_mul]
      refine Nat.lt_of_le_of_lt ?_ ha
      refine Nat.le_trans (Nat.mul_le_mul_right _ (show b.sign.natAbs ≤ 1 from ?_)) (Nat.le_of_eq (Nat.one_mul _))
      rw [Int.natAbs_sign]
      split <;> omega
    · exact Int.dvd_mul_of_dvd_right (Int.gcd_dvd_right ..)
  · rw [Rat.den_divInt, if_neg h0]
    exact Nat.lt_of_le_of_lt (Nat.div_le_self _ _) hb
end G

set_option Elab.async false
set_option linter.all false
set_option maxRecDepth 100000
set_option exponentiation.threshold 300
/-! What the shared defs compute, by their written bodies. -/
namespace G
open PySem
def B_low : List S := [.par [2, 3] [.bi .abs (.var 0), .bi .abs (.var 1)], .while (.cmp .ne (.var 3) (.int 0)) [.par [2, 3] [.var 3, .bin .sub (.var 2) (.bin .mul (.bin .fdiv (.var 2) (.var 3)) (.var 3))]], .set 4 (.ite (.cmp .gt (.var 1) (.int 0)) (.int 1) (.neg (.int 1))), .ret (.tup [.bin .fdiv (.bin .mul (.var 4) (.var 0)) (.var 2), .bin .fdiv (.bin .mul (.var 4) (.var 1)) (.var 2)])]
def B_llow : List S := [.par [2, 3] [.bi .abs (.var 0), .bi .abs (.var 1)], .while (.cmp .ne (.var 3) (.int 0)) [.par [2, 3] [.var 3, .bin .mod (.var 2) (.var 3)]], .set 4 (.ite (.cmp .gt (.var 1) (.int 0)) (.int 1) (.neg (.int 1))), .ret (.tup [.bin .fdiv (.bin .mul (.var 4) (.var 0)) (.var 2), .bin .fdiv (.bin .mul (.var 4) (.var 1)) (.var 2)])]
section
variable {P : Prog} {call : CallS} {s : Stt}
theorem abs_eq (i : Int) : (if i < 0 then -i else i) = (i.natAbs : Int) := by split <;> omega
/-- the greatest common divisor, by either way of taking a rest -/
theorem euclid {w : List S} {a b : Int} {n : Nat} (hn : n < 9000) (hw : ∀ o t : Int, 0 ≤ o → 0 < t → o.natAbs < 2 ^ n → t.natAbs < 2 ^ n → evSs P call w [some (.int a), some (.int b), some (.int o), some (.int t), none] s = .nx [some (.int a), some (.int b), some (.int t), some (.int (o % t)), none] s)
    (o t : Int) (ho : 0 ≤ o) (ht : 0 ≤ t) (ho2 : o.natAbs < 2 ^ n) (ht2 : t.natAbs < 2 ^ n) : evS P call (.while (.cmp .ne (.var 3) (.int 0)) w) [some (.int a), some (.int b), some (.int o), some (.int t), none] s = .nx [some (.int a), some (.int b), some (.int (Int.gcd o t)), some (.int 0), none] s := by
  rw [evS]
  obtain ⟨y, h1, h2, h3⟩ := loopW_inv (c := evT P call (.cmp .ne (.var 3) (.int 0))) (body := evSs P call w) (s := s) (α := Int × Int) (fun x => [some (.int a), some (.int b), some (.int x.1), some (.int x.2), none])
    (fun x => 0 ≤ x.1 ∧ 0 ≤ x.2 ∧ x.1.natAbs < 2 ^ n ∧ x.2.natAbs < 2 ^ n ∧ Int.gcd x.1 x.2 = Int.gcd o t) (fun x => !decide (x.2 = 0)) (fun x => (x.2, x.1 % x.2)) (fun x => x.2.natAbs)
    (fun x _ => by simp [evT, evE, R.of, R.bind, cmpF, eqF_int])
    (fun x ⟨h1, h2, h3, h4, h5⟩ h6 => by
      simp only [Bool.not_eq_true', decide_eq_false_iff_not] at h6
      have p : 0 < x.2 := by omega
      have m0 := Int.emod_nonneg x.1 h6
      have m1 := Int.emod_lt_of_pos x.1 p
      refine ⟨hw x.1 x.2 h1 p h3 h4, ⟨h2, m0, h4, ?_, ?_⟩, ?_⟩
      · show (x.1 % x.2).natAbs < _
        have : (x.1 % x.2).natAbs < x.2.natAbs := by omega
        omega
      · show Int.gcd x.2 (x.1 % x.2) = _
        rw [← h5, Int.gcd_comm x.1 x.2]
        conv => rhs; rw [← Int.emod_add_ediv_mul x.1 x.2]
        rw [Int.gcd_add_mul_right_right]
      · show (x.1 % x.2).natAbs < x.2.natAbs
        omega)
    WF (o, t) ⟨ho, ht, ho2, ht2, rfl⟩ (lt_WF ht2 (by omega))
  rw [h1]
  obtain ⟨q1, q2, q3, q4, q5⟩ := h2
  have e : y.2 = 0 := by simpa using h3
  have e2 : y.1 = (Int.gcd o t : Int) := by
    rw [← q5, e, Int.gcd_zero_right]
    omega
  rw [e, e2]
theorem low_tail {a b : Int} {n : Nat} (h0 : b ≠ 0) (ha : a.natAbs < 2 ^ n) (hb : b.natAbs < 2 ^ n) (hn : n < 9000) {g : Int} (hg : g = (Int.gcd a b : Int)) : evSs P call [.set 4 (.ite (.cmp .gt (.var 1) (.int 0)) (.int 1) (.neg (.int 1))), .ret (.tup [.bin .fdiv (.bin .mul (.var 4) (.var 0)) (.var 2), .bin .fdiv (.bin .mul (.var 4) (.var 1)) (.var 2)])] [some (.int a), some (.int b), some (.int g), some (.int 0), none] s = .rt (qD (Rat.divInt a b)) s := by
  have gp : 0 < g := by
    rw [hg]
    exact_mod_cast Int.gcd_pos_of_ne_zero_right a h0
  have gl : g.natAbs < 2 ^ n := by
    refine Nat.lt_of_le_of_lt ?_ hb
    rw [hg, Int.natAbs_natCast]
    exact Nat.le_of_dvd (by omega) (Int.gcd_dvd_natAbs_right a b)
  have sg : ∀ z : Int, (if 0 < b then (1 : Int) else -1) * z = b.sign * z := fun z => by
    by_cases p : 0 < b
    · rw [if_pos p, Int.sign_eq_one_of_pos p]
    · rw [if_neg p, Int.sign_eq_neg_one_of_neg (by omega)]
  have e1 : evS P call (.set 4 (.ite (.cmp .gt (.var 1) (.int 0)) (.int 1) (.neg (.int 1)))) [some (.int a), some (.int b), some (.int g), some (.int 0), none] s = .nx [some (.int a), some (.int b), some (.int g), some (.int 0), some (.int (if 0 < b then (1 : Int) else -1))] s := by
    by_cases p : 0 < b <;> simp [evS, evT, evE, R.of, R.bind, R.st, cmpF, p]
  have m1 := bin_mul (i := if 0 < b then (1 : Int) else -1) (j := a) (m := 1) (n := n) (by split <;> decide) ha (by omega)
  have m2 := bin_mul (i := if 0 < b then (1 : Int) else -1) (j := b) (m := 1) (n := n) (by split <;> decide) hb (by omega)
  have m3 := fun i => bin_fdiv (i := i) gp gl hn
  rw [evSs_cons, e1, seq_nx, evSs_cons]
  simp only [evS, evE, evEs, R.of, R.bind, R.st, RS.seq, List.getElem?_cons_zero, List.getElem?_cons_succ, Option.join_some, m1, m2, m3, List.length_cons, List.length_nil]
  rw [if_pos (by decide)]
  unfold qD
  have sb : b.sign * b = (b.natAbs : Int) := by
    rcases Int.lt_or_gt_of_ne h0 with p | p
    · rw [Int.sign_eq_neg_one_of_neg p]; omega
    · rw [Int.sign_eq_one_of_pos p]; omega
  rw [Rat.num_divInt, Rat.den_divInt, if_neg h0, sg, sg, hg, Int.gcd_comm b a, sb]
  rfl
end
theorem run_low {P : Prog} {call : CallS} {s : Stt} {a b : Int} {n : Nat} (h0 : b ≠ 0) (ha : a.natAbs < 2 ^ n) (hb : b.natAbs < 2 ^ n) (hn : n < 9000) : evSs P call B_low [some (.int a), some (.int b), none, none, none] s = .rt (qD (Rat.divInt a b)) s := by
  unfold B_low
  rw [evSs_cons]
  have e1 : evS P call (.par [2, 3] [.bi .abs (.var 0), .bi .abs (.var 1)]) [some (.int a), some (.int b), none, none, none] s = .nx [some (.int a), some (.int b), some (.int a.natAbs), some (.int b.natAbs), none] s := by
    simp [evS, evE, evEs, R.of, R.bind, R.st, biF, abs_eq]
  rw [e1, seq_nx, evSs_cons, euclid hn (fun o t ho ht ho2 ht2 => ?_) _ _ (by omega) (by omega) (by simpa using ha) (by simpa using hb), seq_nx]
  · exact low_tail h0 ha hb hn (by simp [Int.gcd])
  · have m1 := fun i => bin_fdiv (i := i) ht ht2 hn
    have q1 : (o / t).natAbs < 2 ^ n := by
      refine Nat.lt_of_le_of_lt ?_ ho2
      exact Int.natAbs_ediv_le_natAbs o t
    have m2 := bin_mul q1 ht2 (by omega)
    have e : o - o / t * t = o % t := by
      have := Int.emod_add_ediv_mul o t
      omega
    simp [evSs, evS, evE, evEs, R.of, R.bind, R.st, RS.seq, m1, m2, bin_sub, e]
theorem run_llow {P : Prog} {call : CallS} {s : Stt} {a b : Int} {n : Nat} (h0 : b ≠ 0) (ha : a.natAbs < 2 ^ n) (hb : b.natAbs < 2 ^ n) (hn : n < 9000) : evSs P call B_llow [some (.int a), some (.int b), none, none, none] s = .rt (qD (Rat.divInt a b)) s := by
  unfold B_llow
  rw [evSs_cons]
  have e1 : evS P call (.par [2, 3] [.bi .abs (.var 0), .bi .abs (.var 1)]) [some (.int a), some (.int b), none, none, none] s = .nx [some (.int a), some (.int b), some (.int a.natAbs), some (.int b.natAbs), none] s := by
    simp [evS, evE, evEs, R.of, R.bind, R.st, biF, abs_eq]
  rw [e1, seq_nx, evSs_cons, euclid hn (fun o t ho ht ho2 ht2 => ?_) _ _ (by omega) (by omega) (by simpa using ha) (by simpa using hb), seq_nx]
  · exact low_tail h0 ha hb hn (by simp [Int.gcd])
  · have m1 := fun i => bin_mod (i := i) ht
    simp [evSs, evS, evE, evEs, R.of, R.bind, R.st, RS.seq, m1]
end G

set_option Elab.async false
set_option linter.all false
set_option maxRecDepth 100000
set_option exponentiation.threshold 300
/-! The bag of draws; sums and the like of parts; calls by what they promise. -/
namespace G
open PySem L2
theorem callD_rt {P : Prog} {k f : Nat} {df : Def} {ds : List D} {s s' : Stt} {d : D} (hf : P.defs[f]? = some df) (hl : ds.length = df.ps.length) (h : evSs P (callD P k) df.body (ds.map some ++ List.replicate (df.N.length - ds.length) none) s = .rt d s') (hs : s'.length = s.length) : callD P (k + 1) f ds s = .ok d s' := by
  rw [callD_fin hf hl, h, fin_rt, leave_eq hs]
/-! ### parts -/
def LowOk (call : CallS) (f : Nat) : Prop := ∀ (a b : Int) (n : Nat) (s : Stt), b ≠ 0 → a.natAbs < 2 ^ n → b.natAbs < 2 ^ n → n < 9000 → call f [.int a, .int b] s = .ok (qD (Rat.divInt a b)) s
def OpOk (op : Rat → Rat → Rat) (call : CallS) (f : Nat) : Prop := ∀ (p q : Rat) (m n : Nat) (s : Stt), Sz m p → Sz n q → m + n + 1 < 9000 → call f [qD p, qD q] s = .ok (qD (op p q)) s
def PerOk (call : CallS) (f : Nat) : Prop := ∀ (p q : Rat) (m n : Nat) (s : Stt), q ≠ 0 → Sz m p → Sz n q → m + n + 1 < 9000 → call f [qD p, qD q] s = .ok (qD (p / q)) s
theorem lowOk {P : Prog} {k f : Nat} {df : Def} (hf : P.defs[f]? = some df) (h1 : df.ps.length = 2) (h2 : df.N.length = 5) (hb : df.body = B_low) : LowOk (callD P (k + 1)) f := fun a b n s h0 ha hb' hn => by
  refine callD_rt hf h1.symm ?_ rfl
  rw [hb, h2]
  exact run_low h0 ha hb' hn
theorem llowOk {P : Prog} {k f : Nat} {df : Def} (hf : P.defs[f]? = some df) (h1 : df.ps.length = 2) (h2 : df.N.length = 5) (hb : df.body = B_llow) : LowOk (callD P (k + 1)) f := fun a b n s h0 ha hb' hn => by
  refine callD_rt hf h1.symm ?_ rfl
  rw [hb, h2]
  exact run_llow h0 ha hb' hn
theorem den_ne (q : Rat) : (q.den : Int) ≠ 0 := by exact_mod_cast q.den_nz
theorem den_ne' (q : Rat) : ((q.den : Int) : Rat) ≠ 0 := by
  intro h
  exact den_ne q (by exact_mod_cast h)
theorem rat_eq (q : Rat) : q = ((q.num : Int) : Rat) / ((q.den : Int) : Rat) := by
  conv => lhs; rw [← Rat.num_divInt_den q]
  rw [Rat.divInt_eq_div]
theorem q_add (p q : Rat) : Rat.divInt (p.num * q.den + q.num * p.den) (p.den * q.den) = p + q := by
  rw [Rat.divInt_eq_div, Rat.intCast_add, Rat.intCast_mul, Rat.intCast_mul, Rat.intCast_mul]
  have e1 := rat_eq p
  have e2 := rat_eq q
  have n1 := den_ne' p
  have n2 := den_ne' q
  generalize ((p.num : Int) : Rat) = a at *
  generalize ((p.den : Int) : Rat) = b at *
  generalize ((q.num : Int) : Rat) = c at *
  generalize ((q.den : Int) : Rat) = d at *
  rw [e1, e2]
  grind
theorem q_sub (p q : Rat) : Rat.divInt (p.num * q.den - q.num * p.den) (p.den * q.den) = p - q := by
  rw [Rat.divInt_eq_div, Rat.intCast_sub, Rat.intCast_mul, Rat.intCast_mul, Rat.intCast_mul]
  have e1 := rat_eq p
  have e2 := rat_eq q
  have n1 := den_ne' p
  have n2 := den_ne' q
  generalize ((p.num : Int) : Rat) = a at *
  generalize ((p.den : Int) : Rat) = b at *
  generalize ((q.num : Int) : Rat) = c at *
  generalize ((q.den : Int) : Rat) = d at *
  rw [e1, e2]
  grind
theorem q_mul (p q : Rat) : Rat.divInt (p.num * q.num) (p.den * q.den) = p * q := by
  rw [Rat.divInt_eq_div, Rat.intCast_mul, Rat.intCast_mul]
  have e1 := rat_eq p
  have e2 := rat_eq q
  have n1 := den_ne' p
  have n2 := den_ne' q
  generalize ((p.num : Int) : Rat) = a at *
  generalize ((p.den : Int) : Rat) = b at *
  generalize ((q.num : Int) : Rat) = c at *
  generalize ((q.den : Int) : Rat) = d at *
  rw [e1, e2]
  grind
theorem num_ne {q : Rat} (h : q ≠ 0) : q.num ≠ 0 := fun e => h (by
  have := rat_eq q
  rw [e] at this
  rw [this]
  simp [Rat.div_def])
theorem q_div (p q : Rat) (h : q ≠ 0) : Rat.divInt (p.num * q.den) (p.den * q.num) = p / q := by
  rw [Rat.divInt_eq_div, Rat.intCast_mul, Rat.intCast_mul]
  have e1 := rat_eq p
  have e2 := rat_eq q
  have n1 := den_ne' p
  have n2 := den_ne' q
  have n3 : ((q.num : Int) : Rat) ≠ 0 := fun e => num_ne h (by exact_mod_cast e)
  generalize ((p.num : Int) : Rat) = a at *
  generalize ((p.den : Int) : Rat) = b at *
  generalize ((q.num : Int) : Rat) = c at *
  generalize ((q.den : Int) : Rat) = d at *
  rw [e1, e2]
  grind
theorem Sz.mulN {m n : Nat} {i j : Int} (h1 : i.natAbs < 2 ^ m) (h2 : j.natAbs < 2 ^ n) : (i * j).natAbs < 2 ^ (m + n) := by
  rw [Int.natAbs_mul, Nat.pow_add]
  exact Nat.mul_lt_mul'' h1 h2
theorem Sz.up {a m n : Nat} (h : a < 2 ^ m) (hn : m ≤ n) : a < 2 ^ n := Nat.lt_of_lt_of_le h (Nat.pow_le_pow_right (by decide) hn)
theorem Sz.addN {n : Nat} {i j : Int} (h1 : i.natAbs < 2 ^ n) (h2 : j.natAbs < 2 ^ n) : (i + j).natAbs < 2 ^ (n + 1) := by
  rw [Nat.pow_succ]
  omega
theorem Sz.subN {n : Nat} {i j : Int} (h1 : i.natAbs < 2 ^ n) (h2 : j.natAbs < 2 ^ n) : (i - j).natAbs < 2 ^ (n + 1) := by
  rw [Nat.pow_succ]
  omega
theorem Sz.den {n : Nat} {q : Rat} (h : Sz n q) : (q.den : Int).natAbs < 2 ^ n := by simpa using h.2
theorem mul_ne {a b : Int} (h1 : a ≠ 0) (h2 : b ≠ 0) : a * b ≠ 0 := Int.mul_ne_zero h1 h2
theorem Sz.add {m n : Nat} {p q : Rat} (h1 : Sz m p) (h2 : Sz n q) : Sz (m + n + 1) (p + q) := by
  rw [← q_add]
  refine Sz.divInt (mul_ne (den_ne p) (den_ne q)) (Sz.addN (Sz.mulN h1.1 h2.den) ?_) (Sz.up (Sz.mulN h1.den h2.den) (by omega))
  rw [Nat.add_comm m n]
  exact Sz.mulN h2.1 h1.den
theorem Sz.sub {m n : Nat} {p q : Rat} (h1 : Sz m p) (h2 : Sz n q) : Sz (m + n + 1) (p - q) := by
  rw [← q_sub]
  refine Sz.divInt (mul_ne (den_ne p) (den_ne q)) (Sz.subN (Sz.mulN h1.1 h2.den) ?_) (Sz.up (Sz.mulN h1.den h2.den) (by omega))
  rw [Nat.add_comm m n]
  exact Sz.mulN h2.1 h1.den
theorem Sz.mul {m n : Nat} {p q : Rat} (h1 : Sz m p) (h2 : Sz n q) : Sz (m + n) (p * q) := by
  rw [← q_mul]
  exact Sz.divInt (mul_ne (den_ne p) (den_ne q)) (Sz.mulN h1.1 h2.1) (Sz.mulN h1.den h2.den)
theorem Sz.div {m n : Nat} {p q : Rat} (h : q ≠ 0) (h1 : Sz m p) (h2 : Sz n q) : Sz (m + n) (p / q) := by
  rw [← q_div p q h]
  exact Sz.divInt (mul_ne (den_ne p) (num_ne h)) (Sz.mulN h1.1 h2.den) (Sz.mulN h1.den h2.1)
theorem ix_q0 {s : Stt} {q : Rat} : ixF s (qD q) (.int 0) = some (.int q.num) := rfl
theorem ix_q1 {s : Stt} {q : Rat} : ixF s (qD q) (.int 1) = some (.int q.den) := rfl
def B_plus (low : Nat) : List S := [.ret (.call low [.bin .add (.bin .mul (.ix (.var 0) (.int 0)) (.ix (.var 1) (.int 1))) (.bin .mul (.ix (.var 1) (.int 0)) (.ix (.var 0) (.int 1))), .bin .mul (.ix (.var 0) (.int 1)) (.ix (.var 1) (.int 1))])]
def B_less (low : Nat) : List S := [.ret (.call low [.bin .sub (.bin .mul (.ix (.var 0) (.int 0)) (.ix (.var 1) (.int 1))) (.bin .mul (.ix (.var 1) (.int 0)) (.ix (.var 0) (.int 1))), .bin .mul (.ix (.var 0) (.int 1)) (.ix (.var 1) (.int 1))])]
def B_times (low : Nat) : List S := [.ret (.call low [.bin .mul (.ix (.var 0) (.int 0)) (.ix (.var 1) (.int 0)), .bin .mul (.ix (.var 0) (.int 1)) (.ix (.var 1) (.int 1))])]
def B_per (low : Nat) : List S := [.ret (.call low [.bin .mul (.ix (.var 0) (.int 0)) (.ix (.var 1) (.int 1)), .bin .mul (.ix (.var 0) (.int 1)) (.ix (.var 1) (.int 0))])]
section
variable {P : Prog} {k f low : Nat} {df : Def}
theorem plusOk (hf : P.defs[f]? = some df) (h1 : df.ps.length = 2) (h2 : df.N.length = 2) (hb : df.body = B_plus low) (hl : LowOk (callD P k) low) : OpOk (· + ·) (callD P (k + 1)) f := fun p q m n s hp hq hn => by
  refine callD_rt hf h1.symm ?_ rfl
  rw [hb, h2]
  have m1 := bin_mul hp.1 hq.den (by omega)
  have m2 := bin_mul hq.1 hp.den (by omega)
  have m3 := bin_mul hp.den hq.den (by omega)
  have l := hl _ _ (m + n + 1) s (mul_ne (den_ne p) (den_ne q)) (Sz.addN (Sz.mulN hp.1 hq.den) (by rw [Nat.add_comm m n]; exact Sz.mulN hq.1 hp.den)) (Sz.up (Sz.mulN hp.den hq.den) (by omega)) hn
  rw [q_add] at l
  simp [B_plus, evSs, evS, evE, evEs, R.of, R.bind, R.st, RS.seq, ix_q0, ix_q1, m1, m2, m3, bin_add, l]
theorem lessOk (hf : P.defs[f]? = some df) (h1 : df.ps.length = 2) (h2 : df.N.length = 2) (hb : df.body = B_less low) (hl : LowOk (callD P k) low) : OpOk (· - ·) (callD P (k + 1)) f := fun p q m n s hp hq hn => by
  refine callD_rt hf h1.symm ?_ rfl
  rw [hb, h2]
  have m1 := bin_mul hp.1 hq.den (by omega)
  have m2 := bin_mul hq.1 hp.den (by omega)
  have m3 := bin_mul hp.den hq.den (by omega)
  have l := hl _ _ (m + n + 1) s (mul_ne (den_ne p) (den_ne q)) (Sz.subN (Sz.mulN hp.1 hq.den) (by rw [Nat.add_comm m n]; exact Sz.mulN hq.1 hp.den)) (Sz.up (Sz.mulN hp.den hq.den) (by omega)) hn
  rw [q_sub] at l
  simp [B_less, evSs, evS, evE, evEs, R.of, R.bind, R.st, RS.seq, ix_q0, ix_q1, m1, m2, m3, bin_sub, l]
theorem timesOk (hf : P.defs[f]? = some df) (h1 : df.ps.length = 2) (h2 : df.N.length = 2) (hb : df.body = B_times low) (hl : LowOk (callD P k) low) : OpOk (· * ·) (callD P (k + 1)) f := fun p q m n s hp hq hn => by
  refine callD_rt hf h1.symm ?_ rfl
  rw [hb, h2]
  have m1 := bin_mul hp.1 hq.1 (by omega)
  have m3 := bin_mul hp.den hq.den (by omega)
  have l := hl _ _ (m + n) s (mul_ne (den_ne p) (den_ne q)) (Sz.mulN hp.1 hq.1) (Sz.mulN hp.den hq.den) (by omega)
  rw [q_mul] at l
  simp [B_times, evSs, evS, evE, evEs, R.of, R.bind, R.st, RS.seq, ix_q0, ix_q1, m1, m3, l]
theorem perOk (hf : P.defs[f]? = some df) (h1 : df.ps.length = 2) (h2 : df.N.length = 2) (hb : df.body = B_per low) (hl : LowOk (callD P k) low) : PerOk (callD P (k + 1)) f := fun p q m n s h0 hp hq hn => by
  refine callD_rt hf h1.symm ?_ rfl
  rw [hb, h2]
  have m1 := bin_mul hp.1 hq.den (by omega)
  have m3 := bin_mul hp.den hq.1 (by omega)
  have l := hl _ _ (m + n) s (mul_ne (den_ne p) (num_ne h0)) (Sz.mulN hp.1 hq.den) (Sz.mulN hp.den hq.1) (by omega)
  rw [q_div p q h0] at l
  simp [B_per, evSs, evS, evE, evEs, R.of, R.bind, R.st, RS.seq, ix_q0, ix_q1, m1, m3, l]
end
/-! ### the bag -/
def bagC (cs : List Int) (i cur seed : Int) : Cell := .lst [.lst (cs.map .int), .int i, .int cur, .int seed]
def BagOK (c : Cell) : Prop := ∃ (cs : List Int) (i cur seed : Int), c = bagC cs i cur seed ∧ 0 ≤ i ∧ i ≤ cs.length ∧ 0 ≤ cur ∧ 0 ≤ seed ∧ seed < 2147483647
def PullOk (call : CallS) (f : Nat) : Prop := ∀ (b : Cell) (rest : Stt) (many : Int) (n : Nat), BagOK b → 0 < many → many.natAbs < 2 ^ n → n < 9000 → ∃ v b', call f [.ref 0, .int many] (b :: rest) = .ok (.int v) (b' :: rest) ∧ BagOK b' ∧ 0 ≤ v ∧ v < many
def B_pull1 : S := .ite (.and [.cmp .eq (.ix (.var 0) (.int 2)) (.int 0), .cmp .lt (.ix (.var 0) (.int 1)) (.bi .len (.ix (.var 0) (.int 0)))]) [.set 2 (.ix (.ix (.var 0) (.int 0)) (.ix (.var 0) (.int 1))), .setix (.var 0) (.int 1) (.bin .add (.ix (.var 0) (.int 1)) (.int 1)), .ite (.cmp .ge (.var 2) (.bin .pow (.int 10) (.int 18))) [.setix (.var 0) (.int 2) (.var 2)] [.setix (.var 0) (.int 3) (.bin .mod (.bin .add (.bin .add (.bin .mul (.ix (.var 0) (.int 3)) (.int 69621)) (.bin .mul (.bin .mod (.var 2) (.int 2147483629)) (.int 48271))) (.int 7)) (.int 2147483647))]] []
def B_pull2 : List S := [.ite (.cmp .gt (.ix (.var 0) (.int 2)) (.int 0)) [.set 3 (.bin .mod (.ix (.var 0) (.int 2)) (.var 1)), .setix (.var 0) (.int 2) (.bin .fdiv (.ix (.var 0) (.int 2)) (.var 1)), .ret (.var 3)] [], .set 4 (.ix (.var 0) (.int 3)), .set 4 (.bin .mod (.bin .add (.bin .add (.bin .mul (.bin .mod (.bin .mul (.var 4) (.var 4)) (.int 2147483587)) (.int 5)) (.bin .mul (.var 4) (.int 16807))) (.int 1013904229)) (.int 2147483647)), .setix (.var 0) (.int 3) (.var 4), .ret (.bin .mod (.bin .add (.bin .fdiv (.var 4) (.int 53)) (.bin .mul (.bin .mod (.var 4) (.int 8191)) (.int 31))) (.var 1))]
def B_pull : List S := B_pull1 :: B_pull2
section
variable {cs : List Int} {i cur seed : Int} {rest : Stt} {P : Prog} {call : CallS}
theorem ix_bag0 : ixF (bagC cs i cur seed :: rest) (.ref 0) (.int 0) = some (.lst (cs.map .int)) := rfl
theorem ix_bag1 : ixF (bagC cs i cur seed :: rest) (.ref 0) (.int 1) = some (.int i) := rfl
theorem ix_bag2 : ixF (bagC cs i cur seed :: rest) (.ref 0) (.int 2) = some (.int cur) := rfl
theorem ix_bag3 : ixF (bagC cs i cur seed :: rest) (.ref 0) (.int 3) = some (.int seed) := rfl
theorem small_mul {i j : Int} (h1 : 0 ≤ i) (h2 : i < 4294967296) (h3 : 0 ≤ j) (h4 : j < 4294967296) : binF .mul (.int i) (.int j) = some (.int (i * j)) := by
  refine bin_mul (m := 32) (n := 32) ?_ ?_ (by decide)
  · have : (2 : Nat) ^ 32 = 4294967296 := by decide
    omega
  · have : (2 : Nat) ^ 32 = 4294967296 := by decide
    omega
theorem set_bag {ρ : Env} {a b c d e : Option D} {j : Nat} {z : Int} {x : E} {y : Int} {xs : List D} (h : evE P call x (some (.ref 0) :: ρ) (.lst xs :: rest) = .ok (.int y) (.lst xs :: rest)) (hj : ixN xs.length z = some j) : evS P call (.setix (.var 0) (.int z) x) (some (.ref 0) :: ρ) (.lst xs :: rest) = .nx (some (.ref 0) :: ρ) (.lst (xs.set j (.int y)) :: rest) := by
  simp only [evS, h, R.st, evE, R.of, List.getElem?_cons_zero, Option.join_some, hj, List.set_cons_zero]
theorem atI_of {α : Type} {xs : List α} {i : Int} {x : α} (h0 : 0 ≤ i) (h : xs[i.toNat]? = some x) : atI xs i = some x := by
  have hl := (List.getElem?_eq_some_iff.mp h).1
  unfold atI ixN
  rw [if_pos h0, if_pos (by omega)]
  exact h
theorem pow18 : binF .pow (.int 10) (.int 18) = some (.int 1000000000000000000) := by
  show (if 0 ≤ (18 : Int) ∧ (18 : Int) ≤ 1000000 ∧ (10 : Int).natAbs < 2 ^ 64 then some (D.int (10 ^ (18 : Int).toNat)) else none) = _
  rw [if_pos ⟨by decide, by decide, by decide⟩]
  rfl
theorem pull1 {m : D} {o : Option D} (h0 : 0 ≤ i) (h1 : i ≤ cs.length) (h2 : 0 ≤ cur) (h3 : 0 ≤ seed) (h4 : seed < 2147483647) : ∃ i' cur' seed' o', evS P call B_pull1 [some (.ref 0), some m, o, none, none] (bagC cs i cur seed :: rest) = .nx [some (.ref 0), some m, o', none, none] (bagC cs i' cur' seed' :: rest) ∧ 0 ≤ i' ∧ i' ≤ cs.length ∧ 0 ≤ cur' ∧ 0 ≤ seed' ∧ seed' < 2147483647 := by
  by_cases c1 : cur = 0
  · by_cases c2 : i < cs.length
    · have hi : i.toNat < cs.length := by omega
      have x : ixF (bagC cs i cur seed :: rest) (.lst (cs.map .int)) (.int i) = some (.int cs[i.toNat]) := by
        show atI (cs.map D.int) i = _
        exact atI_of h0 (by rw [List.getElem?_map, List.getElem?_eq_getElem hi]; rfl)
      generalize cs[i.toNat] = z at x
      have e1 : ∀ ρ, evS P call (.setix (.var 0) (.int 1) (.bin .add (.ix (.var 0) (.int 1)) (.int 1))) (some (.ref 0) :: ρ) (bagC cs i cur seed :: rest) = .nx (some (.ref 0) :: ρ) (bagC cs (i + 1) cur seed :: rest) := fun ρ => by
        unfold bagC
        rw [set_bag (a := none) (b := none) (c := none) (d := none) (e := none) (j := 1) (y := i + 1) ?_ rfl]
        · rfl
        · have := @ix_bag1 cs i cur seed rest
          unfold bagC at this
          simp [evE, R.of, R.bind, this, bin_add]
      have e0 : evT P call (.and [.cmp .eq (.ix (.var 0) (.int 2)) (.int 0), .cmp .lt (.ix (.var 0) (.int 1)) (.bi .len (.ix (.var 0) (.int 0)))]) [some (.ref 0), some m, o, none, none] (bagC cs i cur seed :: rest) = .ok true (bagC cs i cur seed :: rest) := by
        simp [evT, evTAnd, evE, R.of, R.bind, ix_bag0, ix_bag1, ix_bag2, biF, itemsF, cmpF, eqF_int, c1, c2]
      have ea : evS P call (.set 2 (.ix (.ix (.var 0) (.int 0)) (.ix (.var 0) (.int 1)))) [some (.ref 0), some m, o, none, none] (bagC cs i cur seed :: rest) = .nx [some (.ref 0), some m, some (.int z), none, none] (bagC cs i cur seed :: rest) := by
        simp [evS, evE, R.of, R.bind, R.st, ix_bag0, ix_bag1, x]
      by_cases c3 : (1000000000000000000 : Int) ≤ z
      · refine ⟨i + 1, z, seed, some (.int z), ?_, by omega, by omega, by omega, h3, h4⟩
        have e2 : ∀ ρ, evS P call (.setix (.var 0) (.int 2) (.var 2)) (some (.ref 0) :: some m :: some (.int z) :: ρ) (bagC cs (i + 1) cur seed :: rest) = .nx (some (.ref 0) :: some m :: some (.int z) :: ρ) (bagC cs (i + 1) z seed :: rest) := fun ρ => by
          unfold bagC
          rw [set_bag (a := none) (b := none) (c := none) (d := none) (e := none) (j := 2) (y := z) ?_ rfl]
          · rfl
          · simp [evE, R.of]
        have e4 : evT P call (.cmp .ge (.var 2) (.bin .pow (.int 10) (.int 18))) [some (.ref 0), some m, some (.int z), none, none] (bagC cs (i + 1) cur seed :: rest) = .ok true (bagC cs (i + 1) cur seed :: rest) := by
          simp [evT, evE, R.of, R.bind, pow18, cmpF, c3]
        rw [B_pull1, evS, e0, st_ok, if_pos rfl, evSs_cons, ea, seq_nx, evSs_cons, e1, seq_nx, evSs_cons, evS, e4, st_ok, if_pos rfl, evSs_cons, e2, seq_nx, evSs_nil, seq_nx, evSs_nil]
      · refine ⟨i + 1, cur, (seed * 69621 + z % 2147483629 * 48271 + 7) % 2147483647, some (.int z), ?_, by omega, by omega, h2, by omega, by omega⟩
        have e2 : ∀ ρ, evS P call (.setix (.var 0) (.int 3) (.bin .mod (.bin .add (.bin .add (.bin .mul (.ix (.var 0) (.int 3)) (.int 69621)) (.bin .mul (.bin .mod (.var 2) (.int 2147483629)) (.int 48271))) (.int 7)) (.int 2147483647))) (some (.ref 0) :: some m :: some (.int z) :: ρ) (bagC cs (i + 1) cur seed :: rest) = .nx (some (.ref 0) :: some m :: some (.int z) :: ρ) (bagC cs (i + 1) cur ((seed * 69621 + z % 2147483629 * 48271 + 7) % 2147483647) :: rest) := fun ρ => by
          unfold bagC
          rw [set_bag (a := none) (b := none) (c := none) (d := none) (e := none) (j := 3) (y := (seed * 69621 + z % 2147483629 * 48271 + 7) % 2147483647) ?_ rfl]
          · rfl
          · have q := @ix_bag3 cs (i + 1) cur seed rest
            unfold bagC at q
            have m1 := small_mul (i := seed) (j := 69621) h3 (by omega) (by omega) (by omega)
            have m2 := small_mul (i := z % 2147483629) (j := 48271) (by omega) (by omega) (by omega) (by omega)
            have m3 := bin_mod (i := z) (j := 2147483629) (by omega)
            have m4 := bin_mod (i := seed * 69621 + z % 2147483629 * 48271 + 7) (j := 2147483647) (by omega)
            simp [evE, R.of, R.bind, q, bin_add, m1, m2, m3, m4]
        have e4 : evT P call (.cmp .ge (.var 2) (.bin .pow (.int 10) (.int 18))) [some (.ref 0), some m, some (.int z), none, none] (bagC cs (i + 1) cur seed :: rest) = .ok false (bagC cs (i + 1) cur seed :: rest) := by
          simp [evT, evE, R.of, R.bind, pow18, cmpF, c3]
        rw [B_pull1, evS, e0, st_ok, if_pos rfl, evSs_cons, ea, seq_nx, evSs_cons, e1, seq_nx, evSs_cons, evS, e4, st_ok, if_neg (by decide), evSs_cons, e2, seq_nx, evSs_nil, seq_nx, evSs_nil]
    · refine ⟨i, cur, seed, o, ?_, h0, h1, h2, h3, h4⟩
      simp [B_pull1, evS, evSs, evT, evTAnd, evE, R.of, R.bind, R.st, ix_bag0, ix_bag1, ix_bag2, biF, itemsF, cmpF, eqF_int, c1, c2]
  · refine ⟨i, cur, seed, o, ?_, h0, h1, h2, h3, h4⟩
    simp [B_pull1, evS, evSs, evT, evTAnd, evE, R.of, R.bind, R.st, ix_bag2, cmpF, eqF_int, c1]
theorem pull2 {many : Int} {o : Option D} {n : Nat} (hm : 0 < many) (hn : many.natAbs < 2 ^ n) (hk : n < 9000) (h0 : 0 ≤ i) (h1 : i ≤ cs.length) (h2 : 0 ≤ cur) (h3 : 0 ≤ seed) (h4 : seed < 2147483647) : ∃ v b', evSs P call B_pull2 [some (.ref 0), some (.int many), o, none, none] (bagC cs i cur seed :: rest) = .rt (.int v) (b' :: rest) ∧ BagOK b' ∧ 0 ≤ v ∧ v < many := by
  have q0 := fun z => bin_mod (i := z) hm
  have q1 := fun z => bin_fdiv (i := z) hm hn hk
  by_cases c1 : 0 < cur
  · refine ⟨cur % many, bagC cs i (cur / many) seed, ?_, ⟨cs, i, cur / many, seed, rfl, h0, h1, Int.ediv_nonneg h2 (by omega), h3, h4⟩, Int.emod_nonneg _ (by omega), Int.emod_lt_of_pos _ hm⟩
    have e2 : ∀ ρ, evS P call (.setix (.var 0) (.int 2) (.bin .fdiv (.ix (.var 0) (.int 2)) (.var 1))) (some (.ref 0) :: some (.int many) :: ρ) (bagC cs i cur seed :: rest) = .nx (some (.ref 0) :: some (.int many) :: ρ) (bagC cs i (cur / many) seed :: rest) := fun ρ => by
      unfold bagC
      rw [set_bag (a := none) (b := none) (c := none) (d := none) (e := none) (j := 2) (y := cur / many) ?_ rfl]
      · rfl
      · have q := @ix_bag2 cs i cur seed rest
        unfold bagC at q
        simp [evE, R.of, R.bind, q, q1]
    have e1 : ∀ ρ, evS P call (.set 3 (.bin .mod (.ix (.var 0) (.int 2)) (.var 1))) (some (.ref 0) :: some (.int many) :: ρ) (bagC cs i cur seed :: rest) = .nx ((some (.ref 0) :: some (.int many) :: ρ).set 3 (some (.int (cur % many)))) (bagC cs i cur seed :: rest) := fun ρ => by
      simp [evS, evE, R.of, R.bind, R.st, ix_bag2, q0]
    have e0 : ∀ ρ, evT P call (.cmp .gt (.ix (.var 0) (.int 2)) (.int 0)) (some (.ref 0) :: ρ) (bagC cs i cur seed :: rest) = .ok true (bagC cs i cur seed :: rest) := fun ρ => by
      simp [evT, evE, R.of, R.bind, ix_bag2, cmpF, c1]
    rw [B_pull2, evSs_cons]
    have e3 : evS P call (.ite (.cmp .gt (.ix (.var 0) (.int 2)) (.int 0)) [.set 3 (.bin .mod (.ix (.var 0) (.int 2)) (.var 1)), .setix (.var 0) (.int 2) (.bin .fdiv (.ix (.var 0) (.int 2)) (.var 1)), .ret (.var 3)] []) [some (.ref 0), some (.int many), o, none, none] (bagC cs i cur seed :: rest) = .rt (.int (cur % many)) (bagC cs i (cur / many) seed :: rest) := by
      rw [evS, e0, st_ok, if_pos rfl, evSs_cons, e1, seq_nx, evSs_cons]
      simp only [List.set_cons_succ, List.set_cons_zero]
      rw [e2, seq_nx]
      simp [evSs, evS, evE, R.of, R.st, RS.seq]
    rw [e3, seq_rt]
  · obtain ⟨x, hx⟩ : ∃ x : Int, x = (seed * seed % 2147483587 * 5 + seed * 16807 + 1013904229) % 2147483647 := ⟨_, rfl⟩
    have x0 : 0 ≤ x := by omega
    have x1 : x < 2147483647 := by omega
    refine ⟨(x / 53 + x % 8191 * 31) % many, bagC cs i cur x, ?_, ⟨cs, i, cur, x, rfl, h0, h1, h2, x0, x1⟩, Int.emod_nonneg _ (by omega), Int.emod_lt_of_pos _ hm⟩
    have e0 : ∀ ρ, evT P call (.cmp .gt (.ix (.var 0) (.int 2)) (.int 0)) (some (.ref 0) :: ρ) (bagC cs i cur seed :: rest) = .ok false (bagC cs i cur seed :: rest) := fun ρ => by
      simp [evT, evE, R.of, R.bind, ix_bag2, cmpF, c1]
    have e2 : ∀ (a b c : Option D), evS P call (.setix (.var 0) (.int 3) (.var 4)) [some (.ref 0), a, b, c, some (.int x)] (bagC cs i cur seed :: rest) = .nx [some (.ref 0), a, b, c, some (.int x)] (bagC cs i cur x :: rest) := fun a b c => by
      unfold bagC
      rw [set_bag (a := none) (b := none) (c := none) (d := none) (e := none) (j := 3) (y := x) ?_ rfl]
      · rfl
      · simp [evE, R.of]
    have m1 := small_mul (i := seed) (j := seed) h3 (by omega) h3 (by omega)
    have m2 := small_mul (i := seed * seed % 2147483587) (j := 5) (by omega) (by omega) (by omega) (by omega)
    have m3 := small_mul (i := seed) (j := 16807) h3 (by omega) (by omega) (by omega)
    have m4 := small_mul (i := x % 8191) (j := 31) (by omega) (by omega) (by omega) (by omega)
    have d1 := fun z => bin_mod (i := z) (j := 2147483587) (by omega)
    have d2 := fun z => bin_mod (i := z) (j := 2147483647) (by omega)
    have d3 := fun z => bin_mod (i := z) (j := 8191) (by omega)
    have d4 := fun z => bin_fdiv (i := z) (j := 53) (n := 6) (by omega) (by decide) (by decide)
    have e5 : evS P call (.set 4 (.bin .mod (.bin .add (.bin .add (.bin .mul (.bin .mod (.bin .mul (.var 4) (.var 4)) (.int 2147483587)) (.int 5)) (.bin .mul (.var 4) (.int 16807))) (.int 1013904229)) (.int 2147483647))) [some (.ref 0), some (.int many), o, none, some (.int seed)] (bagC cs i cur seed :: rest) = .nx [some (.ref 0), some (.int many), o, none, some (.int x)] (bagC cs i cur seed :: rest) := by
      rw [hx]
      simp only [evS, evE, R.of, R.bind, R.st, List.getElem?_cons_zero, List.getElem?_cons_succ, Option.join_some, m1, d1, m2, m3, bin_add, d2, List.set_cons_succ, List.set_cons_zero]
    have e4 : evS P call (.set 4 (.ix (.var 0) (.int 3))) [some (.ref 0), some (.int many), o, none, none] (bagC cs i cur seed :: rest) = .nx [some (.ref 0), some (.int many), o, none, some (.int seed)] (bagC cs i cur seed :: rest) := by
      simp only [evS, evE, R.of, R.bind, R.st, List.getElem?_cons_zero, Option.join_some, ix_bag3, List.set_cons_succ, List.set_cons_zero]
    have e3 : ∀ w, evS P call (.ite (.cmp .gt (.ix (.var 0) (.int 2)) (.int 0)) w []) [some (.ref 0), some (.int many), o, none, none] (bagC cs i cur seed :: rest) = .nx [some (.ref 0), some (.int many), o, none, none] (bagC cs i cur seed :: rest) := fun w => by
      rw [evS, e0, st_ok, if_neg (by decide), evSs_nil]
    rw [B_pull2, evSs_cons, e3, seq_nx, evSs_cons, e4, seq_nx, evSs_cons, e5, seq_nx, evSs_cons, e2, seq_nx]
    simp only [evSs, evS, evE, R.of, R.bind, R.st, RS.seq, List.getElem?_cons_zero, List.getElem?_cons_succ, Option.join_some, d4, d3, m4, bin_add, q0]
end
theorem pullOk {P : Prog} {k f : Nat} {df : Def} (hf : P.defs[f]? = some df) (h1 : df.ps.length = 2) (h2 : df.N.length = 5) (hb : df.body = B_pull) : PullOk (callD P (k + 1)) f := fun b rest many n ⟨cs, i, cur, seed, e, h0, h1', h2', h3, h4⟩ hm hn hk => by
  subst e
  obtain ⟨i', cur', seed', o', e1, g0, g1, g2, g3, g4⟩ := pull1 (P := P) (call := callD P k) (rest := rest) (m := .int many) (o := none) h0 h1' h2' h3 h4
  obtain ⟨v, b', e2, hb', l1, l2⟩ := pull2 (P := P) (call := callD P k) (rest := rest) (o := o') hm hn hk g0 g1 g2 g3 g4
  refine ⟨v, b', callD_rt hf h1.symm ?_ rfl, hb', l1, l2⟩
  rw [hb, h2, B_pull, evSs_cons]
  show (evS P (callD P k) B_pull1 [some (.ref 0), some (.int many), none, none, none] _).seq _ = _
  rw [e1, seq_nx, e2]
end G

set_option Elab.async false
set_option linter.all false
set_option maxRecDepth 100000
set_option exponentiation.threshold 300
/-! Comprehensions, draws, sameness. -/
namespace G
open PySem L2
section
variable {P : Prog} {call : CallS}
theorem comp_map {e : E} {v : Nat} {k : It} {src : List E} {ρ : Env} {s : Stt} {ds xs : List D} (f : D → D) (hs : evEs P call src ρ s = .ok ds s) (hx : srcF k s ds = some xs) (hl : xs.length ≤ sizeLine) (he : ∀ x ∈ xs, evE P call e (ρ.set v (some x)) s = .ok (f x) s) :
    evE P call (.comp false e [v] [v] k src none) ρ s = .ok (.lst (xs.map f)) s := by
  rw [evE_comp, hs, rbind_ok, hx, of_some, rbind_ok, loopC_map f xs [] (by simpa using hl) fun d acc hd ha => compB_of tg_own (he d hd) ha]
  rfl
def Draw (r : R D) (rest : Stt) (Q : D → Prop) : Prop := ∃ d b', r = .ok d (b' :: rest) ∧ BagOK b' ∧ Q d
theorem comp_draw {e : E} {v : Nat} {k : It} {src : List E} {ρ : Env} {b b1 : Cell} {rest : Stt} {ds xs : List D} (Q : D → D → Prop) (hs : evEs P call src ρ (b :: rest) = .ok ds (b1 :: rest)) (hb : BagOK b1) (hx : srcF k (b1 :: rest) ds = some xs) (hl : xs.length ≤ sizeLine)
    (he : ∀ x ∈ xs, ∀ b, BagOK b → Draw (evE P call e (ρ.set v (some x)) (b :: rest)) rest (Q x)) :
    Draw (evE P call (.comp false e [v] [v] k src none) ρ (b :: rest)) rest fun d => ∃ ys, d = .lst ys ∧ ys.length = xs.length ∧ ∀ (i : Nat) y, ys[i]? = some y → ∃ x, xs[i]? = some x ∧ Q x y := by
  rw [evE_comp, hs]
  obtain ⟨acc', s', e1, b', e2, hb', hl', hq⟩ := loopC_inv (body := compB P call e [v] [v] none ρ)
    (fun n acc s => ∃ b', s = b' :: rest ∧ BagOK b' ∧ acc.length = n ∧ ∀ (i : Nat) y, acc[i]? = some y → ∃ x, xs[i]? = some x ∧ Q x y) xs 0 [] (b1 :: rest) ⟨b1, rfl, hb, rfl, fun i y h => by simp at h⟩
    fun i d acc s hi ⟨b', e1, h1, h2, h3⟩ => by
      subst e1
      obtain ⟨y, b2, e3, h4, h5⟩ := he d (List.mem_of_getElem? hi) b' h1
      have hi' := (List.getElem?_eq_some_iff.mp hi).1
      refine ⟨acc ++ [y], b2 :: rest, ?_, b2, rfl, h4, by simp [h2], fun j z hz => ?_⟩
      · exact compB_of tg_own e3 (by omega)
      · by_cases q : j < acc.length
        · rw [List.getElem?_append_left q] at hz
          exact h3 j z hz
        · rw [List.getElem?_append_right (by omega)] at hz
          have q2 : j - acc.length = 0 := by
            have := (List.getElem?_eq_some_iff.mp hz).1
            simpa using this
          rw [q2] at hz
          cases hz
          refine ⟨d, ?_, h5⟩
          rw [show j = i by omega]
          exact hi
  refine ⟨.lst acc', b', ?_, hb', acc', rfl, by omega, hq⟩
  rw [rbind_ok, hx, of_some, rbind_ok, e1, e2]
  rfl
/-! ### sameness -/
def B_same (same : Nat) : List S := [.ite (.isi (.var 1) true ["list", "tuple"]) [.ite (.or [.cmp .ne (.isi (.var 0) false ["list"]) (.isi (.var 1) false ["list"]), .cmp .ne (.isi (.var 0) false ["tuple"]) (.isi (.var 1) false ["tuple"])]) [.ret (.bl false)] [], .ret (.and [.cmp .eq (.bi .len (.var 0)) (.bi .len (.var 1)), .bi .all (.comp false (.call same [.ix (.var 0) (.var 2), .ix (.var 1) (.var 2)]) [2] [2] .range1 [.bi .len (.var 1)] none)])] [], .ite (.or [.cmp .isN (.var 1) (.non), .cmp .isN (.var 0) (.non)]) [.ret (.and [.cmp .isN (.var 1) (.non), .cmp .isN (.var 0) (.non)])] [], .ite (.or [.cmp .ne (.isi (.var 0) false ["bool"]) (.isi (.var 1) false ["bool"]), .cmp .ne (.isi (.var 0) false ["int"]) (.isi (.var 1) false ["int"])]) [.ret (.bl false)] [], .ret (.and [.cmp .eq (.isi (.var 0) false ["str"]) (.isi (.var 1) false ["str"]), .cmp .eq (.var 0) (.var 1)])]
theorem pls_get {n : Nat} : ∀ {ds : List D}, D.pls n ds = true → ∀ (i : Nat) d, ds[i]? = some d → D.pl n d = true
  | [], _, i, d, h => by simp at h
  | x :: xs, h, 0, d, hi => by
    simp only [D.pls, Bool.and_eq_true] at h
    simp at hi
    subst hi
    exact h.1
  | x :: xs, h, i + 1, d, hi => by
    simp only [D.pls, Bool.and_eq_true] at h
    exact pls_get h.2 i d (by simpa using hi)
theorem bools_true : ∀ n : Nat, bools (List.replicate n (D.bl true)) = some (List.replicate n true)
  | 0 => rfl
  | n + 1 => by
    rw [List.replicate_succ, List.replicate_succ]
    simp [bools, bools_true n]
theorem same_seq {same : Nat} {s : Stt} {d : D} {xs : List D} (hd : d = .tup xs ∨ d = .lst xs) (hl : xs.length ≤ 1000000) (h : ∀ x ∈ xs, call same [x, x] s = .ok (.bl true) s) : evSs P call (B_same same) [some d, some d, none] s = .rt (.bl true) s := by
  have hi : itemsF s d = some xs := by rcases hd with e | e <;> subst e <;> rfl
  have hx : ∀ i : Nat, i < xs.length → ∃ x, xs[i]? = some x ∧ ixF s d (.int i) = some x := fun i q => by
    refine ⟨xs[i], List.getElem?_eq_getElem q, ?_⟩
    have : atI xs (i : Int) = some xs[i] := atI_of (by omega) (by simp)
    rcases hd with e | e <;> subst e <;> exact this
  have hlen : biF .len s d = some (.int xs.length) := by
    rcases hd with e | e <;> subst e <;> rfl
  have c := comp_map (P := P) (call := call) (e := .call same [.ix (.var 0) (.var 2), .ix (.var 1) (.var 2)]) (v := 2) (k := .range1) (src := [.bi .len (.var 1)]) (ρ := [some d, some d, none]) (s := s) (ds := [.int xs.length]) (xs := (List.range xs.length).map fun i => .int (i : Nat)) (fun _ => .bl true)
    (by simp [evEs, evE, R.of, R.bind, hlen]) (by
      simp only [srcF]
      rw [if_pos (by omega), Int.toNat_natCast]) (by rw [List.length_map, List.length_range]; exact Nat.le_trans hl (by decide)) (fun x hx' => by
      obtain ⟨i, hi', rfl⟩ := List.mem_map.mp hx'
      obtain ⟨y, hy, hy2⟩ := hx i (List.mem_range.mp hi')
      have q := h y (List.mem_of_getElem? hy)
      simp [evE, evEs, R.of, R.bind, hy2, q])
  have a : biF .all s (.lst (((List.range xs.length).map fun i => D.int (i : Nat)).map fun _ => D.bl true)) = some (.bl true) := by
    have : (((List.range xs.length).map fun i => D.int (i : Nat)).map fun _ => D.bl true) = List.replicate xs.length (D.bl true) := by
      rw [List.map_map, List.eq_replicate_iff]
      simp
    rw [this]
    simp [biF, listF, bools_true]
  have t1 : isiF d ["list", "tuple"] = some (.bl true) := by rcases hd with e | e <;> subst e <;> rfl
  obtain ⟨z1, t2⟩ : ∃ z, isiF d ["list"] = some (.bl z) := by rcases hd with e | e <;> subst e <;> exact ⟨_, rfl⟩
  obtain ⟨z2, t3⟩ : ∃ z, isiF d ["tuple"] = some (.bl z) := by rcases hd with e | e <;> subst e <;> exact ⟨_, rfl⟩
  have h1 : evT P call (.isi (.var 1) true ["list", "tuple"]) [some d, some d, none] s = .ok true s := by
    simp [evT, R.of, R.bind, t1, truF, evE]
  have h2 : evS P call (.ite (.or [.cmp .ne (.isi (.var 0) false ["list"]) (.isi (.var 1) false ["list"]), .cmp .ne (.isi (.var 0) false ["tuple"]) (.isi (.var 1) false ["tuple"])]) [.ret (.bl false)] []) [some d, some d, none] s = .nx [some d, some d, none] s := by
    simp [evS, evSs, evT, evTOr, evE, R.of, R.bind, R.st, t2, t3, cmpF, eqF_bl]
  have h3 : evE P call (.and [.cmp .eq (.bi .len (.var 0)) (.bi .len (.var 1)), .bi .all (.comp false (.call same [.ix (.var 0) (.var 2), .ix (.var 1) (.var 2)]) [2] [2] .range1 [.bi .len (.var 1)] none)]) [some d, some d, none] s = .ok (.bl true) s := by
    have : evE P call (.bi .all (.comp false (.call same [.ix (.var 0) (.var 2), .ix (.var 1) (.var 2)]) [2] [2] .range1 [.bi .len (.var 1)] none)) [some d, some d, none] s = .ok (.bl true) s := by
      rw [evE, c, rbind_ok, a, of_some]
    have h4 : evE P call (.cmp .eq (.bi .len (.var 0)) (.bi .len (.var 1))) [some d, some d, none] s = .ok (.bl true) s := by
      simp [evE, R.of, R.bind, hlen, cmpF, eqF_int]
    rw [evE, evAnd, h4, rbind_ok, evAnd, this]
  rw [B_same, evSs_cons, evS, h1, st_ok, if_pos rfl, evSs_cons, h2, seq_nx, evSs_cons, evS, h3, st_ok, seq_rt, seq_rt]
theorem same_leaf {same : Nat} {s : Stt} {d : D} (hd : d = .non ∨ (∃ b, d = .bl b) ∨ (∃ i, d = .int i) ∨ ∃ t, d = .str t ∧ txB t = true) : evSs P call (B_same same) [some d, some d, none] s = .rt (.bl true) s := by
  rcases hd with e | ⟨b, e⟩ | ⟨i, e⟩ | ⟨t, e, ht⟩ <;> subst e
  · simp [B_same, evSs, evS, evT, evTOr, evE, evAnd, R.of, R.bind, R.st, RS.seq, isiF, tyN, heir, truF, cmpF]
  · simp [B_same, evSs, evS, evT, evTOr, evE, evAnd, R.of, R.bind, R.st, RS.seq, isiF, tyN, heir, truF, cmpF, eqF_bl]
  · simp [B_same, evSs, evS, evT, evTOr, evE, evAnd, R.of, R.bind, R.st, RS.seq, isiF, tyN, heir, truF, cmpF, eqF_bl, eqF_int]
  · simp [B_same, evSs, evS, evT, evTOr, evE, evAnd, R.of, R.bind, R.st, RS.seq, isiF, tyN, heir, truF, cmpF, eqF_bl, eqF_strB ht ht]
end
/-- told and due are one: n levels deep -/
def SameOk (n : Nat) (call : CallS) (f : Nat) : Prop := ∀ (d : D) (s : Stt), D.pl n d = true → call f [d, d] s = .ok (.bl true) s
theorem sameOk {P : Prog} {f : Nat} {df : Def} (hf : P.defs[f]? = some df) (h1 : df.ps.length = 2) (h2 : df.N.length = 3) (hb : df.body = B_same f) (k : Nat) : ∀ n : Nat, SameOk n (callD P (k + 1 + n)) f
  | 0, d, s, h => by
    refine callD_rt hf h1.symm ?_ rfl
    rw [hb, h2]
    cases d <;> first | (exact same_leaf (.inl rfl)) | (exact same_leaf (.inr (.inl ⟨_, rfl⟩))) | (exact same_leaf (.inr (.inr (.inl ⟨_, rfl⟩)))) | (exact same_leaf (.inr (.inr (.inr ⟨_, rfl, by simpa [D.pl] using h⟩)))) | (simp [D.pl] at h)
  | n + 1, d, s, h => by
    refine callD_rt hf h1.symm ?_ rfl
    rw [hb, h2]
    have ih := sameOk hf h1 h2 hb k n
    cases d with
    | tup xs =>
      simp only [D.pl, Bool.and_eq_true, decide_eq_true_eq, Nat.add_sub_cancel] at h
      refine same_seq (.inl rfl) h.1.2 fun x hx => ?_
      obtain ⟨i, hi⟩ := List.getElem?_of_mem hx
      exact ih x s (pls_get h.2 i x hi)
    | lst xs =>
      simp only [D.pl, Bool.and_eq_true, decide_eq_true_eq, Nat.add_sub_cancel] at h
      refine same_seq (.inr rfl) h.1.2 fun x hx => ?_
      obtain ⟨i, hi⟩ := List.getElem?_of_mem hx
      exact ih x s (pls_get h.2 i x hi)
    | non => exact same_leaf (.inl rfl)
    | bl b => exact same_leaf (.inr (.inl ⟨_, rfl⟩))
    | int i => exact same_leaf (.inr (.inr (.inl ⟨_, rfl⟩)))
    | str t => exact same_leaf (.inr (.inr (.inr ⟨_, rfl, by simpa [D.pl] using h⟩)))
    | _ => simp [D.pl] at h
/-! ### the bag's begin -/
def B_bag (salt : Int) : List S := [.set 1 (.int salt), .for [2] .seq [.sl (.var 0) none (some (.int 63))] [.set 1 (.bin .mod (.bin .add (.bin .add (.bin .mul (.var 1) (.int 48271)) (.bin .mod (.var 2) (.int 2147483629))) (.int 17)) (.int 2147483647))], .ret (.lst true [.bi .list (.sl (.var 0) none (some (.int 63))), .int 0, .int 0, .var 1])]
def BagMk (call : CallS) (f : Nat) : Prop := ∀ ns : List Int, ∃ b, call f [.scr ns] [] = .ok (.ref 0) [b] ∧ BagOK b
theorem bagMk {P : Prog} {k f : Nat} {df : Def} {salt : Int} (hf : P.defs[f]? = some df) (h1 : df.ps.length = 1) (h2 : df.N.length = 3) (hb : df.body = B_bag salt) (hk : df.keep = true) (s0 : 0 ≤ salt) (s1 : salt < 2147483647) : BagMk (callD P (k + 1)) f := fun ns => by
  rw [callD_fin hf (ds := [.scr ns]) (s := []) h1.symm, hb, h2, hk]
  have e0 : ∀ a b c : Option D, evE P (callD P k) (.sl (.var 0) none (some (.int 63))) [some (.scr ns), b, c] [] = .ok (.lst ((cut ns none (some 63)).map .int)) [] := fun a b c => by
    simp [evE, evO, R.of, R.bind, slF]
  have e1 : evS P (callD P k) (.set 1 (.int salt)) [some (.scr ns), none, none] [] = .nx [some (.scr ns), some (.int salt), none] [] := by
    simp [evS, evE, R.st]
  obtain ⟨ρ', s', e2, x, y, e3, e4, hx0, hx1⟩ := loopF_inv (body := forB P (callD P k) [2] [.set 1 (.bin .mod (.bin .add (.bin .add (.bin .mul (.var 1) (.int 48271)) (.bin .mod (.var 2) (.int 2147483629))) (.int 17)) (.int 2147483647))])
    (fun _ ρ s => ∃ (x : Int) (y : Option D), ρ = [some (.scr ns), some (.int x), y] ∧ s = [] ∧ 0 ≤ x ∧ x < 2147483647) ((cut ns none (some 63)).map .int) 0 [some (.scr ns), some (.int salt), none] [] ⟨salt, none, rfl, rfl, s0, s1⟩
    fun i d ρ s hi ⟨x, y, e3, e4, h3, h4⟩ => by
      subst e3 e4
      rw [List.getElem?_map] at hi
      obtain ⟨z, hz, e5⟩ := Option.map_eq_some_iff.mp hi
      subst e5
      have m1 := small_mul (i := x) (j := 48271) h3 (by omega) (by omega) (by omega)
      have d1 := fun z => bin_mod (i := z) (j := 2147483629) (by omega)
      have d2 := fun z => bin_mod (i := z) (j := 2147483647) (by omega)
      refine ⟨[some (.scr ns), some (.int ((x * 48271 + z % 2147483629 + 17) % 2147483647)), some (.int z)], [], ?_, _, _, rfl, rfl, by omega, by omega⟩
      simp only [forB, tgF, List.set_cons_succ, List.set_cons_zero, evSs, evS, evE, R.of, R.bind, R.st, RS.seq, List.getElem?_cons_zero, List.getElem?_cons_succ, Option.join_some, m1, d1, d2, bin_add]
  have e5 : evS P (callD P k) (.for [2] .seq [.sl (.var 0) none (some (.int 63))] [.set 1 (.bin .mod (.bin .add (.bin .add (.bin .mul (.var 1) (.int 48271)) (.bin .mod (.var 2) (.int 2147483629))) (.int 17)) (.int 2147483647))]) [some (.scr ns), some (.int salt), none] [] = .nx [some (.scr ns), some (.int x), y] [] := by
    rw [evS_for, evEs, e0 none, rbind_ok, evEs, rbind_ok, rbind_ok]
    simp only [srcF, of_some, st_ok]
    rw [e2, e3, e4]
  have e6 : evS P (callD P k) (.ret (.lst true [.bi .list (.sl (.var 0) none (some (.int 63))), .int 0, .int 0, .var 1])) [some (.scr ns), some (.int x), y] [] = .rt (.ref 0) [bagC (cut ns none (some 63)) 0 0 x] := by
    have : evE P (callD P k) (.bi .list (.sl (.var 0) none (some (.int 63)))) [some (.scr ns), some (.int x), y] [] = .ok (.lst ((cut ns none (some 63)).map .int)) [] := by
      rw [evE, e0 none, rbind_ok]
      rfl
    rw [evS, evE, evEs, this, rbind_ok]
    simp [evEs, evE, R.of, R.bind, R.st, bagC]
    rw [if_pos (by decide)]
  refine ⟨bagC (cut ns none (some 63)) 0 0 x, ?_, _, _, _, _, rfl, by omega, by omega, by omega, hx0, hx1⟩
  show RS.fin true 0 (evSs P (callD P k) (B_bag salt) [some (.scr ns), none, none] []) = _
  rw [B_bag, evSs_cons, e1, seq_nx, evSs_cons, e5, seq_nx, evSs_cons, e6, seq_rt, fin_rt]
  rfl
end G
namespace G
open PySem L2
/-! ### drawn parts -/
def PartOk (call : CallS) (f : Nat) : Prop := ∀ (b : Cell) (rest : Stt), BagOK b → Draw (call f [.ref 0] (b :: rest)) rest fun d => ∃ q, d = qD q ∧ Sz 68 q
def B_part (low pull : Nat) : List S := [.set 1 (.call low [.bin .sub (.call pull [.var 0, .int 61]) (.int 30), .bin .add (.int 1) (.call pull [.var 0, .int 12])]), .ite (.cmp .eq (.call pull [.var 0, .int 4]) (.int 0)) [.ret (.call low [.bin .sub (.call pull [.var 0, .bin .pow (.int 10) (.int 20)]) (.bin .mul (.int 5) (.bin .pow (.int 10) (.int 19))), .bin .add (.int 1) (.call pull [.var 0, .bin .pow (.int 10) (.int 20)])])] [], .ret (.ix (.lst false [.var 1, .var 1, .tup [.int 0, .int 1], .tup [.int 1, .int 1]]) (.call pull [.var 0, .int 4]))]
theorem pow20 : binF .pow (.int 10) (.int 20) = some (.int 100000000000000000000) := by
  show (if 0 ≤ (20 : Int) ∧ (20 : Int) ≤ 1000000 ∧ (10 : Int).natAbs < 2 ^ 64 then some (D.int (10 ^ (20 : Int).toNat)) else none) = _
  rw [if_pos ⟨by decide, by decide, by decide⟩]
  rfl
theorem pow19 : binF .pow (.int 10) (.int 19) = some (.int 10000000000000000000) := by
  show (if 0 ≤ (19 : Int) ∧ (19 : Int) ≤ 1000000 ∧ (10 : Int).natAbs < 2 ^ 64 then some (D.int (10 ^ (19 : Int).toNat)) else none) = _
  rw [if_pos ⟨by decide, by decide, by decide⟩]
  rfl
theorem qD_0 : D.tup [.int 0, .int 1] = qD 0 := rfl
theorem qD_1 : D.tup [.int 1, .int 1] = qD 1 := rfl
theorem partOk {P : Prog} {k f low pull : Nat} {df : Def} (hf : P.defs[f]? = some df) (h1 : df.ps.length = 1) (h2 : df.N.length = 2) (hb : df.body = B_part low pull) (hl : LowOk (callD P k) low) (hp : PullOk (callD P k) pull) : PartOk (callD P (k + 1)) f := fun b rest ob => by
  obtain ⟨v1, b1, e1, o1, g1, l1⟩ := hp b rest 61 6 ob (by decide) (by decide) (by decide)
  obtain ⟨v2, b2, e2, o2, g2, l2⟩ := hp b1 rest 12 6 o1 (by decide) (by decide) (by decide)
  obtain ⟨v3, b3, e3, o3, g3, l3⟩ := hp b2 rest 4 6 o2 (by decide) (by decide) (by decide)
  have z68 : (2 : Nat) ^ 68 = 295147905179352825856 := by decide
  have n1 : (v1 - 30).natAbs < 2 ^ 68 := by omega
  have n2 : (1 + v2).natAbs < 2 ^ 68 := by omega
  have n0 : 1 + v2 ≠ 0 := by omega
  have e4 := hl (v1 - 30) (1 + v2) 68 (b2 :: rest) n0 n1 n2 (by decide)
  have s4 := Sz.divInt n0 n1 n2
  generalize Rat.divInt (v1 - 30) (1 + v2) = q at e4 s4
  have a1 : evS P (callD P k) (.set 1 (.call low [.bin .sub (.call pull [.var 0, .int 61]) (.int 30), .bin .add (.int 1) (.call pull [.var 0, .int 12])])) [some (.ref 0), none] (b :: rest) = .nx [some (.ref 0), some (qD q)] (b2 :: rest) := by
    simp [evS, evE, evEs, R.of, R.bind, R.st, e1, e2, bin_sub, bin_add, e4]
  have hbody : ∃ d b', evSs P (callD P k) (B_part low pull) [some (.ref 0), none] (b :: rest) = .rt d (b' :: rest) ∧ BagOK b' ∧ ∃ q, d = qD q ∧ Sz 68 q := by
    by_cases c : v3 = 0
    · obtain ⟨v4, b4, e5, o4, g4, l4⟩ := hp b3 rest 100000000000000000000 68 o3 (by decide) (by decide) (by decide)
      obtain ⟨v5, b5, e6, o5, g5, l5⟩ := hp b4 rest 100000000000000000000 68 o4 (by decide) (by decide) (by decide)
      have n1 : (v4 - 50000000000000000000).natAbs < 2 ^ 68 := by omega
      have n2 : (1 + v5).natAbs < 2 ^ 68 := by omega
      have n0 : 1 + v5 ≠ 0 := by omega
      have e7 := hl (v4 - 50000000000000000000) (1 + v5) 68 (b5 :: rest) n0 n1 n2 (by decide)
      have m1 : binF .mul (.int 5) (.int 10000000000000000000) = some (.int 50000000000000000000) := bin_mul (m := 3) (n := 68) (by decide) (by decide) (by decide)
      refine ⟨_, b5, ?_, o5, _, rfl, Sz.divInt n0 n1 n2⟩
      have a2 : evS P (callD P k) (.ite (.cmp .eq (.call pull [.var 0, .int 4]) (.int 0)) [.ret (.call low [.bin .sub (.call pull [.var 0, .bin .pow (.int 10) (.int 20)]) (.bin .mul (.int 5) (.bin .pow (.int 10) (.int 19))), .bin .add (.int 1) (.call pull [.var 0, .bin .pow (.int 10) (.int 20)])])] []) [some (.ref 0), some (qD q)] (b2 :: rest) = .rt (qD (Rat.divInt (v4 - 50000000000000000000) (1 + v5))) (b5 :: rest) := by
        simp [evSs, evS, evT, evE, evEs, R.of, R.bind, R.st, RS.seq, e3, c, cmpF, eqF_int, pow20, pow19, e5, m1, e6, bin_sub, bin_add, e7]
      rw [B_part, evSs_cons, a1, seq_nx, evSs_cons, a2, seq_rt]
    · obtain ⟨v4, b4, e5, o4, g4, l4⟩ := hp b3 rest 4 6 o3 (by decide) (by decide) (by decide)
      have a2 : ∀ w, evS P (callD P k) (.ite (.cmp .eq (.call pull [.var 0, .int 4]) (.int 0)) w []) [some (.ref 0), some (qD q)] (b2 :: rest) = .nx [some (.ref 0), some (qD q)] (b3 :: rest) := fun w => by
        simp [evSs, evS, evT, evE, evEs, R.of, R.bind, R.st, RS.seq, e3, c, cmpF, eqF_int]
      obtain ⟨q', a3, s'⟩ : ∃ q', ixF (b4 :: rest) (.lst [qD q, qD q, qD 0, qD 1]) (.int v4) = some (qD q') ∧ Sz 68 q' := by
        have : v4 = 0 ∨ v4 = 1 ∨ v4 = 2 ∨ v4 = 3 := by omega
        have s0 : Sz 68 0 := ⟨by decide, by decide⟩
        have s1 : Sz 68 1 := ⟨by decide, by decide⟩
        rcases this with e | e | e | e <;> subst e
        · exact ⟨q, rfl, s4⟩
        · exact ⟨q, rfl, s4⟩
        · exact ⟨0, rfl, s0⟩
        · exact ⟨1, rfl, s1⟩
      refine ⟨qD q', b4, ?_, o4, _, rfl, s'⟩
      rw [B_part, evSs_cons, a1, seq_nx, evSs_cons, a2, seq_nx]
      have z : (4 : Nat) ≤ sizeLine := by decide
      have z2 : (2 : Nat) ≤ sizeLine := by decide
      simp [evSs, evS, evE, evEs, R.of, R.bind, R.st, RS.seq, e5, qD_0, qD_1, a3, z, z2]
  obtain ⟨d, b', e, ob', hq⟩ := hbody
  refine ⟨d, b', callD_rt hf h1.symm ?_ rfl, ob', hq⟩
  rw [hb, h2]
  exact e
end G

set_option Elab.async false
set_option linter.all false
set_option maxRecDepth 100000
set_option exponentiation.threshold 300
/-! Sizes by instances; discs. -/
namespace G
open PySem L2
class SzC (n : outParam Nat) (q : Rat) : Prop where
  sz : Sz n q
instance {m n : Nat} {p q : Rat} [a : SzC m p] [b : SzC n q] : SzC (m + n + 1) (p + q) := ⟨a.sz.add b.sz⟩
instance {m n : Nat} {p q : Rat} [a : SzC m p] [b : SzC n q] : SzC (m + n + 1) (p - q) := ⟨a.sz.sub b.sz⟩
instance {m n : Nat} {p q : Rat} [a : SzC m p] [b : SzC n q] : SzC (m + n) (p * q) := ⟨a.sz.mul b.sz⟩
instance {m n : Nat} {p q : Rat} [a : SzC m p] [b : SzC n q] : SzC (m + n) (p / q) := ⟨by
  by_cases h : q = 0
  · subst h
    have : p / 0 = 0 := by rw [Rat.div_def, Rat.inv_zero, Rat.mul_zero]
    rw [this]
    have h0 : Sz m p := a.sz
    have p1 : 1 < 2 ^ m := by
      have := h0.2
      have := p.den_pos
      omega
    exact Sz.mono ⟨by show 0 < 2 ^ m; omega, p1⟩ (Nat.le_add_right _ _)
  · exact Sz.div h a.sz b.sz⟩
instance : SzC 1 0 := ⟨⟨by decide, by decide⟩⟩
instance : SzC 1 1 := ⟨⟨by decide, by decide⟩⟩
theorem SzC.mk' {n : Nat} {q : Rat} (h : Sz n q) : SzC n q := ⟨h⟩
theorem LowOk.run {call : CallS} {f : Nat} (h : LowOk call f) (n : Nat) {a b : Int} {s : Stt} (h0 : b ≠ 0) (ha : a.natAbs < 2 ^ n) (hb : b.natAbs < 2 ^ n) (hn : n < 9000) : call f [.int a, .int b] s = .ok (qD (Rat.divInt a b)) s := h a b n s h0 ha hb hn
theorem OpOk.run {op : Rat → Rat → Rat} {call : CallS} {f : Nat} (h : OpOk op call f) {p q : Rat} {m n : Nat} {s : Stt} [a : SzC m p] [b : SzC n q] (hn : m + n + 1 < 9000) : call f [qD p, qD q] s = .ok (qD (op p q)) s := h p q m n s a.sz b.sz hn
theorem PerOk.run {call : CallS} {f : Nat} (h : PerOk call f) {p q : Rat} {m n : Nat} {s : Stt} [a : SzC m p] [b : SzC n q] (h0 : q ≠ 0) (hn : m + n + 1 < 9000) : call f [qD p, qD q] s = .ok (qD (p / q)) s := h p q m n s h0 a.sz b.sz hn
/-! ### discs, places -/
def placeD (p : Rat × Rat) : D := .tup [qD p.1, qD p.2]
structure Disc where
  back : Rat
  bend : Rat
  x : Rat
  y : Rat
def discD (d : Disc) : D := .tup [qD d.back, qD d.bend, qD d.x, qD d.y]
theorem ix_d0 {s : Stt} {d : Disc} : ixF s (discD d) (.int 0) = some (qD d.back) := rfl
theorem ix_d1 {s : Stt} {d : Disc} : ixF s (discD d) (.int 1) = some (qD d.bend) := rfl
theorem ix_d2 {s : Stt} {d : Disc} : ixF s (discD d) (.int 2) = some (qD d.x) := rfl
theorem ix_d3 {s : Stt} {d : Disc} : ixF s (discD d) (.int 3) = some (qD d.y) := rfl
theorem ix_p0 {s : Stt} {p : Rat × Rat} : ixF s (placeD p) (.int 0) = some (qD p.1) := rfl
theorem ix_p1 {s : Stt} {p : Rat × Rat} : ixF s (placeD p) (.int 1) = some (qD p.2) := rfl
theorem tup4 {a b c d : Rat} : D.tup [qD a, qD b, qD c, qD d] = discD ⟨a, b, c, d⟩ := rfl
theorem tup2 {a b : Rat} : D.tup [qD a, qD b] = placeD (a, b) := rfl
theorem le4 : (4 : Nat) ≤ sizeLine := by decide
theorem le3 : (3 : Nat) ≤ sizeLine := by decide
theorem le2 : (2 : Nat) ≤ sizeLine := by decide
theorem le1 : (1 : Nat) ≤ sizeLine := by decide
theorem le0 : (0 : Nat) ≤ sizeLine := by decide
/-- the disc of a middle and a bend -/
def madeQ (c : Rat × Rat) (b : Rat) : Disc := ⟨((c.1 * b) * (c.1 * b) + (c.2 * b) * (c.2 * b) - 1) / b, b, c.1 * b, c.2 * b⟩
def B_made (by_ minus plus per : Nat) : List S := [.par [2, 3] [.call by_ [.ix (.var 0) (.int 0), .var 1], .call by_ [.ix (.var 0) (.int 1), .var 1]], .set 4 (.call minus [.call plus [.call by_ [.var 2, .var 2], .call by_ [.var 3, .var 3]], .tup [.int 1, .int 1]]), .ret (.tup [.call per [.var 4, .var 1], .var 1, .var 2, .var 3])]
structure Ops (call : CallS) (plus minus by_ per : Nat) : Prop where
  plus : OpOk (· + ·) call plus
  minus : OpOk (· - ·) call minus
  by_ : OpOk (· * ·) call by_
  per : PerOk call per
section
variable {P : Prog} {k f plus minus by_ per : Nat} {df : Def}
theorem made_run (hf : P.defs[f]? = some df) (h1 : df.ps.length = 2) (h2 : df.N.length = 5) (hb : df.body = B_made by_ minus plus per) (O : Ops (callD P k) plus minus by_ per) {c : Rat × Rat} {b : Rat} {n : Nat} {s : Stt} [SzC n c.1] [SzC n c.2] [SzC n b] (hn : n ≤ 900) (h0 : b ≠ 0) : callD P (k + 1) f [placeD c, qD b] s = .ok (discD (madeQ c b)) s := by
  refine callD_rt hf h1.symm ?_ rfl
  rw [hb, h2]
  have a1 := fun p q m n s [SzC m p] [SzC n q] h => O.by_.run (p := p) (q := q) (m := m) (n := n) (s := s) h
  have e1 : evS P (callD P k) (.par [2, 3] [.call by_ [.ix (.var 0) (.int 0), .var 1], .call by_ [.ix (.var 0) (.int 1), .var 1]]) [some (placeD c), some (qD b), none, none, none] s = .nx [some (placeD c), some (qD b), some (qD (c.1 * b)), some (qD (c.2 * b)), none] s := by
    have x1 := O.by_.run (p := c.1) (q := b) (s := s) (by omega)
    have x2 := O.by_.run (p := c.2) (q := b) (s := s) (by omega)
    simp [evS, evE, evEs, R.of, R.bind, R.st, ix_p0, ix_p1, x1, x2]
  have e2 : evS P (callD P k) (.set 4 (.call minus [.call plus [.call by_ [.var 2, .var 2], .call by_ [.var 3, .var 3]], .tup [.int 1, .int 1]])) [some (placeD c), some (qD b), some (qD (c.1 * b)), some (qD (c.2 * b)), none] s = .nx [some (placeD c), some (qD b), some (qD (c.1 * b)), some (qD (c.2 * b)), some (qD ((c.1 * b) * (c.1 * b) + (c.2 * b) * (c.2 * b) - 1))] s := by
    have x1 := O.by_.run (p := c.1 * b) (q := c.1 * b) (s := s) (by omega)
    have x2 := O.by_.run (p := c.2 * b) (q := c.2 * b) (s := s) (by omega)
    have x3 := O.plus.run (p := c.1 * b * (c.1 * b)) (q := c.2 * b * (c.2 * b)) (s := s) (by omega)
    have x4 := O.minus.run (p := c.1 * b * (c.1 * b) + c.2 * b * (c.2 * b)) (q := 1) (s := s) (by omega)
    simp [evS, evE, evEs, R.of, R.bind, R.st, x1, x2, x3, x4, qD_1, le2]
  have e3 : evS P (callD P k) (.ret (.tup [.call per [.var 4, .var 1], .var 1, .var 2, .var 3])) [some (placeD c), some (qD b), some (qD (c.1 * b)), some (qD (c.2 * b)), some (qD ((c.1 * b) * (c.1 * b) + (c.2 * b) * (c.2 * b) - 1))] s = .rt (discD (madeQ c b)) s := by
    have x1 := O.per.run (p := (c.1 * b) * (c.1 * b) + (c.2 * b) * (c.2 * b) - 1) (q := b) (s := s) h0 (by omega)
    simp [evS, evE, evEs, R.of, R.bind, R.st, x1, le4, tup4, madeQ]
  show evSs P (callD P k) (B_made by_ minus plus per) [some (placeD c), some (qD b), none, none, none] s = _
  rw [B_made, evSs_cons, e1, seq_nx, evSs_cons, e2, seq_nx, evSs_cons, e3, seq_rt]
end
end G

set_option Elab.async false
set_option linter.all false
set_option maxRecDepth 100000
set_option exponentiation.threshold 300
/-! Middles, distances, depths; drawn places and discs. -/
namespace G
open PySem L2
theorem callD_new {P : Prog} {k f : Nat} {df : Def} {ds : List D} {s s1 s2 : Stt} {d d' : D} (hf : P.defs[f]? = some df) (hl : ds.length = df.ps.length) (hk : df.keep = false) (h : evSs P (callD P k) df.body (ds.map some ++ List.replicate (df.N.length - ds.length) none) s = .rt d (s1 ++ s2)) (hs : s1.length = s.length) (h2 : s2 ≠ []) (hfr : d.freeze s.length (s1 ++ s2) = some d') (hu : s1.all (·.under s.length) = true) : callD P (k + 1) f ds s = .ok d' s1 := by
  rw [callD_fin hf hl, h, fin_rt, hk]
  unfold leave
  have : 0 < s2.length := List.length_pos_iff.mpr h2
  rw [if_neg (by decide), if_neg (by rw [List.length_append]; omega), hfr]
  have e : (s1 ++ s2).take s.length = s1 := by rw [← hs]; simp
  rw [e]
  show (if _ then _ else _) = _
  rw [if_pos hu]
/-! no refs at all -/
def RestOk (rest : Stt) : Prop := ∀ n, rest.all (·.under n) = true
theorem unders_ints (n : Nat) : ∀ cs : List Int, D.unders n (cs.map .int) = true
  | [] => rfl
  | c :: cs => by simp [D.unders, D.under, unders_ints n cs]
theorem BagOK.under {b : Cell} (h : BagOK b) (n : Nat) : b.under n = true := by
  obtain ⟨cs, i, cur, seed, rfl, _⟩ := h
  simp [bagC, Cell.under, D.unders, D.under, unders_ints]
theorem restOk_nil : RestOk [] := fun _ => rfl
theorem bag_under {b : Cell} {rest : Stt} (h : BagOK b) (hr : RestOk rest) (n : Nat) : (b :: rest).all (·.under n) = true := by
  rw [List.all_cons, h.under n, hr n]
  rfl
def apartQ (p q : Rat × Rat) : Rat := (p.1 - q.1) * (p.1 - q.1) + (p.2 - q.2) * (p.2 - q.2)
def centerQ (d : Disc) : Rat × Rat := (d.x / d.bend, d.y / d.bend)
def depthQ (d : Disc) (p : Rat × Rat) : Rat := d.bend * (apartQ (centerQ d) p - 1 / (d.bend * d.bend))
def B_center (per : Nat) : List S := [.ret (.tup [.call per [.ix (.var 0) (.int 2), .ix (.var 0) (.int 1)], .call per [.ix (.var 0) (.int 3), .ix (.var 0) (.int 1)]])]
def B_apart (minus by_ plus : Nat) : List S := [.par [2, 3] [.call minus [.ix (.var 0) (.int 0), .ix (.var 1) (.int 0)], .call minus [.ix (.var 0) (.int 1), .ix (.var 1) (.int 1)]], .ret (.call plus [.call by_ [.var 2, .var 2], .call by_ [.var 3, .var 3]])]
def B_depth (apart center by_ minus per : Nat) : List S := [.set 2 (.call apart [.call center [.var 0], .var 1]), .ret (.call by_ [.ix (.var 0) (.int 1), .call minus [.var 2, .call per [.tup [.int 1, .int 1], .call by_ [.ix (.var 0) (.int 1), .ix (.var 0) (.int 1)]]]])]
/-- sizes of a disc's parts -/
class SzD (n : outParam Nat) (d : Disc) : Prop where
  back : Sz n d.back
  bend : Sz n d.bend
  x : Sz n d.x
  y : Sz n d.y
class SzP (n : outParam Nat) (p : Rat × Rat) : Prop where
  x : Sz n p.1
  y : Sz n p.2
instance {n : Nat} {d : Disc} [h : SzD n d] : SzC n d.back := ⟨h.back⟩
instance {n : Nat} {d : Disc} [h : SzD n d] : SzC n d.bend := ⟨h.bend⟩
instance {n : Nat} {d : Disc} [h : SzD n d] : SzC n d.x := ⟨h.x⟩
instance {n : Nat} {d : Disc} [h : SzD n d] : SzC n d.y := ⟨h.y⟩
instance {n : Nat} {d : Rat × Rat} [h : SzP n d] : SzC n d.1 := ⟨h.x⟩
instance {n : Nat} {d : Rat × Rat} [h : SzP n d] : SzC n d.2 := ⟨h.y⟩
instance {n : Nat} {d : Disc} [h : SzD n d] : SzP (n + n) (centerQ d) := ⟨(inferInstance : SzC (n + n) (d.x / d.bend)).sz, (inferInstance : SzC (n + n) (d.y / d.bend)).sz⟩
theorem SzP.mono {m n : Nat} {p : Rat × Rat} (h : SzP m p) (hn : m ≤ n) : SzP n p := ⟨h.x.mono hn, h.y.mono hn⟩
theorem SzD.mono {m n : Nat} {p : Disc} (h : SzD m p) (hn : m ≤ n) : SzD n p := ⟨h.back.mono hn, h.bend.mono hn, h.x.mono hn, h.y.mono hn⟩
theorem mul_self_ne {q : Rat} (h : q ≠ 0) : q * q ≠ 0 := by
  intro e
  rcases Rat.mul_eq_zero.mp e with z | z <;> exact h z
section
variable {P : Prog} {k f plus minus by_ per apart center : Nat} {df : Def} {s : Stt}
theorem center_run (hf : P.defs[f]? = some df) (h1 : df.ps.length = 1) (h2 : df.N.length = 1) (hb : df.body = B_center per) (O : Ops (callD P k) plus minus by_ per) {d : Disc} {n : Nat} [SzD n d] (hn : n ≤ 900) (h0 : d.bend ≠ 0) : callD P (k + 1) f [discD d] s = .ok (placeD (centerQ d)) s := by
  refine callD_rt hf h1.symm ?_ rfl
  rw [hb, h2]
  have x1 := O.per.run (p := d.x) (q := d.bend) (s := s) h0 (by omega)
  have x2 := O.per.run (p := d.y) (q := d.bend) (s := s) h0 (by omega)
  simp [B_center, evSs, evS, evE, evEs, R.of, R.bind, R.st, RS.seq, ix_d1, ix_d2, ix_d3, x1, x2, le2, tup2, centerQ]
theorem apart_run (hf : P.defs[f]? = some df) (h1 : df.ps.length = 2) (h2 : df.N.length = 4) (hb : df.body = B_apart minus by_ plus) (O : Ops (callD P k) plus minus by_ per) {p q : Rat × Rat} {m n : Nat} [SzP m p] [SzP n q] (hm : m ≤ 900) (hn : n ≤ 900) : callD P (k + 1) f [placeD p, placeD q] s = .ok (qD (apartQ p q)) s := by
  refine callD_rt hf h1.symm ?_ rfl
  rw [hb, h2]
  have x1 := O.minus.run (p := p.1) (q := q.1) (s := s) (by omega)
  have x2 := O.minus.run (p := p.2) (q := q.2) (s := s) (by omega)
  have x3 := O.by_.run (p := p.1 - q.1) (q := p.1 - q.1) (s := s) (by omega)
  have x4 := O.by_.run (p := p.2 - q.2) (q := p.2 - q.2) (s := s) (by omega)
  have x5 := O.plus.run (p := (p.1 - q.1) * (p.1 - q.1)) (q := (p.2 - q.2) * (p.2 - q.2)) (s := s) (by omega)
  simp [B_apart, evSs, evS, evE, evEs, R.of, R.bind, R.st, RS.seq, ix_p0, ix_p1, x1, x2, x3, x4, x5, apartQ]
instance {m n : Nat} {p q : Rat × Rat} [SzP m p] [SzP n q] : SzC (m + n + 1 + (m + n + 1) + (m + n + 1 + (m + n + 1)) + 1) (apartQ p q) := inferInstanceAs (SzC _ ((p.1 - q.1) * (p.1 - q.1) + (p.2 - q.2) * (p.2 - q.2)))
theorem depth_run (hf : P.defs[f]? = some df) (h1 : df.ps.length = 2) (h2 : df.N.length = 3) (hb : df.body = B_depth apart center by_ minus per) (O : Ops (callD P k) plus minus by_ per)
    (hc : ∀ {d : Disc} {n : Nat} {s : Stt} [SzD n d], n ≤ 900 → d.bend ≠ 0 → callD P k center [discD d] s = .ok (placeD (centerQ d)) s) (ha : ∀ {p q : Rat × Rat} {m n : Nat} {s : Stt} [SzP m p] [SzP n q], m ≤ 900 → n ≤ 900 → callD P k apart [placeD p, placeD q] s = .ok (qD (apartQ p q)) s)
    {d : Disc} {p : Rat × Rat} {m n : Nat} [SzD m d] [SzP n p] (hm : m ≤ 400) (hn : n ≤ 600) (h0 : d.bend ≠ 0) : callD P (k + 1) f [discD d, placeD p] s = .ok (qD (depthQ d p)) s := by
  refine callD_rt hf h1.symm ?_ rfl
  rw [hb, h2]
  have x1 := hc (d := d) (s := s) (by omega) h0
  have x2 := ha (p := centerQ d) (q := p) (s := s) (by omega) (by omega)
  have x3 := O.by_.run (p := d.bend) (q := d.bend) (s := s) (by omega)
  have x4 := O.per.run (p := 1) (q := d.bend * d.bend) (s := s) (mul_self_ne h0) (by omega)
  have x5 := O.minus.run (p := apartQ (centerQ d) p) (q := 1 / (d.bend * d.bend)) (s := s) (by omega)
  have x6 := O.by_.run (p := d.bend) (q := apartQ (centerQ d) p - 1 / (d.bend * d.bend)) (s := s) (by omega)
  simp [B_depth, evSs, evS, evE, evEs, R.of, R.bind, R.st, RS.seq, ix_d1, x1, x2, x3, x4, x5, x6, depthQ, qD_1, le2]
end
/-! ### drawn places -/
def B_spot (low pull : Nat) : List S := [.set 3 (.lst true []), .for [4] .range1 [.int 2] [.set 5 (.bin .add (.int 1) (.call pull [.var 0, .var 1])), .expr (.met .append (.var 3) [.call low [.bin .sub (.call pull [.var 0, .bin .add (.bin .mul (.bin .mul (.int 2) (.var 2)) (.var 5)) (.int 1)]) (.bin .mul (.var 2) (.var 5)), .var 5]])], .ret (.tup [.ix (.var 3) (.int 0), .ix (.var 3) (.int 1)])]
def SpotOk (call : CallS) (f : Nat) : Prop := ∀ (b : Cell) (rest : Stt) (most reach : Int), BagOK b → RestOk rest → 0 < most → most ≤ 100 → 0 < reach → reach ≤ 100 → Draw (call f [.ref 0, .int most, .int reach] (b :: rest)) rest fun d => ∃ p, d = placeD p ∧ SzP 14 p
theorem get_last {b : Cell} {rest : Stt} {c : Cell} : (b :: (rest ++ [c]))[rest.length + 1]? = some c := by simp
theorem set_last {b : Cell} {rest : Stt} {c c' : Cell} : (b :: (rest ++ [c])).set (rest.length + 1) c' = b :: (rest ++ [c']) := by simp
theorem spotOk {P : Prog} {k f low pull : Nat} {df : Def} (hf : P.defs[f]? = some df) (h1 : df.ps.length = 3) (h2 : df.N.length = 6) (hb : df.body = B_spot low pull) (hk : df.keep = false) (hl : LowOk (callD P k) low) (hp : PullOk (callD P k) pull) : SpotOk (callD P (k + 1)) f := fun b rest most reach ob hr m0 m1 r0 r1 => by
  have z16 : (2 : Nat) ^ 16 = 65536 := by decide
  have z14 : (2 : Nat) ^ 14 = 16384 := by decide
  have turn : ∀ (i : Nat) (d : D) (ρ : G.Env) (s : Stt), ((List.range (2 : Int).toNat).map fun i => D.int (i : Nat))[i]? = some d → (∃ (b : Cell) (ys : List Rat) (a5 a6 : Option D), ρ = [some (.ref 0), some (.int most), some (.int reach), some (.ref (rest.length + 1)), a5, a6] ∧ s = b :: (rest ++ [.lst (ys.map qD)]) ∧ BagOK b ∧ ys.length = 0 + i ∧ ∀ y ∈ ys, Sz 14 y) →
      ∃ ρ' s', forB P (callD P k) [4] [.set 5 (.bin .add (.int 1) (.call pull [.var 0, .var 1])), .expr (.met .append (.var 3) [.call low [.bin .sub (.call pull [.var 0, .bin .add (.bin .mul (.bin .mul (.int 2) (.var 2)) (.var 5)) (.int 1)]) (.bin .mul (.var 2) (.var 5)), .var 5]])] d ρ s = .nx ρ' s' ∧ ∃ (b : Cell) (ys : List Rat) (a5 a6 : Option D), ρ' = [some (.ref 0), some (.int most), some (.int reach), some (.ref (rest.length + 1)), a5, a6] ∧ s' = b :: (rest ++ [.lst (ys.map qD)]) ∧ BagOK b ∧ ys.length = 0 + i + 1 ∧ ∀ y ∈ ys, Sz 14 y := by
    rintro i d ρ s hi ⟨b, ys, a5, a6, rfl, rfl, ob, hy, hs⟩
    obtain ⟨v1, b1, e1, o1, g1, l1⟩ := hp b (rest ++ [.lst (ys.map qD)]) most 16 ob m0 (by omega) (by decide)
    have q1 : 0 < reach * (1 + v1) := Int.mul_pos r0 (by omega)
    have q2 : reach * (1 + v1) ≤ 100 * 100 := Int.mul_le_mul r1 (by omega) (by omega) (by decide)
    have q3 : 2 * reach * (1 + v1) = 2 * (reach * (1 + v1)) := by rw [Int.mul_assoc]
    obtain ⟨v2, b2, e2, o2, g2, l2⟩ := hp b1 (rest ++ [.lst (ys.map qD)]) (2 * reach * (1 + v1) + 1) 16 o1 (by omega) (by omega) (by decide)
    have m1 := small_mul (i := 2) (j := reach) (by omega) (by omega) (by omega) (by omega)
    have m2 := small_mul (i := 2 * reach) (j := 1 + v1) (by omega) (by omega) (by omega) (by omega)
    have m3 := small_mul (i := reach) (j := 1 + v1) (by omega) (by omega) (by omega) (by omega)
    have n0 : 1 + v1 ≠ 0 := by omega
    have n1 : (v2 - reach * (1 + v1)).natAbs < 2 ^ 14 := by omega
    have n2 : (1 + v1).natAbs < 2 ^ 14 := by omega
    have e3 := hl (v2 - reach * (1 + v1)) (1 + v1) 14 (b2 :: (rest ++ [.lst (ys.map qD)])) n0 n1 n2 (by decide)
    have s3 := Sz.divInt n0 n1 n2
    generalize Rat.divInt (v2 - reach * (1 + v1)) (1 + v1) = y at e3 s3
    have hi2 : i < 2 := by
      have := (List.getElem?_eq_some_iff.mp hi).1
      simpa using this
    have le : (ys.map qD).length < sizeLine := by
      rw [List.length_map, hy]
      exact Nat.lt_of_lt_of_le (show 0 + i < 2 by omega) (by decide)
    refine ⟨[some (.ref 0), some (.int most), some (.int reach), some (.ref (rest.length + 1)), some d, some (.int (1 + v1))], b2 :: (rest ++ [.lst ((ys ++ [y]).map qD)]), ?_, b2, ys ++ [y], some d, some (.int (1 + v1)), rfl, rfl, o2, by simp [hy], fun z hz => ?_⟩
    · have s1 : ∀ a, evS P (callD P k) (.set 5 (.bin .add (.int 1) (.call pull [.var 0, .var 1]))) [some (.ref 0), some (.int most), some (.int reach), some (.ref (rest.length + 1)), some d, a] (b :: (rest ++ [.lst (ys.map qD)])) = .nx [some (.ref 0), some (.int most), some (.int reach), some (.ref (rest.length + 1)), some d, some (.int (1 + v1))] (b1 :: (rest ++ [.lst (ys.map qD)])) := fun a => by
        simp [evS, evE, evEs, R.of, R.bind, R.st, e1, bin_add]
      have s2 : evS P (callD P k) (.expr (.met .append (.var 3) [.call low [.bin .sub (.call pull [.var 0, .bin .add (.bin .mul (.bin .mul (.int 2) (.var 2)) (.var 5)) (.int 1)]) (.bin .mul (.var 2) (.var 5)), .var 5]])) [some (.ref 0), some (.int most), some (.int reach), some (.ref (rest.length + 1)), some d, some (.int (1 + v1))] (b1 :: (rest ++ [.lst (ys.map qD)])) = .nx [some (.ref 0), some (.int most), some (.int reach), some (.ref (rest.length + 1)), some d, some (.int (1 + v1))] (b2 :: (rest ++ [.lst ((ys ++ [y]).map qD)])) := by
        have c1 : meOk .append (b1 :: (rest ++ [.lst (ys.map qD)])) (.ref (rest.length + 1)) = true := by
          simp only [meOk, isCell, get_last]
        have c2 : meF .append (b2 :: (rest ++ [.lst (ys.map qD)])) (.ref (rest.length + 1)) [qD y] = .ok .non (b2 :: (rest ++ [.lst ((ys ++ [y]).map qD)])) := by
          simp only [meF, get_last, lmF, le, if_true, set_last, List.map_append, List.map_cons, List.map_nil]
        have c3 : ∀ e, evE P (callD P k) (.met .append (.var 3) [e]) [some (.ref 0), some (.int most), some (.int reach), some (.ref (rest.length + 1)), some d, some (.int (1 + v1))] (b1 :: (rest ++ [.lst (ys.map qD)])) = (evEs P (callD P k) [e] [some (.ref 0), some (.int most), some (.int reach), some (.ref (rest.length + 1)), some d, some (.int (1 + v1))] (b1 :: (rest ++ [.lst (ys.map qD)]))).bind fun ys s => meF .append s (.ref (rest.length + 1)) ys := fun e => by
          rw [evE, evE]
          show (R.bind (R.of (some (D.ref (rest.length + 1))) _) _) = _
          rw [of_some, rbind_ok, if_pos c1]
        rw [evS, c3]
        simp only [evE, evEs, R.of, R.bind, R.st, List.getElem?_cons_zero, List.getElem?_cons_succ, Option.join_some, m1, m2, m3, bin_add, bin_sub, e2, e3, c2]
      show evSs P (callD P k) _ [some (.ref 0), some (.int most), some (.int reach), some (.ref (rest.length + 1)), some d, a6] _ = _
      rw [evSs_cons, s1, seq_nx, evSs_cons, s2, seq_nx, evSs_nil]
    · rcases List.mem_append.mp hz with h | h
      · exact hs z h
      · rw [List.mem_singleton.mp h]
        exact s3
  obtain ⟨ρ', s', e2, b', ys, a5, a6, e3, e4, ob', hy, hs⟩ := loopF_inv (fun n ρ s => ∃ (b : Cell) (ys : List Rat) (a5 a6 : Option D), ρ = [some (.ref 0), some (.int most), some (.int reach), some (.ref (rest.length + 1)), a5, a6] ∧ s = b :: (rest ++ [.lst (ys.map qD)]) ∧ BagOK b ∧ ys.length = n ∧ ∀ y ∈ ys, Sz 14 y) ((List.range (2 : Int).toNat).map fun i => .int (i : Nat)) 0 [some (.ref 0), some (.int most), some (.int reach), some (.ref (rest.length + 1)), none, none] (b :: (rest ++ [.lst []])) ⟨b, [], none, none, rfl, rfl, ob, rfl, fun _ h => nomatch h⟩ turn
  obtain ⟨y1, y2, rfl⟩ : ∃ y1 y2, ys = [y1, y2] := by
    match ys, hy with
    | [y1, y2], _ => exact ⟨y1, y2, rfl⟩
  refine ⟨placeD (y1, y2), b', ?_, ob', _, rfl, hs y1 (by simp), hs y2 (by simp)⟩
  refine callD_new (s1 := b' :: rest) (s2 := [.lst [qD y1, qD y2]]) (d := placeD (y1, y2)) hf h1.symm hk ?_ (by simp) (by simp) rfl (bag_under ob' hr _)
  rw [hb, h2]
  have s1 : evS P (callD P k) (.set 3 (.lst true [])) [some (.ref 0), some (.int most), some (.int reach), none, none, none] (b :: rest) = .nx [some (.ref 0), some (.int most), some (.int reach), some (.ref (rest.length + 1)), none, none] (b :: (rest ++ [.lst []])) := by
    simp [evS, evE, evEs, R.bind, R.st, le0]
  have s2 : evS P (callD P k) (.for [4] .range1 [.int 2] [.set 5 (.bin .add (.int 1) (.call pull [.var 0, .var 1])), .expr (.met .append (.var 3) [.call low [.bin .sub (.call pull [.var 0, .bin .add (.bin .mul (.bin .mul (.int 2) (.var 2)) (.var 5)) (.int 1)]) (.bin .mul (.var 2) (.var 5)), .var 5]])]) [some (.ref 0), some (.int most), some (.int reach), some (.ref (rest.length + 1)), none, none] (b :: (rest ++ [.lst []])) = .nx [some (.ref 0), some (.int most), some (.int reach), some (.ref (rest.length + 1)), a5, a6] (b' :: (rest ++ [.lst [qD y1, qD y2]])) := by
    rw [evS_for]
    have : ∀ ρ s, evEs P (callD P k) [.int 2] ρ s = .ok [.int 2] s := fun ρ s => by simp [evEs, evE, R.bind]
    rw [this, rbind_ok]
    simp only [srcF]
    rw [if_pos (by decide), of_some, st_ok, e2, e3, e4]
    rfl
  show evSs P (callD P k) (B_spot low pull) [some (.ref 0), some (.int most), some (.int reach), none, none, none] (b :: rest) = .rt (placeD (y1, y2)) (b' :: (rest ++ [.lst [qD y1, qD y2]]))
  rw [B_spot, evSs_cons, s1, seq_nx, evSs_cons, s2, seq_nx]
  have i0 : ixF (b' :: (rest ++ [.lst [qD y1, qD y2]])) (.ref (rest.length + 1)) (.int 0) = some (qD y1) := by
    simp only [ixF, get_last]
    rfl
  have i1 : ixF (b' :: (rest ++ [.lst [qD y1, qD y2]])) (.ref (rest.length + 1)) (.int 1) = some (qD y2) := by
    simp only [ixF, get_last]
    rfl
  simp [evSs, evS, evEs, evE, R.of, R.bind, R.st, RS.seq, i0, i1, le2, tup2]
end G

set_option Elab.async false
set_option linter.all false
set_option maxRecDepth 100000
set_option exponentiation.threshold 300
/-! Signs of parts; drawn discs and turnings. -/
namespace G
open PySem L2
theorem num_neg_iff {q : Rat} : q.num < 0 ↔ q < 0 := by
  rw [Rat.lt_iff]
  simp
theorem num_pos_iff {q : Rat} : 0 < q.num ↔ 0 < q := by
  rw [Rat.lt_iff]
  simp
theorem num_zero_iff {q : Rat} : q.num = 0 ↔ q = 0 := ⟨fun e => by
  have := rat_eq q
  rw [e] at this
  rw [this]
  simp [Rat.div_def], fun e => by rw [e]; rfl⟩
theorem mul_neg_of {a b : Rat} (h : 0 < a) : a * b < 0 ↔ b < 0 := by
  constructor
  · intro q
    by_cases c : b < 0
    · exact c
    · have : 0 ≤ b := by grind
      have := Rat.mul_nonneg (Rat.le_of_lt h) this
      grind
  · intro q
    have := Rat.mul_pos h (show 0 < -b by grind)
    grind
theorem mul_neg_of' {a b : Rat} (h : a < 0) : a * b < 0 ↔ 0 < b := by
  have := mul_neg_of (a := -a) (b := -b) (by grind)
  grind
theorem mul_zero_of {a b : Rat} (h : a ≠ 0) : a * b = 0 ↔ b = 0 := by
  rw [Rat.mul_eq_zero]
  exact ⟨fun q => q.resolve_left h, .inr⟩
def B_of (pull : Nat) : List S := [.ret (.ix (.var 1) (.call pull [.var 0, .bi .len (.var 1)]))]
/-- one of a list -/
def OfOk (call : CallS) (f : Nat) : Prop := ∀ (b : Cell) (rest : Stt) (xs : List D), BagOK b → 0 < xs.length → xs.length ≤ 1000000 → Draw (call f [.ref 0, .lst xs] (b :: rest)) rest fun d => d ∈ xs
theorem ofOk {P : Prog} {k f pull : Nat} {df : Def} (hf : P.defs[f]? = some df) (h1 : df.ps.length = 2) (h2 : df.N.length = 2) (hb : df.body = B_of pull) (hp : PullOk (callD P k) pull) : OfOk (callD P (k + 1)) f := fun b rest xs ob h0 hl => by
  have z : (2 : Nat) ^ 20 = 1048576 := by decide
  obtain ⟨v, b', e, ob', g, l⟩ := hp b rest xs.length 20 ob (by omega) (by omega) (by decide)
  have hv : v.toNat < xs.length := by omega
  have e2 : ixF (b' :: rest) (.lst xs) (.int v) = some xs[v.toNat] := atI_of g (List.getElem?_eq_getElem hv)
  refine ⟨xs[v.toNat], b', callD_rt hf h1.symm ?_ rfl, ob', List.getElem_mem hv⟩
  rw [hb, h2]
  simp [B_of, evSs, evS, evE, evEs, R.of, R.bind, R.st, RS.seq, biF, itemsF, e, e2]
/-- a turning: a drawn place on the unit rim -/
def TurnOk (call : CallS) (f : Nat) : Prop := ∀ (b : Cell) (rest : Stt), BagOK b → Draw (call f [.ref 0] (b :: rest)) rest fun d => ∃ p, d = placeD p ∧ SzP 5 p ∧ p.1 * p.1 + p.2 * p.2 = 1
def B_turn (of : Nat) : List S := [.set 1 (.lst false [.tup [.tup [.int 3, .int 5], .tup [.int 4, .int 5]], .tup [.tup [.int 0, .int 1], .tup [.int 1, .int 1]], .tup [.tup [.neg (.int 5), .int 13], .tup [.int 12, .int 13]]]), .ret (.call of [.var 0, .bin .add (.var 1) (.lst false [.tup [.tup [.neg (.int 1), .int 1], .tup [.int 0, .int 1]], .tup [.tup [.int 20, .int 29], .tup [.neg (.int 21), .int 29]]])])]
def turns : List (Rat × Rat) := [(Rat.divInt 3 5, Rat.divInt 4 5), (0, 1), (Rat.divInt (-5) 13, Rat.divInt 12 13), (-1, 0), (Rat.divInt 20 29, Rat.divInt (-21) 29)]
theorem turns_ok : ∀ p ∈ turns, SzP 5 p ∧ p.1 * p.1 + p.2 * p.2 = 1 := by
  intro p hp
  simp only [turns, List.mem_cons, List.not_mem_nil, or_false] at hp
  rcases hp with e | e | e | e | e <;> subst e <;> exact ⟨⟨⟨by decide, by decide⟩, ⟨by decide, by decide⟩⟩, by decide +kernel⟩
theorem turnOk {P : Prog} {k f of : Nat} {df : Def} (hf : P.defs[f]? = some df) (h1 : df.ps.length = 1) (h2 : df.N.length = 2) (hb : df.body = B_turn of) (ho : OfOk (callD P k) of) : TurnOk (callD P (k + 1)) f := fun b rest ob => by
  obtain ⟨d, b', e, ob', hd⟩ := ho b rest (turns.map placeD) ob (by decide) (by decide)
  obtain ⟨p, hp, rfl⟩ := List.mem_map.mp hd
  refine ⟨placeD p, b', callD_rt hf h1.symm ?_ rfl, ob', p, rfl, turns_ok p hp⟩
  have e : callD P k of [.ref 0, .lst [.tup [.tup [.int 3, .int 5], .tup [.int 4, .int 5]], .tup [.tup [.int 0, .int 1], .tup [.int 1, .int 1]], .tup [.tup [.int (-5), .int 13], .tup [.int 12, .int 13]], .tup [.tup [.int (-1), .int 1], .tup [.int 0, .int 1]], .tup [.tup [.int 20, .int 29], .tup [.int (-21), .int 29]]]] (b :: rest) = .ok (placeD p) (b' :: rest) := e
  have a : ∀ xs ys : List D, xs.length + ys.length ≤ sizeLine → binF .add (.lst xs) (.lst ys) = some (.lst (xs ++ ys)) := fun xs ys h => if_pos h
  rw [hb, h2]
  have le5 : (5 : Nat) ≤ sizeLine := by decide
  simp [B_turn, evSs, evS, evE, evEs, R.of, R.bind, R.st, RS.seq, a, e, le2, le3, le5]
/-- a drawn disc -/
def FreeOk (call : CallS) (f : Nat) : Prop := ∀ (b : Cell) (rest : Stt), BagOK b → RestOk rest → Draw (call f [.ref 0] (b :: rest)) rest fun d => ∃ q c, d = discD (madeQ c q) ∧ SzD 130 (madeQ c q) ∧ q ≠ 0
def B_free (low pull made spot : Nat) : List S := [.set 1 (.call low [.bin .sub (.call pull [.var 0, .int 25]) (.int 12), .bin .add (.int 1) (.call pull [.var 0, .int 6])]), .ret (.call made [.call spot [.var 0, .int 6, .int 3], .ite (.cmp .eq (.ix (.var 1) (.int 0)) (.int 0)) (.tup [.int 1, .int 1]) (.var 1)])]
theorem madeQ_sz {c : Rat × Rat} {q : Rat} {n : Nat} [a : SzC n c.1] [b : SzC n c.2] [d : SzC n q] : SzD (n + n + (n + n) + (n + n + (n + n)) + 1 + 1 + 1 + n) (madeQ c q) :=
  ⟨SzC.sz (q := ((c.1 * q) * (c.1 * q) + (c.2 * q) * (c.2 * q) - 1) / q), Sz.mono d.sz (by omega), Sz.mono (SzC.sz (q := c.1 * q)) (by omega), Sz.mono (SzC.sz (q := c.2 * q)) (by omega)⟩
theorem freeOk {P : Prog} {k f low pull made spot : Nat} {df : Def} (hf : P.defs[f]? = some df) (h1 : df.ps.length = 1) (h2 : df.N.length = 2) (hb : df.body = B_free low pull made spot) (hl : LowOk (callD P k) low) (hp : PullOk (callD P k) pull) (hs : SpotOk (callD P k) spot)
    (hm : ∀ {c : Rat × Rat} {b : Rat} {n : Nat} {s : Stt} [SzC n c.1] [SzC n c.2] [SzC n b], n ≤ 900 → b ≠ 0 → callD P k made [placeD c, qD b] s = .ok (discD (madeQ c b)) s) : FreeOk (callD P (k + 1)) f := fun b rest ob hr => by
  have z : (2 : Nat) ^ 16 = 65536 := by decide
  have z14 : (2 : Nat) ^ 14 = 16384 := by decide
  obtain ⟨v1, b1, e1, o1, g1, l1⟩ := hp b rest 25 16 ob (by decide) (by decide) (by decide)
  obtain ⟨v2, b2, e2, o2, g2, l2⟩ := hp b1 rest 6 16 o1 (by decide) (by decide) (by decide)
  obtain ⟨d, b3, e3, o3, c, rfl, sc⟩ := hs b2 rest 6 3 o2 hr (by decide) (by decide) (by decide) (by decide)
  have n0 : 1 + v2 ≠ 0 := by omega
  have n1 : (v1 - 12).natAbs < 2 ^ 14 := by omega
  have n2 : (1 + v2).natAbs < 2 ^ 14 := by omega
  have e4 := hl (v1 - 12) (1 + v2) 14 (b2 :: rest) n0 n1 n2 (by decide)
  have s4 := Sz.divInt n0 n1 n2
  generalize Rat.divInt (v1 - 12) (1 + v2) = q at e4 s4
  have s1 : evS P (callD P k) (.set 1 (.call low [.bin .sub (.call pull [.var 0, .int 25]) (.int 12), .bin .add (.int 1) (.call pull [.var 0, .int 6])])) [some (.ref 0), none] (b :: rest) = .nx [some (.ref 0), some (qD q)] (b2 :: rest) := by
    simp [evS, evE, evEs, R.of, R.bind, R.st, e1, e2, bin_sub, bin_add, e4]
  have key : ∀ q' : Rat, Sz 14 q' → q' ≠ 0 → evE P (callD P k) (.ite (.cmp .eq (.ix (.var 1) (.int 0)) (.int 0)) (.tup [.int 1, .int 1]) (.var 1)) [some (.ref 0), some (qD q)] (b3 :: rest) = .ok (qD q') (b3 :: rest) → Draw (callD P (k + 1) f [.ref 0] (b :: rest)) rest fun d => ∃ q c, d = discD (madeQ c q) ∧ SzD 130 (madeQ c q) ∧ q ≠ 0 := fun q' hq' hn he => by
    haveI := SzC.mk' hq'
    haveI := SzC.mk' sc.x
    haveI := SzC.mk' sc.y
    have e5 := hm (c := c) (b := q') (s := b3 :: rest) (by decide) hn
    refine ⟨discD (madeQ c q'), b3, callD_rt hf h1.symm ?_ rfl, o3, q', c, rfl, (madeQ_sz (c := c) (q := q')).mono (by decide), hn⟩
    rw [hb, h2]
    show evSs P (callD P k) (B_free low pull made spot) [some (.ref 0), none] (b :: rest) = _
    rw [B_free, evSs_cons, s1, seq_nx, evSs_cons]
    have e6 : evEs P (callD P k) [.call spot [.var 0, .int 6, .int 3], .ite (.cmp .eq (.ix (.var 1) (.int 0)) (.int 0)) (.tup [.int 1, .int 1]) (.var 1)] [some (.ref 0), some (qD q)] (b2 :: rest) = .ok [placeD c, qD q'] (b3 :: rest) := by
      rw [evEs]
      have : evE P (callD P k) (.call spot [.var 0, .int 6, .int 3]) [some (.ref 0), some (qD q)] (b2 :: rest) = .ok (placeD c) (b3 :: rest) := by
        simp [evE, evEs, R.of, R.bind, e3]
      rw [this, rbind_ok, evEs, he, rbind_ok, evEs, rbind_ok, rbind_ok]
    rw [evS, evE, e6, rbind_ok, e5, st_ok, seq_rt]
  by_cases c0 : q.num = 0
  · refine key 1 ⟨by decide, by decide⟩ (by decide) ?_
    simp [evE, evT, evEs, R.of, R.bind, ix_q0, cmpF, eqF_int, c0, le2, qD_1]
  · refine key q s4 (fun e => c0 (by rw [e]; rfl)) ?_
    simp [evE, evT, evEs, R.of, R.bind, ix_q0, cmpF, eqF_int, c0]
end G
namespace G
open PySem L2
theorem list_of {α : Type} {f : α → D} {Q : α → Prop} : ∀ {ys : List D}, (∀ y ∈ ys, ∃ q, y = f q ∧ Q q) → ∃ l : List α, ys = l.map f ∧ ∀ q ∈ l, Q q
  | [], _ => ⟨[], rfl, fun _ h => nomatch h⟩
  | y :: ys, h => by
    obtain ⟨q, e, hq⟩ := h y (List.mem_cons_self ..)
    obtain ⟨l, e2, hl⟩ := list_of (ys := ys) fun y hy => h y (List.mem_cons_of_mem _ hy)
    subst e e2
    refine ⟨q :: l, rfl, fun z hz => ?_⟩
    rcases List.mem_cons.mp hz with e | hz
    · subst e
      exact hq
    · exact hl z hz
theorem srcF_range {s : Stt} {v : Int} (h0 : 0 ≤ v) (h1 : v ≤ 1000000) : srcF .range1 s [.int v] = some ((List.range v.toNat).map fun i => .int (i : Nat)) := by
  simp only [srcF]
  rw [if_pos (by omega)]
theorem pls_map {α : Type} {f : α → D} {n : Nat} (h : ∀ x, D.pl n (f x) = true) : ∀ l : List α, D.pls n (l.map f) = true
  | [] => rfl
  | x :: l => by simp [D.pls, h x, pls_map h l]
end G

set_option Elab.async false
set_option linter.all false
set_option maxRecDepth 100000
/-! A law that draws in turns: what is left is one turn and the end. -/
namespace G
open PySem L2
section
variable {P : Prog} {k f bag m n : Nat} {df : Def} {turnB tl : List S}
/-- one turn keeps the bag, whatever stands in the other names -/
def TurnK (P : Prog) (k m : Nat) (turnB : List S) : Prop := ∀ (b : Cell) (x0 : Option D) (env : Env), BagOK b → env.length = m → ∃ b' env', BagOK b' ∧ env'.length = m ∧ evSs P (callD P k) turnB (x0 :: some (.ref 0) :: env) [b] = .nx (x0 :: some (.ref 0) :: env') [b']
/-- what stands behind the turns answers True -/
def EndK (P : Prog) (k m : Nat) (tl : List S) : Prop := ∀ (b : Cell) (x0 : Option D) (env : Env), BagOK b → env.length = m → ∃ s', evSs P (callD P k) tl (x0 :: some (.ref 0) :: env) [b] = .rt (.bl true) s'
theorem law_for (turn : TurnK P k m turnB) (hn : n ≤ 1000000) {b : Cell} {x0 : Option D} {env : Env} (ob : BagOK b) (he : env.length = m) :
    ∃ b' env', BagOK b' ∧ env'.length = m ∧ evS P (callD P k) (.for [2] .range1 [.int n] turnB) (x0 :: some (.ref 0) :: env) [b] = .nx (x0 :: some (.ref 0) :: env') [b'] := by
  obtain ⟨ρ', s', e2, b', env', e3, e4, o2, l2⟩ := loopF_inv (body := forB P (callD P k) [2] turnB) (fun _ ρ s => ∃ b env, ρ = x0 :: some (.ref 0) :: env ∧ s = [b] ∧ BagOK b ∧ env.length = m)
    ((List.range n).map fun i => .int (i : Nat)) 0 (x0 :: some (.ref 0) :: env) [b] ⟨b, env, rfl, rfl, ob, he⟩
    fun i d ρ s hi ⟨b, env, e3, e4, o, l⟩ => by
      subst e3 e4
      obtain ⟨b1, env1, o1, l1, e5⟩ := turn b x0 (env.set 0 (some d)) o (by simpa using l)
      exact ⟨_, [b1], e5, b1, env1, rfl, rfl, o1, l1⟩
  refine ⟨b', env', o2, l2, ?_⟩
  rw [evS_for]
  have : ∀ ρ s, evEs P (callD P k) [.int n] ρ s = .ok [.int n] s := fun ρ s => by simp [evEs, evE, R.bind]
  rw [this, rbind_ok, srcF_range (by omega) (by omega), of_some, st_ok]
  simp only [Int.toNat_natCast]
  exact e2.trans (by rw [e3, e4])
theorem law_good (hf : P.defs[f]? = some df) (h1 : df.ps.length = 1) (h2 : df.N.length = m + 2) (hk : df.keep = false) (hb : df.body = .set 1 (.call bag [.var 0]) :: .for [2] .range1 [.int n] turnB :: tl) (hbag : BagMk (callD P k) bag) (turn : TurnK P k m turnB) (hn : n ≤ 1000000) (hend : EndK P k m tl) (ns : List Int) :
    ∃ s', callD P (k + 1) f [.scr ns] [] = .ok (.bl true) s' := by
  obtain ⟨b, e1, o1⟩ := hbag ns
  obtain ⟨b2, env2, o2, l2, e2⟩ := law_for (n := n) (x0 := some (.scr ns)) (env := List.replicate m none) turn hn o1 (by simp)
  obtain ⟨s', e3⟩ := hend b2 (some (.scr ns)) env2 o2 l2
  refine ⟨[], ?_⟩
  rw [callD_fin hf (ds := [.scr ns]) (s := []) h1.symm, hb, h2, hk]
  have e0 : ([.scr ns] : List D).map some ++ List.replicate (m + 2 - ([.scr ns] : List D).length) none = some (.scr ns) :: none :: List.replicate m none := by
    show some (D.scr ns) :: List.replicate (m + 1) none = _
    rw [List.replicate_succ]
  rw [e0]
  have s1 : evS P (callD P k) (.set 1 (.call bag [.var 0])) (some (.scr ns) :: none :: List.replicate m none) [] = .nx (some (.scr ns) :: some (.ref 0) :: List.replicate m none) [b] := by
    simp [evS, evEs, evE, R.of, R.bind, R.st, e1]
  rw [evSs_cons, s1, seq_nx, evSs_cons, e2, seq_nx, e3, fin_rt]
  unfold leave
  rw [if_neg (by decide)]
  split
  · rename_i h
    have : s' = [] := List.eq_nil_of_length_eq_zero h
    rw [this]
  · show (if (s'.take 0).all (·.under 0) = true then R.ok (D.bl true) (s'.take 0) else .stuck) = _
    simp
end
end G
namespace G
open PySem L2
section
variable {P : Prog} {call : CallS}
/-- if not same(told, due): return False -/
theorem same_if {same n : Nat} (h : SameOk n call same) {a b : E} {ρ : Env} {s s0 : Stt} {d : D} (he : evEs P call [a, b] ρ s0 = .ok [d, d] s) (hd : D.pl n d = true) : evS P call (.ite (.not (.call same [a, b])) [.ret (.bl false)] []) ρ s0 = .nx ρ s := by
  have := h d s hd
  rw [evS, evT, evT, he, rbind_ok, this, rbind_ok]
  simp [truF, R.of, R.bind, R.st, evSs]
theorem same_if1 {same n : Nat} (h : SameOk n call same) {a b : E} {ρ : Env} {s s0 : Stt} {d : D} (h1 : evE P call a ρ s0 = .ok d s) (h2 : evE P call b ρ s = .ok d s) (hd : D.pl n d = true) : evS P call (.ite (.not (.call same [a, b])) [.ret (.bl false)] []) ρ s0 = .nx ρ s :=
  same_if h (by simp [evEs, h1, h2, R.bind]) hd
end
/-! ### quotients that may be refused -/
def badPart : T := [66, 97, 100, 80, 97, 114, 116]
def B_over (low c : Nat) : List S := [.ite (.cmp .eq (.ix (.var 1) (.int 0)) (.int 0)) [.raise c []] [], .ret (.call low [.bin .mul (.ix (.var 0) (.int 0)) (.ix (.var 1) (.int 1)), .bin .mul (.ix (.var 0) (.int 1)) (.ix (.var 1) (.int 0))])]
def OverOk (c : Nat) (call : CallS) (f : Nat) : Prop := PerOk call f ∧ ∀ (p : Rat) (s : Stt), call f [qD p, qD 0] s = .exc c [.str badPart] s
theorem overOk {P : Prog} {k f low c : Nat} {df : Def} (hf : P.defs[f]? = some df) (h1 : df.ps.length = 2) (h2 : df.N.length = 2) (hb : df.body = B_over low c) (hc : P.xcls[c]? = some ⟨badPart, []⟩) (hl : LowOk (callD P k) low) : OverOk c (callD P (k + 1)) f := by
  refine ⟨fun p q m n s h0 hp hq hn => ?_, fun p s => ?_⟩
  · have e1 : B_over low c = .ite (.cmp .eq (.ix (.var 1) (.int 0)) (.int 0)) [.raise c []] [] :: B_per low := rfl
    have st := bin_mul hp.1 hq.den (by omega)
    have st2 := bin_mul hp.den hq.1 (by omega)
    have x := hl (p.num * q.den) (p.den * q.num) (m + n) s (mul_ne (den_ne p) (num_ne h0)) (Sz.mulN hp.1 hq.den) (Sz.mulN hp.den hq.1) (by omega)
    rw [q_div p q h0] at x
    refine callD_rt hf h1.symm ?_ rfl
    rw [hb, h2]
    show evSs P (callD P k) (B_over low c) [some (qD p), some (qD q)] s = _
    simp [B_over, evSs, evS, evT, evE, evEs, R.of, R.bind, R.st, RS.seq, ix_q0, ix_q1, cmpF, eqF_int, num_ne h0, st, st2, x]
  · rw [callD_fin hf (ds := [qD p, qD 0]) (s := s) h1.symm, hb, h2]
    show RS.fin _ s.length (evSs P (callD P k) (B_over low c) [some (qD p), some (qD 0)] s) = _
    simp [B_over, evSs, evS, evT, evE, evEs, R.of, R.bind, R.st, RS.seq, ix_q0, cmpF, eqF_int, hc, RS.fin, leaveX_eq]
def B_under : List S := [.ret (.cmp .lt (.bin .mul (.ix (.var 0) (.int 0)) (.ix (.var 1) (.int 1))) (.bin .mul (.ix (.var 1) (.int 0)) (.ix (.var 0) (.int 1))))]
/-- p < q -/
def UnderOk (call : CallS) (f : Nat) : Prop := ∀ (p q : Rat) (m n : Nat) (s : Stt), Sz m p → Sz n q → m + n + 1 < 9000 → call f [qD p, qD q] s = .ok (.bl (decide (p < q))) s
theorem lt_cross (p q : Rat) : p.num * q.den < q.num * p.den ↔ p < q := by
  rw [Rat.lt_iff]
theorem underOk {P : Prog} {k f : Nat} {df : Def} (hf : P.defs[f]? = some df) (h1 : df.ps.length = 2) (h2 : df.N.length = 2) (hb : df.body = B_under) : UnderOk (callD P (k + 1)) f := fun p q m n s hp hq hn => by
  have st := bin_mul hp.1 hq.den (by omega)
  have st2 := bin_mul hq.1 hp.den (by omega)
  refine callD_rt hf h1.symm ?_ rfl
  rw [hb, h2]
  show evSs P (callD P k) B_under [some (qD p), some (qD q)] s = _
  simp [B_under, evSs, evS, evE, R.of, R.bind, R.st, RS.seq, ix_q0, ix_q1, cmpF, st, st2, lt_cross]
end G

set_option Elab.async false
set_option linter.all false
set_option maxRecDepth 100000
/-! Words: what is left by taking out alike neighbours; calls. Plain Lean. -/
namespace G
def push (w : T) (c : Nat) : T := if w.getLast? = some c then w.dropLast else w ++ [c]
def run (acc t : T) : T := t.foldl push acc
def short (t : T) : T := run [] t
/-- no two alike neighbours -/
def Red : T → Prop
  | [] => True
  | [_] => True
  | a :: b :: r => a ≠ b ∧ Red (b :: r)
theorem run_nil {acc : T} : run acc [] = acc := rfl
theorem run_cons {acc t : T} {c : Nat} : run acc (c :: t) = run (push acc c) t := rfl
theorem run_app {acc s t : T} : run acc (s ++ t) = run (run acc s) t := List.foldl_append
theorem push_same {w : T} {c : Nat} : push (w ++ [c]) c = w := by simp [push]
theorem push_other {w : T} {c : Nat} (h : w.getLast? ≠ some c) : push w c = w ++ [c] := if_neg h
theorem red_app_one : ∀ {w : T} {c : Nat}, Red (w ++ [c]) ↔ Red w ∧ w.getLast? ≠ some c
  | [], c => by simp [Red]
  | [a], c => by simp [Red]
  | a :: b :: r, c => by
    have := red_app_one (w := b :: r) (c := c)
    simp only [List.cons_append] at this
    simp only [List.cons_append, Red, this, List.getLast?_cons_cons, and_assoc]
theorem snoc_cases (w : T) : w = [] ∨ ∃ v c, w = v ++ [c] := by
  rcases List.eq_nil_or_concat w with h | ⟨v, c, h⟩
  · exact .inl h
  · exact .inr ⟨v, c, by simpa using h⟩
theorem red_push {w : T} {c : Nat} (h : Red w) : Red (push w c) := by
  by_cases q : w.getLast? = some c
  · rcases snoc_cases w with e | ⟨v, d, e⟩
    · subst e; simp at q
    · subst e
      simp at q
      subst q
      rw [push_same]
      exact (red_app_one.mp h).1
  · rw [push_other q]
    exact red_app_one.mpr ⟨h, q⟩
theorem push_push {w : T} {c : Nat} (h : Red w) : push (push w c) c = w := by
  by_cases q : w.getLast? = some c
  · rcases snoc_cases w with e | ⟨v, d, e⟩
    · subst e; simp at q
    · subst e
      simp at q
      subst q
      rw [push_same]
      exact push_other (red_app_one.mp h).2
  · rw [push_other q, push_same]
theorem red_run {t : T} : ∀ {acc : T}, Red acc → Red (run acc t) := by
  induction t with
  | nil => exact fun h => h
  | cons c t ih => exact fun h => ih (red_push h)
theorem red_short (t : T) : Red (short t) := red_run (acc := []) trivial
/-- going by what is left is going by all -/
theorem run_short {acc : T} (h : Red acc) (t : T) : run acc (short t) = run acc t := by
  suffices ∀ n, ∀ t : T, t.length = n → run acc (short t) = run acc t from this _ t rfl
  intro n
  induction n with
  | zero =>
    intro t ht
    have : t = [] := List.length_eq_zero_iff.mp ht
    subst this
    rfl
  | succ n ih =>
    intro t ht
    rcases snoc_cases t with e | ⟨v, c, e⟩
    · subst e; simp at ht
    · subst e
      have hv := ih v (by simpa using ht)
      have e1 : short (v ++ [c]) = push (short v) c := by
        show run [] (v ++ [c]) = _
        rw [run_app]; rfl
      have e2 : run acc (v ++ [c]) = push (run acc v) c := by rw [run_app]; rfl
      rw [e1, e2, ← hv]
      by_cases q : (short v).getLast? = some c
      · rcases snoc_cases (short v) with e | ⟨u, d, e⟩
        · rw [e] at q; simp at q
        · rw [e] at q ⊢
          simp at q
          subst q
          rw [push_same, run_app]
          show run acc u = push (push (run acc u) d) d
          rw [push_push (red_run h)]
      · rw [push_other q, run_app]
        rfl
theorem run_red {t : T} : ∀ {acc : T}, Red (acc ++ t) → run acc t = acc ++ t := by
  induction t with
  | nil => intro acc _; simp [run_nil]
  | cons c t ih =>
    intro acc h
    have e : acc ++ c :: t = (acc ++ [c]) ++ t := by simp
    have h1 : Red (acc ++ [c]) := by
      have : ∀ (a b : T), Red (a ++ b) → Red a := by
        intro a
        induction a with
        | nil => intros; trivial
        | cons x a ih =>
          intro b hb
          cases a with
          | nil => trivial
          | cons y a => exact ⟨hb.1, ih b hb.2⟩
      exact this _ t (e ▸ h)
    rw [run_cons, push_other (red_app_one.mp h1).2, ih (e ▸ h), e]
theorem short_red {t : T} (h : Red t) : short t = t := run_red (acc := []) h
theorem short_app (a b : T) : short (a ++ b) = run (short a) b := run_app
theorem short_l (a b : T) : short (short a ++ b) = short (a ++ b) := by
  rw [short_app, short_app, short_red (red_short a)]
theorem short_r (a b : T) : short (a ++ short b) = short (a ++ b) := by
  rw [short_app, short_app, run_short (red_short a)]
theorem run_back {w : T} : ∀ {acc : T}, Red acc → run (run acc w) w.reverse = acc := by
  induction w with
  | nil => intros; rfl
  | cons c w ih =>
    intro acc h
    rw [run_cons, List.reverse_cons, run_app, ih (red_push h)]
    exact push_push h
theorem short_back (w : T) : short (w ++ w.reverse) = [] := by
  rw [short_app]
  exact run_back (acc := []) trivial
theorem short_back' (w : T) : short (w.reverse ++ w) = [] := by
  have := short_back w.reverse
  rwa [List.reverse_reverse] at this
theorem red_rev : ∀ {w : T}, Red w → Red w.reverse
  | [], _ => trivial
  | [a], _ => trivial
  | a :: b :: r, h => by
    rw [List.reverse_cons]
    refine red_app_one.mpr ⟨red_rev h.2, ?_⟩
    rw [List.reverse_cons]
    simp
    exact fun e => h.1 e.symm
theorem rev_short (t : T) : (short t).reverse = short t.reverse := by
  have h1 : ∀ acc : T, Red acc → run acc (t ++ (short t).reverse) = acc := fun acc h => by
    rw [run_app, ← run_short h t]
    exact run_back h
  have h2 := h1 (short t.reverse) (red_short _)
  rw [run_app, ← short_app, short_back'] at h2
  have h3 : run [] (short t).reverse = (short t).reverse := run_red (acc := []) (red_rev (red_short t))
  rw [← h3]
  exact h2
theorem len_push {w : T} {c : Nat} : (push w c).length ≤ w.length + 1 := by
  unfold push
  split <;> simp
  omega
theorem len_run {t : T} : ∀ {acc : T}, (run acc t).length ≤ acc.length + t.length := by
  induction t with
  | nil => intro acc; simp [run_nil]
  | cons c t ih =>
    intro acc
    have h1 := ih (acc := push acc c)
    have h2 := len_push (w := acc) (c := c)
    rw [run_cons, List.length_cons]
    omega
theorem len_short {t : T} : (short t).length ≤ t.length := by
  have := len_run (t := t) (acc := [])
  simpa [short] using this
theorem mem_push {w : T} {c d : Nat} (h : d ∈ push w c) : d ∈ w ∨ d = c := by
  unfold push at h
  split at h
  · exact .inl ((List.dropLast_sublist _).subset h)
  · simpa using h
theorem mem_run {t : T} : ∀ {acc : T} {d : Nat}, d ∈ run acc t → d ∈ acc ∨ d ∈ t := by
  induction t with
  | nil => exact fun h => .inl h
  | cons c t ih =>
    intro acc d h
    rcases ih h with h | h
    · rcases mem_push h with h | h
      · exact .inl h
      · exact .inr (by simp [h])
    · exact .inr (by simp [h])
theorem mem_short {t : T} {d : Nat} (h : d ∈ short t) : d ∈ t := by
  rcases mem_run h with h | h
  · cases h
  · exact h
/-! ### the part up to the last of a letter -/
def pre (l : Nat) (w : T) : T := (w.reverse.dropWhile (· != l)).reverse
theorem pre_snoc {l : Nat} {w : T} {c : Nat} : pre l (w ++ [c]) = if c = l then w ++ [c] else pre l w := by
  unfold pre
  rw [List.reverse_append, List.reverse_singleton, List.singleton_append, List.dropWhile_cons]
  by_cases e : c = l
  · simp [e]
  · simp [e]
theorem pre_nil {l : Nat} : pre l [] = [] := rfl
theorem pre_push {l c : Nat} {w : T} (h : c ≠ l) : pre l (push w c) = pre l w := by
  by_cases q : w.getLast? = some c
  · rcases snoc_cases w with e | ⟨v, d, e⟩
    · subst e; simp at q
    · subst e
      simp at q
      subst q
      rw [push_same, pre_snoc, if_neg h]
  · rw [push_other q, pre_snoc, if_neg h]
theorem pre_run {l : Nat} {t : T} (h : l ∉ t) : ∀ {acc : T}, pre l (run acc t) = pre l acc := by
  induction t with
  | nil => intro acc; rfl
  | cons c t ih =>
    intro acc
    rw [run_cons, ih (fun q => h (List.mem_cons_of_mem _ q)), pre_push (fun q => h (by simp [q]))]
/-- a word is its part up to the last l, and a rest without l -/
theorem pre_rest (l : Nat) : ∀ n (w : T), w.length = n → ∃ r, w = pre l w ++ r ∧ l ∉ r := by
  intro n
  induction n with
  | zero =>
    intro w hw
    have : w = [] := List.length_eq_zero_iff.mp hw
    subst this
    exact ⟨[], rfl, by simp⟩
  | succ n ih =>
    intro w hw
    rcases snoc_cases w with e | ⟨v, c, e⟩
    · subst e; simp at hw
    · subst e
      rw [pre_snoc]
      by_cases q : c = l
      · rw [if_pos q]
        exact ⟨[], by simp, by simp⟩
      · obtain ⟨r, h1, h2⟩ := ih v (by simpa using hw)
        rw [if_neg q]
        refine ⟨r ++ [c], by rw [← List.append_assoc, ← h1], ?_⟩
        simp [h2]
        exact fun z => q z.symm
theorem pre_end {l : Nat} {w : T} : pre l w = [] ∨ (pre l w).getLast? = some l := by
  suffices ∀ n, ∀ w : T, w.length = n → pre l w = [] ∨ (pre l w).getLast? = some l from this _ w rfl
  intro n
  induction n with
  | zero =>
    intro w hw
    have : w = [] := List.length_eq_zero_iff.mp hw
    subst this
    exact .inl rfl
  | succ n ih =>
    intro w hw
    rcases snoc_cases w with e | ⟨v, c, e⟩
    · subst e; simp at hw
    · subst e
      rw [pre_snoc]
      split
      · rename_i h
        exact .inr (by simp [h])
      · exact ih v (by simpa using hw)
theorem pre_self {l : Nat} {w : T} (h : w = [] ∨ w.getLast? = some l) : pre l w = w := by
  rcases h with e | e
  · subst e; rfl
  · rcases snoc_cases w with q | ⟨v, c, q⟩
    · subst q; rfl
    · subst q
      simp at e
      rw [pre_snoc, if_pos e]
/-- only the part up to the last l tells -/
theorem pre_short (l : Nat) (u w : T) : pre l (short (u ++ pre l w)) = pre l (short (u ++ w)) := by
  obtain ⟨r, h1, h2⟩ := pre_rest l _ w rfl
  have : short (u ++ w) = run (short (u ++ pre l w)) r := by
    conv => lhs; rw [h1, ← List.append_assoc, short_app]
  rw [this, pre_run h2]
end G

set_option Elab.async false
set_option linter.all false
set_option maxRecDepth 100000
namespace G
open PySem L2
/-! texts and words -/
theorem sIx_m1 (n d : Nat) : HT.sIx n d (some (-1)) = n - 1 := by
  show (if (-1 : Int) < 0 then ((-1 : Int) + (n : Int)).toNat else min (-1 : Int).toNat n) = _
  rw [if_pos (by decide)]
  omega
theorem cut_last (a : T) : cut a (some (-1)) none = a.drop (a.length - 1) := by
  unfold cut
  rw [sIx_m1, HT.sIx_none]
  exact List.take_of_length_le (by simp)
theorem cut_init (a : T) : cut a none (some (-1)) = a.dropLast := by
  unfold cut
  rw [sIx_m1, HT.sIx_none]
  simp [List.dropLast_eq_take]
theorem cut_to (a : T) (n : Nat) (h : n ≤ a.length) : cut a none (some (n : Int)) = a.take n := by
  unfold cut
  rw [HT.sIx_nat, HT.sIx_none]
  simp [Nat.min_eq_left h]
theorem last_eq {a : T} {c : Nat} : a.drop (a.length - 1) = [c] ↔ a.getLast? = some c := by
  rcases snoc_cases a with e | ⟨v, d, e⟩
  · subst e; simp
  · subst e
    simp
theorem sl_last {t : T} (h : Tx t) : slF (.str t) (some (-1)) none = some (.str (t.drop (t.length - 1))) := by
  show (if t.length ≤ sizeLine then _ else _) = _
  rw [if_pos h.le, cut_last]
theorem sl_init {t : T} (h : Tx t) : slF (.str t) none (some (-1)) = some (.str t.dropLast) := by
  show (if t.length ≤ sizeLine then _ else _) = _
  rw [if_pos h.le, cut_init]
theorem sl_to {t : T} {n : Nat} (h : Tx t) (hn : n ≤ t.length) : slF (.str t) none (some (n : Int)) = some (.str (t.take n)) := by
  show (if t.length ≤ sizeLine then _ else _) = _
  rw [if_pos h.le, cut_to t n hn]
theorem add_str {a b : T} (h : a.length + b.length ≤ 1000) : binF .add (.str a) (.str b) = some (.str (a ++ b)) := if_pos (Nat.le_trans h (by decide))
theorem len_str {s : Stt} {t : T} (h : Tx t) : biF .len s (.str t) = some (.int t.length) := if_pos h.le
theorem rev_str {t : T} (h : Tx t) : revF (.str t) = some (.str t.reverse) := if_pos h.le
theorem Tx.sub {a b : T} (h : Tx b) (hl : a.length ≤ b.length) (hs : ∀ c ∈ a, c ∈ b) : Tx a := ⟨Nat.le_trans hl h.1, fun c hc => h.2 c (hs c hc)⟩
theorem Tx.rev {t : T} (h : Tx t) : Tx t.reverse := h.sub (by simp) (by simp)
theorem Tx.drop {t : T} (h : Tx t) (n : Nat) : Tx (t.drop n) := h.sub (by simp) fun c hc => List.mem_of_mem_drop hc
theorem Tx.take {t : T} (h : Tx t) (n : Nat) : Tx (t.take n) := h.sub (by simp; omega) fun c hc => List.mem_of_mem_take hc
theorem tx_one {c : Nat} (h : c < 1114112) : Tx [c] := ⟨by simp, by simpa using h⟩
theorem tx_nil : Tx [] := ⟨by simp, by simp⟩
/-! words -/
def abcd : T := [97, 98, 99, 100]
def great : T := [65, 66, 67, 68]
def Abc (t : T) : Prop := ∀ c ∈ t, c ∈ abcd
theorem Abc.tx {t : T} (h : Abc t) (hl : t.length ≤ 1000) : Tx t := ⟨hl, fun c hc => by
  have := h c hc
  simp [abcd] at this
  omega⟩
def Word (t : T) : Prop := Abc t ∧ Red t
theorem Word.nil : Word [] := ⟨fun _ h => (nomatch h), trivial⟩
theorem Word.short {t : T} (h : Abc t) : Word (short t) := ⟨fun c hc => h c (mem_short hc), red_short t⟩
theorem Abc.app {a b : T} (h1 : Abc a) (h2 : Abc b) : Abc (a ++ b) := fun c hc => by
  rcases List.mem_append.mp hc with q | q
  · exact h1 c q
  · exact h2 c q
theorem Abc.rev {a : T} (h1 : Abc a) : Abc a.reverse := fun c hc => h1 c (by simpa using hc)
theorem Word.rev {a : T} (h : Word a) : Word a.reverse := ⟨h.1.rev, red_rev h.2⟩
theorem red_adj : ∀ {t : T} {i : Nat} {a b : Nat}, Red t → t[i]? = some a → t[i + 1]? = some b → a ≠ b
  | x :: y :: r, 0, a, b, h, h1, h2 => by
    simp at h1 h2
    subst h1 h2
    exact h.1
  | x :: y :: r, i + 1, a, b, h, h1, h2 => red_adj (t := y :: r) (i := i) h.2 (by simpa using h1) (by simpa using h2)
  | [x], 0, a, b, _, _, h2 => by simp at h2
  | [x], i + 1, a, b, _, h1, _ => by simp at h1
  | [], i, a, b, _, h1, _ => by simp at h1
theorem pre_app {l : Nat} {r : T} (h : l ∉ r) : ∀ {a : T}, pre l (a ++ r) = pre l a := by
  induction r with
  | nil => intro a; simp
  | cons c r ih =>
    intro a
    have e : a ++ c :: r = (a ++ [c]) ++ r := by simp
    rw [e, ih (fun q => h (List.mem_cons_of_mem _ q)), pre_snoc, if_neg (fun q => h (by simp [q]))]
theorem subAt_one {w : T} {l i : Nat} (h : i < w.length) : Builtin.Str.subAt (tS w) (tS [l]) i = decide (w[i] = l) := by
  unfold Builtin.Str.subAt tS
  show (w.toArray.extract i (i + 1) == #[l]) = _
  have e : w.toArray.extract i (i + 1) = #[w[i]] := by
    apply Array.ext'
    have : (w.drop i).take 1 = [w[i]] := by
      rw [List.drop_eq_getElem_cons h]
      rfl
    simpa using this
  rw [e]
  by_cases q : w[i] = l
  · simp [q]
  · simp [q]
theorem rfind_one (w : T) (l : Nat) : (Txt.rfind (tS w) (tS [l]) = -1 ∧ pre l w = []) ∨ ∃ i : Nat, Txt.rfind (tS w) (tS [l]) = i ∧ i < w.length ∧ pre l w = w.take (i + 1) ∧ pre l w ≠ [] := by
  have hl : (tS w).length = w.length := by simp [tS, Str.length]
  have h1 : (tS [l]).length = 1 := rfl
  rcases StrLaws.last_spec (tS w) (tS [l]) with ⟨e, hn⟩ | ⟨i, e, ⟨ha, hb⟩, hk⟩
  · left
    refine ⟨by unfold Txt.rfind; rw [e], ?_⟩
    have : l ∉ w := fun hm => by
      obtain ⟨i, hi⟩ := List.getElem?_of_mem hm
      obtain ⟨q, hq⟩ := List.getElem?_eq_some_iff.mp hi
      refine hn i ⟨by rw [hl, h1]; omega, ?_⟩
      rw [subAt_one q]
      simpa using hq
    have := pre_app (a := []) this
    simpa [pre_nil] using this
  · right
    rw [hl, h1] at ha
    have hi : i < w.length := by omega
    rw [subAt_one hi] at hb
    have hb : w[i] = l := of_decide_eq_true hb
    have hd : l ∉ w.drop (i + 1) := fun hm => by
      obtain ⟨j, hj⟩ := List.getElem?_of_mem hm
      rw [List.getElem?_drop] at hj
      obtain ⟨q, hq⟩ := List.getElem?_eq_some_iff.mp hj
      refine hk (i + 1 + j) (by omega) ⟨by rw [hl, h1]; omega, ?_⟩
      rw [subAt_one q]
      simpa using hq
    have ht : w.take (i + 1) = w.take i ++ [l] := by
      rw [List.take_succ_eq_append_getElem hi, hb]
    have e3 : pre l w = w.take (i + 1) := by
      conv => lhs; rw [← List.take_append_drop (i + 1) w]
      rw [pre_app hd, ht, pre_snoc, if_pos rfl]
    refine ⟨i, by unfold Txt.rfind; rw [e], hi, e3, ?_⟩
    rw [e3, ht]
    simp
/-! calls -/
def ct (p : T) (l : Nat) : T := if p = [] then [l - 32] else p
structure CallOk (p : T) (l : Nat) : Prop where
  w : Word p
  m : l ∈ abcd
  e : p = [] ∨ p.getLast? = some l
theorem abcd_cases {l : Nat} (h : l ∈ abcd) : l = 97 ∨ l = 98 ∨ l = 99 ∨ l = 100 := by simpa [abcd] using h
theorem not_great {c : Nat} (h : c ∈ abcd) : c ∉ great := by
  rcases abcd_cases h with e | e | e | e <;> subst e <;> decide
theorem occ_great {p : T} (h : Abc p) (h0 : p ≠ []) : inT p great = false := by
  unfold inT
  split
  · rename_i c
    exact decide_eq_false (not_great (h c (by simp)))
  · rename_i p' hp
    have : ¬ ((!(Builtin.Str.occurrences (tS great) (tS p) 0 (tS great).length 1).isEmpty) = true) := fun q => by
      obtain ⟨i, h1, h2⟩ := (StrLaws.found_iff (tS great) (tS p)).mp q
      match p, h0 with
      | c :: r, _ =>
        unfold Builtin.Str.subAt at h2
        have e := eq_of_beq h2
        have m : c ∈ great := by
          have m1 : c ∈ ((tS great).cps.extract i (i + (tS (c :: r)).length)).toList := by
            rw [e]
            simp [tS]
          rw [Array.toList_extract] at m1
          have := List.mem_of_mem_take m1
          exact List.mem_of_mem_drop this
        exact not_great (h c (by simp)) m
    simpa using this
theorem ct_tx {p : T} {l : Nat} (h : CallOk p l) (hl : p.length ≤ 40) : Tx (ct p l) := by
  unfold ct
  split
  · rcases abcd_cases h.m with e | e | e | e <;> subst e <;> exact tx_one (by decide)
  · exact h.w.1.tx (by omega)
theorem in_great {p : T} {l : Nat} (h : CallOk p l) : inT (ct p l) great = decide (p = []) := by
  unfold ct
  split
  · rename_i e
    rcases abcd_cases h.m with q | q | q | q <;> subst q <;> simp [e, inT] <;> decide
  · rename_i e
    rw [occ_great h.w.1 e]
    simp [e]
theorem ix_text {s : Stt} {t : T} {i : Int} {c : Nat} (h : Tx t) (hi : atI t i = some c) : ixF s (.str t) (.int i) = some (.str [c]) := by
  show (if t.length ≤ sizeLine then (atI t i).map fun c => D.str [c] else none) = _
  rw [if_pos h.le, hi]
  rfl
theorem index_great {l : Nat} (h : l ∈ abcd) {s : Stt} : ∃ i : Int, meF .index s (.str great) [.str [l - 32]] = .ok (.int i) s ∧ atI abcd i = some l := by
  rcases abcd_cases h with e | e | e | e <;> subst e
  · exact ⟨0, by simp only [meF]; rw [show Builtin.Str.occurrences (tS great) (tS [97 - 32]) 0 (tS great).length 1 = [0] by decide +kernel]; rfl, rfl⟩
  · exact ⟨1, by simp only [meF]; rw [show Builtin.Str.occurrences (tS great) (tS [98 - 32]) 0 (tS great).length 1 = [1] by decide +kernel]; rfl, rfl⟩
  · exact ⟨2, by simp only [meF]; rw [show Builtin.Str.occurrences (tS great) (tS [99 - 32]) 0 (tS great).length 1 = [2] by decide +kernel]; rfl, rfl⟩
  · exact ⟨3, by simp only [meF]; rw [show Builtin.Str.occurrences (tS great) (tS [100 - 32]) 0 (tS great).length 1 = [3] by decide +kernel]; rfl, rfl⟩
theorem index_abcd {l : Nat} (h : l ∈ abcd) {s : Stt} : ∃ i : Int, meF .index s (.str abcd) [.str [l]] = .ok (.int i) s ∧ atI great i = some (l - 32) := by
  rcases abcd_cases h with e | e | e | e <;> subst e
  · exact ⟨0, by simp only [meF]; rw [show Builtin.Str.occurrences (tS abcd) (tS [97]) 0 (tS abcd).length 1 = [0] by decide +kernel]; rfl, rfl⟩
  · exact ⟨1, by simp only [meF]; rw [show Builtin.Str.occurrences (tS abcd) (tS [98]) 0 (tS abcd).length 1 = [1] by decide +kernel]; rfl, rfl⟩
  · exact ⟨2, by simp only [meF]; rw [show Builtin.Str.occurrences (tS abcd) (tS [99]) 0 (tS abcd).length 1 = [2] by decide +kernel]; rfl, rfl⟩
  · exact ⟨3, by simp only [meF]; rw [show Builtin.Str.occurrences (tS abcd) (tS [100]) 0 (tS abcd).length 1 = [3] by decide +kernel]; rfl, rfl⟩
theorem atI_last {t : T} {c : Nat} (h : t.getLast? = some c) : atI t (-1) = some c := by
  rcases snoc_cases t with e | ⟨v, d, e⟩
  · subst e; simp at h
  · subst e
    simp at h
    subst h
    unfold atI ixN
    rw [if_neg (by decide), if_pos (by simp; omega)]
    have e : ((-1 : Int) + ((v ++ [d]).length : Nat)).toNat = v.length := by simp; omega
    show (v ++ [d])[((-1 : Int) + ((v ++ [d]).length : Nat)).toNat]? = some d
    rw [e]
    simp
theorem tx_abcd : Tx abcd := ⟨by decide, by decide⟩
theorem tx_great : Tx great := ⟨by decide, by decide⟩
theorem CallOk.pre {l : Nat} {t : T} (h : Abc t) (hl : l ∈ abcd) (hr : Red t) : CallOk (pre l t) l := by
  obtain ⟨r, h1, h2⟩ := pre_rest l _ t rfl
  refine ⟨⟨fun c hc => h c (by rw [h1]; simp [hc]), ?_⟩, hl, pre_end⟩
  have : ∀ (a b : T), Red (a ++ b) → Red a := by
    intro a
    induction a with
    | nil => intros; trivial
    | cons x a ih =>
      intro b hb
      cases a with
      | nil => trivial
      | cons y a => exact ⟨hb.1, ih b hb.2⟩
  rw [h1] at hr
  exact this _ _ hr
theorem pre_len {l : Nat} {t : T} : (pre l t).length ≤ t.length := by
  obtain ⟨r, h1, h2⟩ := pre_rest l _ t rfl
  conv => rhs; rw [h1]
  simp
theorem loopC_filter {body : D → List D → Stt → R (List D)} {s : Stt} (f : Nat → D) (g : Nat → Bool) : ∀ (cs : List Nat) (acc : List D), acc.length + cs.length ≤ sizeLine → (∀ c ∈ cs, ∀ acc : List D, acc.length < sizeLine → body (f c) acc s = .ok (if g c = true then acc ++ [f c] else acc) s) → loopC body (cs.map f) acc s = .ok (acc ++ (cs.filter g).map f) s
  | [], acc, _, _ => by simp [loopC]
  | c :: cs, acc, hl, h => by
    rw [List.length_cons] at hl
    rw [List.map_cons]
    unfold loopC
    rw [h c (List.mem_cons_self ..) acc (by omega)]
    by_cases q : g c = true
    · simp only [q, if_true]
      rw [loopC_filter f g cs (acc ++ [f c]) (by rw [List.length_append, List.length_singleton]; omega) fun d hd => h d (List.mem_cons_of_mem _ hd)]
      simp [q]
    · simp only [q, if_false]
      show loopC body (cs.map f) acc s = _
      rw [loopC_filter f g cs acc (by omega) fun d hd => h d (List.mem_cons_of_mem _ hd)]
      simp [q]
theorem in_one {c : Nat} {t : T} : inD (.str [c]) (.str t) = some (decide (c ∈ t)) := rfl
/-! a def by its looks -/
structure Is (P : Prog) (f np nn : Nat) (b : List S) : Prop where
  of : ∃ df, P.defs[f]? = some df ∧ df.ps.length = np ∧ df.N.length = nn ∧ df.body = b
theorem Is.rt {P : Prog} {f np nn k : Nat} {b : List S} (h : Is P f np nn b) {ds : List D} {s s' : Stt} {d : D} (hl : ds.length = np) (he : evSs P (callD P k) b (ds.map some ++ List.replicate (nn - np) none) s = .rt d s') (hs : s'.length = s.length) : callD P (k + 1) f ds s = .ok d s' := by
  obtain ⟨df, h1, rfl, rfl, rfl⟩ := h.of
  exact callD_rt h1 hl (by rw [hl]; exact he) hs
theorem Is.nx {P : Prog} {f np nn k : Nat} {b : List S} (h : Is P f np nn b) {ds : List D} {s s' : Stt} {ρ : Env} (hl : ds.length = np) (he : evSs P (callD P k) b (ds.map some ++ List.replicate (nn - np) none) s = .nx ρ s') (hs : s'.length = s.length) : callD P (k + 1) f ds s = .ok .non s' := by
  obtain ⟨df, h1, rfl, rfl, rfl⟩ := h.of
  rw [callD_fin h1 hl, hl, he, fin_nx, leave_eq hs]
theorem Is.exc {P : Prog} {f np nn k c : Nat} {b : List S} (h : Is P f np nn b) {ds fs : List D} {s s' : Stt} {ρ : Env} (hl : ds.length = np) (he : evSs P (callD P k) b (ds.map some ++ List.replicate (nn - np) none) s = .exc c fs ρ s') (hs : s'.length = s.length) : callD P (k + 1) f ds s = .exc c fs s' := by
  obtain ⟨df, h1, rfl, rfl, rfl⟩ := h.of
  rw [callD_fin h1 hl, hl, he]
  show leaveX _ _ _ _ = _
  rw [← hs]
  exact leaveX_eq rfl
/-! a loop that ends at the first hit -/
def thr : RS → Prop
  | .rt _ _ => True
  | .exc _ _ _ _ => True
  | _ => False
theorem loopF_find {body : D → Env → Stt → RS} {s : Stt} (I : Env → Prop) (p : Nat → Bool) (v : Nat → RS → Prop) (hv : ∀ i r, v i r → thr r) : ∀ (ds : List D) (n : Nat) (ρ : Env), I ρ → (∀ i d ρ, ds[i]? = some d → I ρ → (p (n + i) = true ∧ v (n + i) (body d ρ s)) ∨ (p (n + i) = false ∧ ∃ ρ', body d ρ s = .nx ρ' s ∧ I ρ')) →
    (∃ i, (List.range' n ds.length).find? p = some i ∧ v i (loopF body ds ρ s)) ∨ ((List.range' n ds.length).find? p = none ∧ ∃ ρ', loopF body ds ρ s = .nx ρ' s ∧ I ρ')
  | [], n, ρ, h, _ => .inr ⟨rfl, ρ, rfl, h⟩
  | d :: ds, n, ρ, h, hb => by
    rw [List.length_cons, List.range'_succ, List.find?_cons]
    rcases hb 0 d ρ rfl h with ⟨e1, e2⟩ | ⟨e1, ρ', e2, h'⟩
    · left
      rw [Nat.add_zero] at e1 e2
      refine ⟨n, by rw [e1], ?_⟩
      have := hv n _ e2
      unfold loopF
      split <;> rename_i q <;> rw [q] at this e2 <;> first | exact e2 | exact this.elim
    · rw [Nat.add_zero] at e1
      rw [e1]
      unfold loopF
      rw [e2]
      refine loopF_find I p v hv ds (n + 1) ρ' h' fun i d ρ hi hI => ?_
      have := hb (i + 1) d ρ hi hI
      rwa [← Nat.add_assoc, Nat.add_right_comm] at this
/-! what spoils a word -/
def badAt (t : T) (i : Nat) : Bool := match t[i]? with
  | some c => !decide (c ∈ abcd) || (decide (0 < i) && decide (t[i - 1]? = some c))
  | none => false
def flawT (t : T) : Option Nat := match (List.range' 0 t.length).find? (badAt t) with
  | some i => some i
  | none => if 40 < t.length then some 40 else none
def flawD : Option Nat → D
  | some i => .int i
  | none => .non
theorem red_of : ∀ {t : T}, (∀ i a b, t[i]? = some a → t[i + 1]? = some b → a ≠ b) → Red t
  | [], _ => trivial
  | [_], _ => trivial
  | x :: y :: r, h => ⟨h 0 x y rfl rfl, red_of fun i a b h1 h2 => h (i + 1) a b h1 h2⟩
theorem flaw_none {t : T} (h : flawT t = none) : Word t ∧ t.length ≤ 40 := by
  unfold flawT at h
  split at h
  · cases h
  · rename_i e
    split at h
    · cases h
    · refine ⟨?_, by omega⟩
      have hb : ∀ i c, t[i]? = some c → c ∈ abcd ∧ (0 < i → t[i - 1]? ≠ some c) := fun i c hi => by
        have h1 := (List.getElem?_eq_some_iff.mp hi).1
        have h2 := List.find?_eq_none.mp e i (by simpa [List.mem_range'_1] using h1)
        simpa [badAt, hi] using h2
      refine ⟨fun c hc => ?_, red_of fun i a b h1 h2 => ?_⟩
      · obtain ⟨i, hi⟩ := List.getElem?_of_mem hc
        exact (hb i c hi).1
      · have := (hb (i + 1) b h2).2 (by omega)
        rw [Nat.add_sub_cancel, h1] at this
        exact fun q => this (by rw [q])
theorem flaw_word {t : T} (h : Word t) (hl : t.length ≤ 40) : flawT t = none := by
  unfold flawT
  have : (List.range' 0 t.length).find? (badAt t) = none := List.find?_eq_none.mpr fun i hi => by
    have h1 : i < t.length := by simpa [List.mem_range'_1] using hi
    have h2 := List.getElem?_eq_getElem h1
    have h3 : t[i] ∈ abcd := h.1 _ (List.getElem_mem h1)
    simp only [badAt, h2, h3, decide_true, Bool.not_true, Bool.false_or, Bool.and_eq_true, decide_eq_true_eq, not_and]
    intro h0 h4
    obtain ⟨j, rfl⟩ : ∃ j, i = j + 1 := ⟨i - 1, by omega⟩
    exact red_adj h.2 h4 h2 rfl
  rw [this, if_neg (by omega)]
end G

set_option Elab.async false
set_option linter.all false
set_option maxRecDepth 100000
namespace G
open PySem L2
section
variable {P : Prog} {k f : Nat}
/-! alike neighbours out -/
def shortB : List S := [.set 1 (.ite (.cmp .eq (.sl (.var 1) (some (.neg (.int 1))) none) (.var 2)) (.sl (.var 1) none (some (.neg (.int 1)))) (.bin .add (.var 1) (.var 2)))]
def B_short : List S := [.set 1 (.str []), .for [2] .seq [.var 0] shortB, .ret (.var 1)]
def ShortOk (call : CallS) (f : Nat) : Prop := ∀ (t : T) (s : Stt), Tx t → t.length ≤ 400 → call f [.str t] s = .ok (.str (short t)) s
theorem shortOk (hf : Is P f 1 3 B_short) : ShortOk (callD P (k + 1)) f := fun t s h hl => by
  refine hf.rt rfl ?_ rfl
  have loop : ∀ (u acc : T) (o : Option D), Tx u → Tx acc → u.length + acc.length ≤ 1000 → ∃ o', loopF (forB P (callD P k) [2] shortB) (u.map fun c => .str [c]) [some (.str t), some (.str acc), o] s = .nx [some (.str t), some (.str (G.run acc u)), o'] s := by
    intro u
    induction u with
    | nil => intro acc o _ _ _; exact ⟨o, rfl⟩
    | cons c u ih =>
      intro acc o hu ha hl
      rw [List.length_cons] at hl
      have hc : c < 1114112 := hu.2 c (by simp)
      have hu' : Tx u := hu.sub (by simp) fun d hd => by simp [hd]
      have hp : Tx (push acc c) := by
        unfold push
        split
        · exact ha.sub (by simp) fun d hd => (List.dropLast_sublist _).subset hd
        · exact ha.app (tx_one hc) (by simp; omega)
      have hl2 := len_push (w := acc) (c := c)
      obtain ⟨o', e⟩ := ih (push acc c) (some (.str [c])) hu' hp (by omega)
      refine ⟨o', ?_⟩
      rw [List.map_cons]
      unfold loopF
      have : forB P (callD P k) [2] shortB (.str [c]) [some (.str t), some (.str acc), o] s = .nx [some (.str t), some (.str (push acc c)), some (.str [c])] s := by
        have q := eqF_str (ha.drop (acc.length - 1)) (tx_one hc)
        have ad := add_str (a := acc) (b := [c]) (by simp; omega)
        by_cases cc : acc.getLast? = some c
        · have cc' := last_eq.mpr cc
          simp [forB, tgF, shortB, evSs, evS, evE, evT, evO, R.of, R.bind, R.st, RS.seq, sl_last ha, sl_init ha, cmpF, cc', push, cc, eqF_str (tx_one hc) (tx_one hc)]
        · have cc' : ¬ acc.drop (acc.length - 1) = [c] := fun z => cc (last_eq.mp z)
          simp [forB, tgF, shortB, evSs, evS, evE, evT, evO, R.of, R.bind, R.st, RS.seq, sl_last ha, sl_init ha, cmpF, q, cc', push, cc, ad]
      rw [this]
      exact e
  obtain ⟨o', e⟩ := loop t [] none h tx_nil (by simp; omega)
  show evSs P (callD P k) B_short [some (.str t), none, none] s = _
  have e1 : evS P (callD P k) (.set 1 (.str [])) [some (.str t), none, none] s = .nx [some (.str t), some (.str []), none] s := by simp [evS, evE, R.st]
  have e2 : evS P (callD P k) (.for [2] .seq [.var 0] shortB) [some (.str t), some (.str []), none] s = .nx [some (.str t), some (.str (short t)), o'] s := by
    rw [evS_for]
    have : evEs P (callD P k) [.var 0] [some (.str t), some (.str []), none] s = .ok [.str t] s := by simp [evEs, evE, R.of, R.bind]
    rw [this, rbind_ok]
    simp only [srcF, of_some, st_ok]
    exact e
  rw [B_short, evSs_cons, e1, seq_nx, evSs_cons, e2, seq_nx]
  simp [evSs, evS, evE, R.of, R.st, RS.seq]
/-! the first sign that spoils a word -/
theorem ix_at {s : Stt} {t : T} {i c : Nat} (h : Tx t) (hi : t[i]? = some c) : ixF s (.str t) (.int (i : Nat)) = some (.str [c]) := ix_text h (atI_of (by omega) (by rw [Int.toNat_natCast]; exact hi))
theorem same_before {call : CallS} {t : T} {i c : Nat} {s : Stt} {e : E} {ρ : Env} (h : Tx t) (hc : t[i]? = some c) (h0 : ρ[0]?.join = some (.str t)) {v : Nat} (h1 : ρ[v]?.join = some (.int (i : Nat))) (h2 : evE P call e ρ s = .ok (.str [c]) s) : evT P call (.and [.cmp .gt (.var v) (.int 0), .cmp .eq (.ix (.var 0) (.bin .sub (.var v) (.int 1))) e]) ρ s = .ok (decide (0 < i) && decide (t[i - 1]? = some c)) s := by
  cases i with
  | zero => simp [evT, evTAnd, evE, R.of, R.bind, cmpF, h1]
  | succ i =>
    have hi' : i + 1 < t.length := (List.getElem?_eq_some_iff.mp hc).1
    have hb : t[i]? = some t[i] := List.getElem?_eq_getElem (by omega)
    have cb : t[i] < 1114112 := h.2 _ (List.getElem_mem _)
    have cc : c < 1114112 := h.2 _ (List.mem_of_getElem? hc)
    have x1 := ix_at (s := s) h hb
    have p1 : (0 : Int) < ((i + 1 : Nat) : Int) := by omega
    have p2 : ((i + 1 : Nat) : Int) - 1 = (i : Nat) := by omega
    simp only [evT, evTAnd, evE, R.of, R.bind, h0, h1, h2, cmpF, p1, decide_true, if_true, bin_sub, p2, x1, eqF_str (tx_one cb) (tx_one cc), Option.map_some]
    simp [hb]
def flawB (cL : Nat) : List S := [.ite (.or [.cmp .nin (.var 2) (.glob cL), .and [.cmp .gt (.var 1) (.int 0), .cmp .eq (.ix (.var 0) (.bin .sub (.var 1) (.int 1))) (.var 2)]]) [.ret (.var 1)] []]
def B_flaw (cL cM : Nat) : List S := [.for [1, 2] .enum [.var 0] (flawB cL), .ret (.ite (.cmp .gt (.bi .len (.var 0)) (.glob cM)) (.glob cM) (.non))]
def FlawOk (call : CallS) (f : Nat) : Prop := ∀ (t : T) (s : Stt), Tx t → call f [.str t] s = .ok (flawD (flawT t)) s
theorem flawOk {cL cM : Nat} {nL nM : Str} (hf : Is P f 1 3 (B_flaw cL cM)) (hL : P.consts[cL]? = some (nL, .str abcd)) (hM : P.consts[cM]? = some (nM, .int 40)) : FlawOk (callD P (k + 1)) f := fun t s tx => by
  refine hf.rt rfl ?_ rfl
  show evSs P (callD P k) (B_flaw cL cM) [some (.str t), none, none] s = _
  have key := loopF_find (body := forB P (callD P k) [1, 2] (flawB cL)) (s := s) (fun ρ => ∃ x y, ρ = [some (.str t), x, y]) (badAt t) (fun i r => r = .rt (.int (i : Nat)) s) (fun i r h => by rw [h]; trivial)
    (t.mapIdx fun i c => .tup [.int i, .str [c]]) 0 [some (.str t), none, none] ⟨none, none, rfl⟩ fun i d ρ hi ⟨x, y, e3⟩ => by
      subst e3
      rw [List.getElem?_mapIdx] at hi
      obtain ⟨c, hc, rfl⟩ := Option.map_eq_some_iff.mp hi
      rw [Nat.zero_add]
      have q2 := same_before (P := P) (call := callD P k) (s := s) (e := .var 2) (v := 1) (ρ := [some (.str t), some (.int i), some (.str [c])]) tx hc rfl rfl (by simp [evE, R.of])
      have q1 : evT P (callD P k) (.cmp .nin (.var 2) (.glob cL)) [some (.str t), some (.int i), some (.str [c])] s = .ok (!decide (c ∈ abcd)) s := by
        simp [evT, evE, R.of, R.bind, hL, cmpF, in_one]
      have e0 : forB P (callD P k) [1, 2] (flawB cL) (.tup [.int i, .str [c]]) [some (.str t), x, y] s = evSs P (callD P k) (flawB cL) [some (.str t), some (.int i), some (.str [c])] s := rfl
      have q3 : badAt t i = (!decide (c ∈ abcd) || (decide (0 < i) && decide (t[i - 1]? = some c))) := by simp [badAt, hc]
      rw [e0, flawB, evSs_cons, evS, evT, evTOr, q1, rbind_ok, q3]
      by_cases m : c ∈ abcd
      · simp only [m, decide_true, Bool.not_true, Bool.false_or, Bool.false_eq_true, if_false]
        rw [evTOr, q2, st_ok]
        by_cases z : (decide (0 < i) && decide (t[i - 1]? = some c)) = true
        · left
          rw [z]
          exact ⟨rfl, by simp [evSs, evS, evE, R.of, R.st, RS.seq]⟩
        · right
          rw [Bool.not_eq_true] at z
          rw [z]
          exact ⟨rfl, [some (.str t), some (.int i), some (.str [c])], by simp [evSs, RS.seq], _, _, rfl⟩
      · left
        simp only [m, decide_false, Bool.not_false, Bool.true_or, if_true, st_ok]
        exact ⟨trivial, by simp [evSs, evS, evE, R.of, R.st, RS.seq]⟩
  rw [List.length_mapIdx] at key
  have e5 : evS P (callD P k) (.for [1, 2] .enum [.var 0] (flawB cL)) [some (.str t), none, none] s = loopF (forB P (callD P k) [1, 2] (flawB cL)) (t.mapIdx fun i c => .tup [.int i, .str [c]]) [some (.str t), none, none] s := by
    rw [evS_for]
    have : evEs P (callD P k) [.var 0] [some (.str t), none, none] s = .ok [.str t] s := by simp [evEs, evE, R.of, R.bind]
    rw [this, rbind_ok]
    simp only [srcF, of_some, st_ok]
  rw [B_flaw, evSs_cons, e5]
  rcases key with ⟨i, h1, h2⟩ | ⟨h1, ρ', h2, x, y, e3⟩
  · rw [h2, seq_rt]
    simp only [flawT, h1, flawD]
  · rw [h2, seq_nx, e3]
    simp only [flawT, h1]
    by_cases hlt : 40 < t.length
    · have : (40 : Int) < t.length := by omega
      simp [evSs, evS, evT, evE, R.of, R.bind, R.st, RS.seq, len_str tx, hM, cmpF, hlt, this, flawD]
    · have : ¬ (40 : Int) < t.length := by omega
      simp [evSs, evS, evT, evE, R.of, R.bind, R.st, RS.seq, len_str tx, hM, cmpF, hlt, this, flawD]
def lflawB : List S := [.ite (.or [.cmp .nin (.ix (.var 0) (.var 1)) (.str [97, 98, 99, 100]), .and [.cmp .gt (.var 1) (.int 0), .cmp .eq (.ix (.var 0) (.bin .sub (.var 1) (.int 1))) (.ix (.var 0) (.var 1))]]) [.ret (.var 1)] []]
def B_lflaw : List S := [.for [1] .range1 [.bi .len (.var 0)] lflawB, .ret (.ite (.cmp .gt (.bi .len (.var 0)) (.int 40)) (.int 40) (.non))]
theorem lflawOk (hf : Is P f 1 2 B_lflaw) : FlawOk (callD P (k + 1)) f := fun t s tx => by
  refine hf.rt rfl ?_ rfl
  show evSs P (callD P k) B_lflaw [some (.str t), none] s = _
  have key := loopF_find (body := forB P (callD P k) [1] lflawB) (s := s) (fun ρ => ∃ x, ρ = [some (.str t), x]) (badAt t) (fun i r => r = .rt (.int (i : Nat)) s) (fun i r h => by rw [h]; trivial)
    ((List.range t.length).map fun i => .int (i : Nat)) 0 [some (.str t), none] ⟨none, rfl⟩ fun i d ρ hi ⟨x, e3⟩ => by
      subst e3
      rw [List.getElem?_map] at hi
      obtain ⟨i', hi', rfl⟩ := Option.map_eq_some_iff.mp hi
      have hlt : i < t.length := by
        have := (List.getElem?_eq_some_iff.mp hi').1
        simpa using this
      rw [List.getElem?_range hlt] at hi'
      cases hi'
      have hc : t[i]? = some t[i] := List.getElem?_eq_getElem hlt
      generalize t[i] = c at hc
      rw [Nat.zero_add]
      have x0 := ix_at (s := s) tx hc
      have q0 : evE P (callD P k) (.ix (.var 0) (.var 1)) [some (.str t), some (.int i)] s = .ok (.str [c]) s := by simp [evE, R.of, R.bind, x0]
      have q2 := same_before (P := P) (call := callD P k) (s := s) (e := .ix (.var 0) (.var 1)) (v := 1) (ρ := [some (.str t), some (.int i)]) tx hc rfl rfl q0
      have q1 : evT P (callD P k) (.cmp .nin (.ix (.var 0) (.var 1)) (.str [97, 98, 99, 100])) [some (.str t), some (.int i)] s = .ok (!decide (c ∈ abcd)) s := by
        rw [evT, q0, rbind_ok]
        simp [evE, R.of, R.bind, cmpF, in_one, abcd]
      have e0 : forB P (callD P k) [1] lflawB (.int (i : Nat)) [some (.str t), x] s = evSs P (callD P k) lflawB [some (.str t), some (.int i)] s := rfl
      have q3 : badAt t i = (!decide (c ∈ abcd) || (decide (0 < i) && decide (t[i - 1]? = some c))) := by simp [badAt, hc]
      rw [e0, lflawB, evSs_cons, evS, evT, evTOr, q1, rbind_ok, q3]
      by_cases m : c ∈ abcd
      · simp only [m, decide_true, Bool.not_true, Bool.false_or, Bool.false_eq_true, if_false]
        rw [evTOr, q2, st_ok]
        by_cases z : (decide (0 < i) && decide (t[i - 1]? = some c)) = true
        · left
          rw [z]
          exact ⟨rfl, by simp [evSs, evS, evE, R.of, R.st, RS.seq]⟩
        · right
          rw [Bool.not_eq_true] at z
          rw [z]
          exact ⟨rfl, [some (.str t), some (.int i)], by simp [evSs, RS.seq], _, rfl⟩
      · left
        simp only [m, decide_false, Bool.not_false, Bool.true_or, if_true, st_ok]
        exact ⟨trivial, by simp [evSs, evS, evE, R.of, R.st, RS.seq]⟩
  rw [List.length_map, List.length_range] at key
  have e5 : evS P (callD P k) (.for [1] .range1 [.bi .len (.var 0)] lflawB) [some (.str t), none] s = loopF (forB P (callD P k) [1] lflawB) ((List.range t.length).map fun i => .int (i : Nat)) [some (.str t), none] s := by
    rw [evS_for]
    have : evEs P (callD P k) [.bi .len (.var 0)] [some (.str t), none] s = .ok [.int t.length] s := by simp [evEs, evE, R.of, R.bind, len_str tx]
    rw [this, rbind_ok, srcF_range (by omega) (by have := tx.1; omega), of_some, st_ok]
    simp only [Int.toNat_natCast]
  rw [B_lflaw, evSs_cons, e5]
  rcases key with ⟨i, h1, h2⟩ | ⟨h1, ρ', h2, x, e3⟩
  · rw [h2, seq_rt]
    simp only [flawT, h1, flawD]
  · rw [h2, seq_nx, e3]
    simp only [flawT, h1]
    by_cases hlt : 40 < t.length
    · have : (40 : Int) < t.length := by omega
      simp [evSs, evS, evT, evE, R.of, R.bind, R.st, RS.seq, len_str tx, cmpF, hlt, this, flawD]
    · have : ¬ (40 : Int) < t.length := by omega
      simp [evSs, evS, evT, evE, R.of, R.bind, R.st, RS.seq, len_str tx, cmpF, hlt, this, flawD]
end
end G

set_option Elab.async false
set_option linter.all false
set_option maxRecDepth 100000
namespace G
open PySem L2
def badWordT : T := [66, 97, 100, 87, 111, 114, 100]
def badCallT : T := [66, 97, 100, 67, 97, 108, 108]
/-- a refused word -/
def wordX {α : Type} (cW : Nat) (o : Option Nat) (s : Stt) (r : R α) : R α := match o with
  | some i => .exc cW [.str badWordT, .int i] s
  | none => r
def oneGreat (t : T) : Bool := decide (t ∈ [[65], [66], [67], [68]])
def isCallT (t : T) : Bool := oneGreat t || (!decide (t = []) && (flawT t).isNone)
theorem eqF_nil {t : T} (h : Tx t) : eqF (.str t) (.str []) = some (decide (t = [])) := eqF_str h tx_nil
theorem one_great {t : T} (h : t.length = 1) : inT t great = oneGreat t := by
  match t, h with
  | [c], _ => simp [inT, great, oneGreat]
theorem one_great_len {t : T} (h : oneGreat t = true) : t.length = 1 := by
  simp [oneGreat] at h
  rcases h with e | e | e | e <;> subst e <;> rfl
/-- what calls a stone -/
theorem isCall_ct {t : T} (h : isCallT t = true) : ∃ p l, t = ct p l ∧ CallOk p l ∧ p.length ≤ 40 := by
  simp only [isCallT, Bool.or_eq_true, Bool.and_eq_true, Bool.not_eq_true', decide_eq_false_iff_not, Option.isNone_iff_eq_none] at h
  rcases h with h | ⟨h0, h1⟩
  · simp [oneGreat] at h
    rcases h with e | e | e | e <;> subst e
    · exact ⟨[], 97, rfl, ⟨Word.nil, by decide, .inl rfl⟩, by simp⟩
    · exact ⟨[], 98, rfl, ⟨Word.nil, by decide, .inl rfl⟩, by simp⟩
    · exact ⟨[], 99, rfl, ⟨Word.nil, by decide, .inl rfl⟩, by simp⟩
    · exact ⟨[], 100, rfl, ⟨Word.nil, by decide, .inl rfl⟩, by simp⟩
  · obtain ⟨w, hl⟩ := flaw_none h1
    obtain ⟨v, c, hv⟩ := (snoc_cases t).resolve_left h0
    exact ⟨t, c, by simp [ct, h0], ⟨w, w.1 c (by rw [hv]; simp), .inr (by rw [hv]; simp)⟩, hl⟩
theorem ct_isCall {p : T} {l : Nat} (h : CallOk p l) (hl : p.length ≤ 40) : isCallT (ct p l) = true := by
  unfold ct
  split
  · rcases abcd_cases h.m with e | e | e | e <;> subst e <;> rfl
  · rename_i e
    simp [isCallT, e, flaw_word h.w hl]
theorem ct_oneGreat {p : T} {l : Nat} (h : CallOk p l) : oneGreat (ct p l) = decide (p = []) := by
  unfold ct
  split
  · rename_i e
    rcases abcd_cases h.m with q | q | q | q <;> subst q <;> simp [e] <;> rfl
  · rename_i e
    have : oneGreat p = false := by
      rw [Bool.eq_false_iff]
      intro q
      have l1 := one_great_len q
      rw [← one_great l1] at q
      rw [occ_great h.w.1 e] at q
      cases q
    simp [this, e]
section
variable {P : Prog} {k f : Nat}
def B_isw (flaw : Nat) : List S := [.ret (.cmp .isN (.call flaw [.var 0]) (.non))]
def IsWordOk (call : CallS) (f : Nat) : Prop := ∀ (t : T) (s : Stt), Tx t → call f [.str t] s = .ok (.bl (flawT t).isNone) s
theorem isWordOk {flaw : Nat} (hf : Is P f 1 1 (B_isw flaw)) (h : FlawOk (callD P k) flaw) : IsWordOk (callD P (k + 1)) f := fun t s tx => by
  refine hf.rt rfl ?_ rfl
  have e := h t s tx
  show evSs P (callD P k) (B_isw flaw) [some (.str t)] s = _
  cases q : flawT t <;> simp [B_isw, evSs, evS, evE, evEs, R.of, R.bind, R.st, RS.seq, e, cmpF, q, flawD]
def B_lookw (flaw cW : Nat) : List S := [.set 1 (.call flaw [.var 0]), .ite (.cmp .isnN (.var 1) (.non)) [.raise cW [.var 1]] []]
def LookWordOk (cW : Nat) (call : CallS) (f : Nat) : Prop := ∀ (t : T) (s : Stt), Tx t → call f [.str t] s = wordX cW (flawT t) s (.ok .non s)
theorem lookWordOk {flaw cW : Nat} (hf : Is P f 1 2 (B_lookw flaw cW)) (h : FlawOk (callD P k) flaw) (hc : P.xcls[cW]? = some ⟨badWordT, ["at"]⟩) : LookWordOk cW (callD P (k + 1)) f := fun t s tx => by
  have e := h t s tx
  cases q : flawT t with
  | none =>
    refine hf.nx (ρ := [some (.str t), some .non]) rfl ?_ rfl
    show evSs P (callD P k) (B_lookw flaw cW) [some (.str t), none] s = _
    simp [B_lookw, evSs, evS, evT, evE, evEs, R.of, R.bind, R.st, RS.seq, e, cmpF, q, flawD]
  | some i =>
    refine hf.exc (ρ := [some (.str t), some (.int i)]) rfl ?_ rfl
    show evSs P (callD P k) (B_lookw flaw cW) [some (.str t), none] s = _
    simp [B_lookw, evSs, evS, evT, evE, evEs, R.of, R.bind, R.st, RS.seq, e, cmpF, q, flawD, hc]
def B_isc (cG isw : Nat) : List S := [.ret (.or [.and [.cmp .eq (.bi .len (.var 0)) (.int 1), .cmp .in_ (.var 0) (.glob cG)], .and [.cmp .ne (.var 0) (.str []), .call isw [.var 0]]])]
def IsCallOk (call : CallS) (f : Nat) : Prop := ∀ (t : T) (s : Stt), Tx t → call f [.str t] s = .ok (.bl (isCallT t)) s
theorem isCallOk {cG isw : Nat} {nG : Str} (hf : Is P f 1 1 (B_isc cG isw)) (h : IsWordOk (callD P k) isw) (hG : P.consts[cG]? = some (nG, .str great)) : IsCallOk (callD P (k + 1)) f := fun t s tx => by
  refine hf.rt rfl ?_ rfl
  have e := h t s tx
  have z := eqF_nil tx
  show evSs P (callD P k) (B_isc cG isw) [some (.str t)] s = _
  by_cases l1 : t.length = 1
  · have ing : inD (.str t) (.str great) = some (oneGreat t) := congrArg some (one_great l1)
    have e0 : t ≠ [] := fun q => by rw [q] at l1; cases l1
    cases q : oneGreat t <;> simp [B_isc, evSs, evS, evE, evOr, evAnd, evEs, R.of, R.bind, R.st, RS.seq, len_str tx, cmpF, eqF_int, l1, hG, ing, q, z, e0, e, isCallT]
  · have l2 : ¬ (t.length : Int) = 1 := by omega
    have q : oneGreat t = false := by
      rw [Bool.eq_false_iff]
      exact fun q => l1 (one_great_len q)
    by_cases e0 : t = []
    · subst e0
      have b1 : biF .len s (.str []) = some (.int 0) := len_str tx_nil
      have z : eqF (.str []) (.str []) = some true := by rw [eqF_nil tx_nil]; rfl
      have i1 : isCallT [] = false := rfl
      simp [B_isc, evSs, evS, evE, evOr, evAnd, evEs, R.of, R.bind, R.st, RS.seq, b1, cmpF, eqF_int, z, i1]
    · simp [B_isc, evSs, evS, evE, evOr, evAnd, evEs, R.of, R.bind, R.st, RS.seq, len_str tx, cmpF, eqF_int, l2, q, z, e0, e, isCallT]
def B_lisc (flaw : Nat) : List S := [.ret (.or [.cmp .in_ (.var 0) (.tup [.str [65], .str [66], .str [67], .str [68]]), .and [.cmp .ne (.var 0) (.str []), .cmp .isN (.call flaw [.var 0]) (.non)]])]
theorem lisCallOk {flaw : Nat} (hf : Is P f 1 1 (B_lisc flaw)) (h : FlawOk (callD P k) flaw) : IsCallOk (callD P (k + 1)) f := fun t s tx => by
  refine hf.rt rfl ?_ rfl
  have e := h t s tx
  have z := eqF_nil tx
  have ing : inD (.str t) (.tup [.str [65], .str [66], .str [67], .str [68]]) = some (oneGreat t) := rfl
  show evSs P (callD P k) (B_lisc flaw) [some (.str t)] s = _
  cases q : oneGreat t
  · by_cases e0 : t = []
    · subst e0
      have z : eqF (.str []) (.str []) = some true := by rw [eqF_nil tx_nil]; rfl
      have i1 : isCallT [] = false := rfl
      rw [q] at ing
      simp [B_lisc, evSs, evS, evE, evOr, evAnd, evEs, R.of, R.bind, R.st, RS.seq, cmpF, ing, z, i1, le4]
    · cases q2 : flawT t <;> simp [B_lisc, evSs, evS, evE, evOr, evAnd, evEs, R.of, R.bind, R.st, RS.seq, cmpF, ing, q, z, e0, e, isCallT, le4, q2, flawD]
  · simp [B_lisc, evSs, evS, evE, evOr, evAnd, evEs, R.of, R.bind, R.st, RS.seq, cmpF, ing, q, isCallT, le4]
def B_lookc (isc cC : Nat) : List S := [.ite (.not (.call isc [.var 0])) [.raise cC []] []]
def LookCallOk (cC : Nat) (call : CallS) (f : Nat) : Prop := ∀ (t : T) (s : Stt), Tx t → call f [.str t] s = if isCallT t = true then .ok .non s else .exc cC [.str badCallT] s
theorem lookCallOk {isc cC : Nat} (hf : Is P f 1 1 (B_lookc isc cC)) (h : IsCallOk (callD P k) isc) (hc : P.xcls[cC]? = some ⟨badCallT, []⟩) : LookCallOk cC (callD P (k + 1)) f := fun t s tx => by
  have e := h t s tx
  cases q : isCallT t
  · refine hf.exc (ρ := [some (.str t)]) rfl ?_ rfl
    show evSs P (callD P k) (B_lookc isc cC) [some (.str t)] s = _
    simp [B_lookc, evSs, evS, evT, evE, evEs, R.of, R.bind, R.st, RS.seq, e, truF, q, hc]
  · refine hf.nx (ρ := [some (.str t)]) rfl ?_ rfl
    show evSs P (callD P k) (B_lookc isc cC) [some (.str t)] s = _
    simp [B_lookc, evSs, evS, evT, evE, evEs, R.of, R.bind, R.st, RS.seq, e, truF, q]
def B_joined (look sh : Nat) : List S := [.expr (.call look [.var 0]), .expr (.call look [.var 1]), .ret (.call sh [.bin .add (.var 0) (.var 1)])]
def JoinedOk (cW : Nat) (call : CallS) (f : Nat) : Prop := ∀ (a b : T) (s : Stt), Tx a → Tx b → call f [.str a, .str b] s = wordX cW (flawT a) s (wordX cW (flawT b) s (.ok (.str (short (a ++ b))) s))
theorem joinedOk {look sh cW : Nat} (hf : Is P f 2 2 (B_joined look sh)) (h : LookWordOk cW (callD P k) look) (hs : ShortOk (callD P k) sh) : JoinedOk cW (callD P (k + 1)) f := fun a b s ta tb => by
  have e1 := h a s ta
  have e2 := h b s tb
  cases q1 : flawT a with
  | some i =>
    rw [q1] at e1
    refine hf.exc (ρ := [some (.str a), some (.str b)]) rfl ?_ rfl
    show evSs P (callD P k) (B_joined look sh) [some (.str a), some (.str b)] s = _
    simp [B_joined, evSs, evS, evE, evEs, R.of, R.bind, R.st, RS.seq, e1, wordX]
  | none =>
    cases q2 : flawT b with
    | some i =>
      rw [q1] at e1
      rw [q2] at e2
      refine hf.exc (ρ := [some (.str a), some (.str b)]) rfl ?_ rfl
      show evSs P (callD P k) (B_joined look sh) [some (.str a), some (.str b)] s = _
      simp [B_joined, evSs, evS, evE, evEs, R.of, R.bind, R.st, RS.seq, e1, e2, wordX]
    | none =>
      rw [q1] at e1
      rw [q2] at e2
      have la := (flaw_none q1).2
      have lb := (flaw_none q2).2
      have ad := add_str (a := a) (b := b) (by omega)
      have e3 := hs (a ++ b) s (ta.app tb (by omega)) (by simp; omega)
      refine hf.rt rfl ?_ rfl
      show evSs P (callD P k) (B_joined look sh) [some (.str a), some (.str b)] s = _
      simp [B_joined, evSs, evS, evE, evEs, R.of, R.bind, R.st, RS.seq, e1, e2, wordX, ad, e3]
def B_undone (look : Nat) : List S := [.expr (.call look [.var 0]), .ret (.rev (.var 0))]
def UndoneOk (cW : Nat) (call : CallS) (f : Nat) : Prop := ∀ (a : T) (s : Stt), Tx a → call f [.str a] s = wordX cW (flawT a) s (.ok (.str a.reverse) s)
theorem undoneOk {look cW : Nat} (hf : Is P f 1 1 (B_undone look)) (h : LookWordOk cW (callD P k) look) : UndoneOk cW (callD P (k + 1)) f := fun a s ta => by
  have e1 := h a s ta
  have r := rev_str ta
  cases q1 : flawT a with
  | some i =>
    rw [q1] at e1
    refine hf.exc (ρ := [some (.str a)]) rfl ?_ rfl
    show evSs P (callD P k) (B_undone look) [some (.str a)] s = _
    simp [B_undone, evSs, evS, evE, evEs, R.of, R.bind, R.st, RS.seq, e1, wordX]
  | none =>
    rw [q1] at e1
    refine hf.rt rfl ?_ rfl
    show evSs P (callD P k) (B_undone look) [some (.str a)] s = _
    simp [B_undone, evSs, evS, evE, evEs, R.of, R.bind, R.st, RS.seq, e1, wordX, r]
/-! strange signs -/
def strangeAt (t : T) (i : Nat) : Bool := match t[i]? with
  | some c => !decide (c ∈ abcd)
  | none => false
def strangeT (t : T) : Option Nat := (List.range' 0 t.length).find? (strangeAt t)
def redB (cL cW : Nat) : List S := [.ite (.cmp .nin (.var 2) (.glob cL)) [.raise cW [.var 1]] []]
def B_reduced (cL cW sh : Nat) : List S := [.for [1, 2] .enum [.var 0] (redB cL cW), .ret (.call sh [.var 0])]
def ReducedOk (cW : Nat) (call : CallS) (f : Nat) : Prop := ∀ (t : T) (s : Stt), Tx t → t.length ≤ 400 → call f [.str t] s = wordX cW (strangeT t) s (.ok (.str (short t)) s)
theorem reducedOk {cL cW sh : Nat} {nL : Str} (hf : Is P f 1 3 (B_reduced cL cW sh)) (hs : ShortOk (callD P k) sh) (hL : P.consts[cL]? = some (nL, .str abcd)) (hc : P.xcls[cW]? = some ⟨badWordT, ["at"]⟩) : ReducedOk cW (callD P (k + 1)) f := fun t s tx hl => by
  have key := loopF_find (body := forB P (callD P k) [1, 2] (redB cL cW)) (s := s) (fun ρ => ∃ x y, ρ = [some (.str t), x, y]) (strangeAt t) (fun i r => ∃ ρ, r = .exc cW [.str badWordT, .int (i : Nat)] ρ s) (fun i r ⟨ρ, h⟩ => by rw [h]; trivial)
    (t.mapIdx fun i c => .tup [.int i, .str [c]]) 0 [some (.str t), none, none] ⟨none, none, rfl⟩ fun i d ρ hi ⟨x, y, e3⟩ => by
      subst e3
      rw [List.getElem?_mapIdx] at hi
      obtain ⟨c, hc', rfl⟩ := Option.map_eq_some_iff.mp hi
      rw [Nat.zero_add]
      have e0 : forB P (callD P k) [1, 2] (redB cL cW) (.tup [.int i, .str [c]]) [some (.str t), x, y] s = evSs P (callD P k) (redB cL cW) [some (.str t), some (.int i), some (.str [c])] s := rfl
      have q3 : strangeAt t i = !decide (c ∈ abcd) := by simp [strangeAt, hc']
      rw [e0, q3]
      by_cases m : c ∈ abcd
      · right
        exact ⟨by simp [m], [some (.str t), some (.int i), some (.str [c])], by simp [redB, evSs, evS, evT, evE, R.of, R.bind, R.st, RS.seq, hL, cmpF, in_one, m], _, _, rfl⟩
      · left
        exact ⟨by simp [m], [some (.str t), some (.int i), some (.str [c])], by simp [redB, evSs, evS, evT, evE, evEs, R.of, R.bind, R.st, RS.seq, hL, cmpF, in_one, m, hc]⟩
  rw [List.length_mapIdx] at key
  have e5 : evS P (callD P k) (.for [1, 2] .enum [.var 0] (redB cL cW)) [some (.str t), none, none] s = loopF (forB P (callD P k) [1, 2] (redB cL cW)) (t.mapIdx fun i c => .tup [.int i, .str [c]]) [some (.str t), none, none] s := by
    rw [evS_for]
    have : evEs P (callD P k) [.var 0] [some (.str t), none, none] s = .ok [.str t] s := by simp [evEs, evE, R.of, R.bind]
    rw [this, rbind_ok]
    simp only [srcF, of_some, st_ok]
  have e6 := hs t s tx hl
  rcases key with ⟨i, h1, ρ, h2⟩ | ⟨h1, ρ', h2, x, y, e3⟩
  · have q : strangeT t = some i := h1
    rw [q]
    refine hf.exc (ρ := ρ) rfl ?_ rfl
    show evSs P (callD P k) (B_reduced cL cW sh) [some (.str t), none, none] s = _
    rw [B_reduced, evSs_cons, e5, h2]
    rfl
  · have q : strangeT t = none := h1
    rw [q]
    refine hf.rt rfl ?_ rfl
    show evSs P (callD P k) (B_reduced cL cW sh) [some (.str t), none, none] s = _
    rw [B_reduced, evSs_cons, e5, h2, seq_nx, e3]
    simp [evSs, evS, evE, evEs, R.of, R.bind, R.st, RS.seq, e6]
theorem strange_none {t : T} (h : strangeT t = none) : Abc t := fun c hc => by
  obtain ⟨i, hi⟩ := List.getElem?_of_mem hc
  have h1 := (List.getElem?_eq_some_iff.mp hi).1
  have h2 := List.find?_eq_none.mp h i (by simpa [List.mem_range'_1] using h1)
  simpa [strangeAt, hi] using h2
theorem abc_strange {t : T} (h : Abc t) : strangeT t = none := List.find?_eq_none.mpr fun i hi => by
  have h1 : i < t.length := by simpa [List.mem_range'_1] using hi
  have h2 := List.getElem?_eq_getElem h1
  have h3 : t[i] ∈ abcd := h _ (List.getElem_mem h1)
  simp [strangeAt, h2, h3]
end
end G

set_option Elab.async false
set_option linter.all false
set_option maxRecDepth 100000
namespace G
open PySem L2
section
variable {P : Prog} {k f : Nat}
def B_split (cL cG : Nat) : List S := [.ite (.cmp .in_ (.var 0) (.glob cG)) [.ret (.tup [.str [], .ix (.glob cL) (.met .index (.glob cG) [.var 0])])] [], .ret (.tup [.var 0, .ix (.var 0) (.neg (.int 1))])]
def SplitOk (call : CallS) (f : Nat) : Prop := ∀ (p : T) (l : Nat) (s : Stt), CallOk p l → p.length ≤ 900 → call f [.str (ct p l)] s = .ok (.tup [.str p, .str [l]]) s
theorem ct_tx' {p : T} {l : Nat} (h : CallOk p l) (hl : p.length ≤ 900) : Tx (ct p l) := by
  unfold ct
  split
  · rcases abcd_cases h.m with e | e | e | e <;> subst e <;> exact tx_one (by decide)
  · exact h.w.1.tx (by omega)
theorem splitOk {cL cG : Nat} {nL nG : Str} (hf : Is P f 1 1 (B_split cL cG)) (hL : P.consts[cL]? = some (nL, .str abcd)) (hG : P.consts[cG]? = some (nG, .str great)) : SplitOk (callD P (k + 1)) f := fun p l s h hl => by
  refine hf.rt rfl ?_ rfl
  have tx := ct_tx' h hl
  have ing : inD (.str (ct p l)) (.str great) = some (decide (p = [])) := congrArg some (in_great h)
  show evSs P (callD P k) (B_split cL cG) [some (.str (ct p l))] s = _
  by_cases e : p = []
  · subst e
    obtain ⟨i, i1, i2⟩ := index_great h.m (s := s)
    have i3 := ix_text (s := s) tx_abcd i2
    have e1 : ct [] l = [l - 32] := rfl
    rw [e1] at tx ing ⊢
    have ok : meOk .index s (.str great) = true := rfl
    simp [B_split, evSs, evS, evT, evE, evEs, R.of, R.bind, R.st, RS.seq, cmpF, hL, hG, ing, ok, i1, i3, le2]
  · have e1 : ct p l = p := by simp [ct, e]
    rw [e1] at tx ing ⊢
    have i3 := ix_text (s := s) tx (atI_last (h.e.resolve_left e))
    simp [B_split, evSs, evS, evT, evE, evEs, R.of, R.bind, R.st, RS.seq, cmpF, hL, hG, ing, e, i3, le2]
def B_name (cL cG : Nat) : List S := [.set 2 (.met .rfind (.var 0) [.var 1]), .ret (.ite (.cmp .ge (.var 2) (.int 0)) (.sl (.var 0) none (some (.bin .add (.var 2) (.int 1)))) (.ix (.glob cG) (.met .index (.glob cL) [.var 1])))]
def NameOk (call : CallS) (f : Nat) : Prop := ∀ (w : T) (l : Nat) (s : Stt), Tx w → l ∈ abcd → call f [.str w, .str [l]] s = .ok (.str (ct (pre l w) l)) s
theorem nameOk {cL cG : Nat} {nL nG : Str} (hf : Is P f 2 3 (B_name cL cG)) (hL : P.consts[cL]? = some (nL, .str abcd)) (hG : P.consts[cG]? = some (nG, .str great)) : NameOk (callD P (k + 1)) f := fun w l s tx hl => by
  refine hf.rt rfl ?_ rfl
  have ok1 : meOk .rfind s (.str w) = true := rfl
  have ok2 : meOk .index s (.str abcd) = true := rfl
  have r1 : meF .rfind s (.str w) [.str [l]] = .ok (.int (Txt.rfind (tS w) (tS [l]))) s := rfl
  show evSs P (callD P k) (B_name cL cG) [some (.str w), some (.str [l]), none] s = _
  rcases rfind_one w l with ⟨e1, e2⟩ | ⟨i, e1, hi, e2, e3⟩
  · obtain ⟨j, j1, j2⟩ := index_abcd hl (s := s)
    have i3 := ix_text (s := s) tx_great j2
    rw [e1] at r1
    simp [B_name, evSs, evS, evT, evE, evEs, R.of, R.bind, R.st, RS.seq, cmpF, hL, hG, ok1, ok2, r1, j1, i3, e2, ct]
  · rw [e1] at r1
    have sl := sl_to (n := i + 1) tx (by omega)
    have e4 : ((i + 1 : Nat) : Int) = (i : Int) + 1 := by omega
    rw [e4] at sl
    have p0 : (0 : Int) ≤ i := by omega
    have e5 : ct (pre l w) l = w.take (i + 1) := by
      unfold ct
      rw [if_neg e3, e2]
    rw [e5]
    simp [B_name, evSs, evS, evT, evE, evO, evEs, R.of, R.bind, R.st, RS.seq, cmpF, ok1, r1, p0, bin_add, sl]
def B_turned (split name sh : Nat) : List S := [.unp [2, 3] (.call split [.var 0]), .ret (.call name [.call sh [.bin .add (.rev (.var 1)) (.var 2)], .var 3])]
def newCall (p u : T) (l : Nat) : T := ct (pre l (short (u.reverse ++ p))) l
def NameTurnedOk (call : CallS) (f : Nat) : Prop := ∀ (p u : T) (l : Nat) (s : Stt), CallOk p l → Abc u → p.length + u.length ≤ 400 → call f [.str (ct p l), .str u] s = .ok (.str (newCall p u l)) s
theorem nameTurnedOk {split name sh : Nat} (hf : Is P f 2 4 (B_turned split name sh)) (h1 : SplitOk (callD P k) split) (h2 : NameOk (callD P k) name) (h3 : ShortOk (callD P k) sh) : NameTurnedOk (callD P (k + 1)) f := fun p u l s h hu hl => by
  refine hf.rt rfl ?_ rfl
  have e1 := h1 p l s h (by omega)
  have r := rev_str (hu.tx (by omega))
  have ad := add_str (a := u.reverse) (b := p) (by simp; omega)
  have ab : Abc (u.reverse ++ p) := hu.rev.app h.w.1
  have sh := h3 (u.reverse ++ p) s (ab.tx (by simp; omega)) (by simp; omega)
  have ln := len_short (t := u.reverse ++ p)
  have na := h2 (short (u.reverse ++ p)) l s ((Word.short ab).1.tx (by simp at ln; omega)) h.m
  show evSs P (callD P k) (B_turned split name _) [some (.str (ct p l)), some (.str u), none, none] s = _
  simp [B_turned, evSs, evS, evE, evEs, R.of, R.bind, R.st, RS.seq, e1, r, ad, sh, na, newCall]
def B_turnedL (lookc lookw nt : Nat) : List S := [.expr (.call lookc [.var 0]), .expr (.call lookw [.var 1]), .ret (.call nt [.var 0, .var 1])]
/-- turned: the call's own refusal first -/
def TurnedOk (cC cW : Nat) (call : CallS) (f : Nat) : Prop :=
    (∀ (c u : T) (s : Stt), Tx c → isCallT c = false → call f [.str c, .str u] s = .exc cC [.str badCallT] s) ∧
    (∀ (c u : T) (s : Stt) (i : Nat), Tx c → Tx u → isCallT c = true → flawT u = some i → call f [.str c, .str u] s = .exc cW [.str badWordT, .int i] s) ∧
    (∀ (p u : T) (l : Nat) (s : Stt), CallOk p l → p.length ≤ 40 → flawT u = none → call f [.str (ct p l), .str u] s = .ok (.str (newCall p u l)) s)
theorem turnedOk {lookc lookw nt cC cW : Nat} (hf : Is P f 2 2 (B_turnedL lookc lookw nt)) (h1 : LookCallOk cC (callD P k) lookc) (h2 : LookWordOk cW (callD P k) lookw) (h3 : NameTurnedOk (callD P k) nt) : TurnedOk cC cW (callD P (k + 1)) f := by
  refine ⟨fun c u s tc hc => ?_, fun c u s i tc tu hc hu => ?_, fun p u l s h hp hu => ?_⟩
  · have e1 := h1 c s tc
    rw [hc, if_neg (by decide)] at e1
    refine hf.exc (ρ := [some (.str c), some (.str u)]) rfl ?_ rfl
    show evSs P (callD P k) (B_turnedL lookc lookw nt) [some (.str c), some (.str u)] s = _
    simp [B_turnedL, evSs, evS, evE, evEs, R.of, R.bind, R.st, RS.seq, e1]
  · have e1 := h1 c s tc
    rw [hc, if_pos rfl] at e1
    have e2 := h2 u s tu
    rw [hu] at e2
    refine hf.exc (ρ := [some (.str c), some (.str u)]) rfl ?_ rfl
    show evSs P (callD P k) (B_turnedL lookc lookw nt) [some (.str c), some (.str u)] s = _
    simp [B_turnedL, evSs, evS, evE, evEs, R.of, R.bind, R.st, RS.seq, e1, e2, wordX]
  · obtain ⟨wu, lu⟩ := flaw_none hu
    have e1 := h1 (ct p l) s (ct_tx h hp)
    rw [ct_isCall h hp, if_pos rfl] at e1
    have e2 := h2 u s (wu.1.tx (by omega))
    rw [hu] at e2
    have e3 := h3 p u l s h wu.1 (by omega)
    refine hf.rt rfl ?_ rfl
    show evSs P (callD P k) (B_turnedL lookc lookw nt) [some (.str (ct p l)), some (.str u)] s = _
    simp [B_turnedL, evSs, evS, evE, evEs, R.of, R.bind, R.st, RS.seq, e1, e2, wordX, e3]
def B_callat (look cL cC name : Nat) : List S := [.expr (.call look [.var 0]), .ite (.or [.cmp .ne (.bi .len (.var 1)) (.int 1), .cmp .nin (.var 1) (.glob cL)]) [.raise cC []] [], .ret (.call name [.var 0, .var 1])]
/-- one letter -/
def isLetter (u : T) : Bool := decide (u ∈ [[97], [98], [99], [100]])
theorem letter_one {u : T} (h : u.length = 1) : inT u abcd = isLetter u := by
  match u, h with
  | [c], _ => simp [inT, abcd, isLetter]
theorem letter_len {t : T} (h : isLetter t = true) : ∃ l, t = [l] ∧ l ∈ abcd := by
  simp [isLetter] at h
  rcases h with e | e | e | e <;> subst e <;> exact ⟨_, rfl, by decide⟩
def CallAtOk (cC cW : Nat) (call : CallS) (f : Nat) : Prop :=
    (∀ (w u : T) (s : Stt) (i : Nat), Tx w → flawT w = some i → call f [.str w, .str u] s = .exc cW [.str badWordT, .int i] s) ∧
    (∀ (w u : T) (s : Stt), Tx u → flawT w = none → isLetter u = false → call f [.str w, .str u] s = .exc cC [.str badCallT] s) ∧
    (∀ (w : T) (l : Nat) (s : Stt), flawT w = none → l ∈ abcd → call f [.str w, .str [l]] s = .ok (.str (ct (pre l w) l)) s)
theorem callAtOk {look cL cC cW name : Nat} {nL : Str} (hf : Is P f 2 2 (B_callat look cL cC name)) (h1 : LookWordOk cW (callD P k) look) (hL : P.consts[cL]? = some (nL, .str abcd)) (hc : P.xcls[cC]? = some ⟨badCallT, []⟩) (h2 : NameOk (callD P k) name) : CallAtOk cC cW (callD P (k + 1)) f := by
  refine ⟨fun w u s i tw hw => ?_, fun w u s tu hw hu => ?_, fun w l s hw hl => ?_⟩
  · have e1 := h1 w s tw
    rw [hw] at e1
    refine hf.exc (ρ := [some (.str w), some (.str u)]) rfl ?_ rfl
    show evSs P (callD P k) (B_callat look cL cC name) [some (.str w), some (.str u)] s = _
    simp [B_callat, evSs, evS, evE, evEs, R.of, R.bind, R.st, RS.seq, e1, wordX]
  · obtain ⟨ww, lw⟩ := flaw_none hw
    have e1 := h1 w s (ww.1.tx (by omega))
    rw [hw] at e1
    refine hf.exc (ρ := [some (.str w), some (.str u)]) rfl ?_ rfl
    show evSs P (callD P k) (B_callat look cL cC name) [some (.str w), some (.str u)] s = _
    by_cases l1 : u.length = 1
    · have ing : inD (.str u) (.str abcd) = some false := by rw [← hu]; exact congrArg some (letter_one l1)
      simp [B_callat, evSs, evS, evT, evTOr, evE, evEs, R.of, R.bind, R.st, RS.seq, e1, wordX, len_str tu, l1, cmpF, eqF_int, hL, ing, hc]
    · have l2 : ¬ (u.length : Int) = 1 := by omega
      simp [B_callat, evSs, evS, evT, evTOr, evE, evEs, R.of, R.bind, R.st, RS.seq, e1, wordX, len_str tu, l2, cmpF, eqF_int, hc]
  · obtain ⟨ww, lw⟩ := flaw_none hw
    have e1 := h1 w s (ww.1.tx (by omega))
    rw [hw] at e1
    have e2 := h2 w l s (ww.1.tx (by omega)) hl
    have b1 : biF .len s (.str [l]) = some (.int 1) := len_str (tx_one (tx_abcd.2 l hl))
    refine hf.rt rfl ?_ rfl
    show evSs P (callD P k) (B_callat look cL cC name) [some (.str w), some (.str [l])] s = _
    simp [B_callat, evSs, evS, evT, evTOr, evE, evEs, R.of, R.bind, R.st, RS.seq, e1, wordX, b1, cmpF, eqF_int, hL, in_one, hl, e2]
/-! the law's own -/
def lcallB : List S := [.ite (.cmp .eq (.ix (.var 0) (.bin .sub (.var 2) (.int 1))) (.var 1)) [.ret (.sl (.var 0) none (some (.var 2)))] []]
def B_lcall : List S := [.for [2] .range3 [.bi .len (.var 0), .int 0, .neg (.int 1)] lcallB, .ret (.met .upper (.var 1) [])]
theorem upper_one {l : Nat} (h : l ∈ abcd) {s : Stt} : meF .upper s (.str [l]) [] = .ok (.str [l - 32]) s := by
  rcases abcd_cases h with e | e | e | e <;> subst e <;> simp only [meF] <;> rw [if_pos (by decide)]
  · rw [show (Txt.upper (tS [97])).cps.toList = [97 - 32] by decide +kernel]
  · rw [show (Txt.upper (tS [98])).cps.toList = [98 - 32] by decide +kernel]
  · rw [show (Txt.upper (tS [99])).cps.toList = [99 - 32] by decide +kernel]
  · rw [show (Txt.upper (tS [100])).cps.toList = [100 - 32] by decide +kernel]
theorem lower_one {l : Nat} (h : l ∈ abcd) {s : Stt} : meF .lower s (.str [l]) [] = .ok (.str [l]) s ∧ meF .lower s (.str [l - 32]) [] = .ok (.str [l]) s := by
  rcases abcd_cases h with e | e | e | e <;> subst e <;> simp only [meF] <;> rw [if_pos (by decide), if_pos (by decide)]
  · rw [show (Txt.lower (tS [97])).cps.toList = [97] by decide +kernel, show (Txt.lower (tS [97 - 32])).cps.toList = [97] by decide +kernel]; exact ⟨rfl, rfl⟩
  · rw [show (Txt.lower (tS [98])).cps.toList = [98] by decide +kernel, show (Txt.lower (tS [98 - 32])).cps.toList = [98] by decide +kernel]; exact ⟨rfl, rfl⟩
  · rw [show (Txt.lower (tS [99])).cps.toList = [99] by decide +kernel, show (Txt.lower (tS [99 - 32])).cps.toList = [99] by decide +kernel]; exact ⟨rfl, rfl⟩
  · rw [show (Txt.lower (tS [100])).cps.toList = [100] by decide +kernel, show (Txt.lower (tS [100 - 32])).cps.toList = [100] by decide +kernel]; exact ⟨rfl, rfl⟩
theorem pre_take {l : Nat} {w : T} {m : Nat} (h : m + 1 ≤ w.length) : pre l (w.take (m + 1)) = if w[m]? = some l then w.take (m + 1) else pre l (w.take m) := by
  have h1 : m < w.length := by omega
  rw [List.take_succ_eq_append_getElem h1, pre_snoc]
  simp [List.getElem?_eq_getElem h1]
theorem lcall_loop {call : CallS} {w : T} {l : Nat} {s : Stt} (tx : Tx w) (hl : l ∈ abcd) : ∀ (m : Nat) (x : Option D), m ≤ w.length → (pre l (w.take m) = [] ∧ ∃ x', loopF (forB P call [2] lcallB) ((List.range m).map fun n => .int ((m : Int) - (n : Nat))) [some (.str w), some (.str [l]), x] s = .nx [some (.str w), some (.str [l]), x'] s) ∨ (pre l (w.take m) ≠ [] ∧ loopF (forB P call [2] lcallB) ((List.range m).map fun n => .int ((m : Int) - (n : Nat))) [some (.str w), some (.str [l]), x] s = .rt (.str (pre l (w.take m))) s)
  | 0, x, _ => .inl ⟨by simp [pre_nil], x, rfl⟩
  | m + 1, x, h => by
    have hm : m < w.length := by omega
    have hc : w[m]? = some w[m] := List.getElem?_eq_getElem hm
    have e0 : ((List.range (m + 1)).map fun n => D.int (((m + 1 : Nat) : Int) - (n : Nat))) = .int ((m + 1 : Nat) : Int) :: ((List.range m).map fun n => D.int ((m : Int) - (n : Nat))) := by
      rw [List.range_succ_eq_map, List.map_cons, List.map_map]
      congr 1
      apply List.map_congr_left
      intro n _
      show D.int _ = D.int _
      congr 1
      show ((m + 1 : Nat) : Int) - ((n + 1 : Nat) : Int) = _
      omega
    have x1 := ix_at (s := s) tx hc
    have cc : w[m] < 1114112 := tx.2 _ (List.getElem_mem hm)
    have p2 : ((m + 1 : Nat) : Int) - 1 = (m : Nat) := by omega
    have st : forB P call [2] lcallB (.int ((m + 1 : Nat) : Int)) [some (.str w), some (.str [l]), x] s = if w[m] = l then .rt (.str (w.take (m + 1))) s else .nx [some (.str w), some (.str [l]), some (.int ((m + 1 : Nat) : Int))] s := by
      have e1 : forB P call [2] lcallB (.int ((m + 1 : Nat) : Int)) [some (.str w), some (.str [l]), x] s = evSs P call lcallB [some (.str w), some (.str [l]), some (.int ((m + 1 : Nat) : Int))] s := rfl
      rw [e1]
      have sl := sl_to (n := m + 1) tx h
      by_cases q : w[m] = l
      · rw [if_pos q]
        rw [q] at x1
        simp only [lcallB, evSs, evS, evT, evE, evO, R.of, R.bind, R.st, RS.seq, List.getElem?_cons_zero, List.getElem?_cons_succ, Option.join_some, bin_sub, p2, x1, cmpF, eqF_str (tx_one (tx_abcd.2 l hl)) (tx_one (tx_abcd.2 l hl)), decide_true, Option.map_some, if_true, sl]
      · rw [if_neg q]
        have q' : ([w[m]] : T) ≠ [l] := fun z => q (by simpa using z)
        simp only [lcallB, evSs, evS, evT, evE, evO, R.of, R.bind, R.st, RS.seq, List.getElem?_cons_zero, List.getElem?_cons_succ, Option.join_some, bin_sub, p2, x1, cmpF, eqF_str (tx_one cc) (tx_one (tx_abcd.2 l hl)), q', decide_false, Option.map_some, if_false, Bool.false_eq_true]
    rw [e0]
    unfold loopF
    rw [st, pre_take h]
    by_cases q : w[m] = l
    · right
      rw [if_pos q, hc, q, if_pos rfl]
      refine ⟨fun z => ?_, rfl⟩
      have := congrArg List.length z
      rw [List.length_take, List.length_nil] at this
      omega
    · have q' : ¬ (w[m]? = some l) := by rw [hc]; simpa using q
      rw [if_neg q, if_neg q']
      exact lcall_loop tx hl m _ (by omega)
theorem lcallOk (hf : Is P f 2 3 B_lcall) : NameOk (callD P (k + 1)) f := fun w l s tx hl => by
  refine hf.rt rfl ?_ rfl
  show evSs P (callD P k) B_lcall [some (.str w), some (.str [l]), none] s = _
  have e5 : evS P (callD P k) (.for [2] .range3 [.bi .len (.var 0), .int 0, .neg (.int 1)] lcallB) [some (.str w), some (.str [l]), none] s = loopF (forB P (callD P k) [2] lcallB) ((List.range w.length).map fun n => .int ((w.length : Int) - (n : Nat))) [some (.str w), some (.str [l]), none] s := by
    rw [evS_for]
    have : evEs P (callD P k) [.bi .len (.var 0), .int 0, .neg (.int 1)] [some (.str w), some (.str [l]), none] s = .ok [.int w.length, .int 0, .int (-1)] s := by simp [evEs, evE, R.of, R.bind, len_str tx]
    have t1 := tx.1
    have c1 : (-1 : Int) = -1 ∧ -(2 ^ 62) ≤ (w.length : Int) ∧ (w.length : Int) < 2 ^ 62 ∧ -(2 ^ 62) ≤ (0 : Int) ∧ (0 : Int) < 2 ^ 62 := ⟨rfl, by omega, by omega, by decide, by decide⟩
    have sr : srcF .range3 s [.int w.length, .int 0, .int (-1)] = some ((List.range w.length).map fun n => .int ((w.length : Int) - (n : Nat))) := by
      simp only [srcF, Int.sub_zero, Int.toNat_natCast]
      exact if_pos ⟨trivial, c1.2⟩
    rw [this, rbind_ok, sr, of_some, st_ok]
  have key := lcall_loop (P := P) (call := callD P k) (s := s) tx hl w.length none (Nat.le_refl _)
  rw [List.take_length] at key
  rw [B_lcall, evSs_cons, e5]
  rcases key with ⟨h1, x', h2⟩ | ⟨h1, h2⟩
  · rw [h2, seq_nx, h1]
    have ok : meOk .upper s (.str [l]) = true := rfl
    simp [evSs, evS, evE, evEs, R.of, R.bind, R.st, RS.seq, ok, upper_one hl, ct]
  · rw [h2, seq_rt]
    simp [ct, h1]
def B_lnew (lcall lsh : Nat) : List S := [.set 2 (.ite (.cmp .in_ (.var 0) (.tup [.str [65], .str [66], .str [67], .str [68]])) (.str []) (.var 0)), .ret (.call lcall [.call lsh [.bin .add (.rev (.var 1)) (.var 2)], .met .lower (.ix (.var 0) (.neg (.int 1))) []])]
theorem lnewOk {lcall lsh : Nat} (hf : Is P f 2 3 (B_lnew lcall lsh)) (h2 : NameOk (callD P k) lcall) (h3 : ShortOk (callD P k) lsh) : NameTurnedOk (callD P (k + 1)) f := fun p u l s h hu hl => by
  refine hf.rt rfl ?_ rfl
  have tx := ct_tx' h (by omega)
  have r := rev_str (hu.tx (by omega))
  have ad := add_str (a := u.reverse) (b := p) (by simp; omega)
  have ab : Abc (u.reverse ++ p) := hu.rev.app h.w.1
  have sh := h3 (u.reverse ++ p) s (ab.tx (by simp; omega)) (by simp; omega)
  have ln := len_short (t := u.reverse ++ p)
  have na := h2 (short (u.reverse ++ p)) l s ((Word.short ab).1.tx (by simp at ln; omega)) h.m
  have ing : inD (.str (ct p l)) (.tup [.str [65], .str [66], .str [67], .str [68]]) = some (decide (p = [])) := by
    rw [← ct_oneGreat h]; rfl
  have ok : ∀ c : T, meOk .lower s (.str c) = true := fun _ => rfl
  obtain ⟨lo1, lo2⟩ := lower_one h.m (s := s)
  show evSs P (callD P k) (B_lnew lcall lsh) [some (.str (ct p l)), some (.str u), none] s = _
  by_cases e : p = []
  · subst e
    have e1 : ct [] l = [l - 32] := rfl
    rw [List.append_nil] at ad sh na
    have i3 : ixF s (.str (ct [] l)) (.int (-1)) = some (.str [l - 32]) := ix_text tx (atI_last (by rw [e1]; rfl))
    simp [B_lnew, evSs, evS, evT, evE, evEs, R.of, R.bind, R.st, RS.seq, cmpF, ing, le4, r, ad, sh, na, i3, ok, lo2, newCall]
  · have e1 : ct p l = p := by simp [ct, e]
    rw [e1] at tx ing ⊢
    have i3 : ixF s (.str p) (.int (-1)) = some (.str [l]) := ix_text tx (atI_last (h.e.resolve_left e))
    simp [B_lnew, evSs, evS, evT, evE, evEs, R.of, R.bind, R.st, RS.seq, cmpF, ing, e, le4, r, ad, sh, na, i3, ok, lo1, newCall]
end
end G

set_option Elab.async false
set_option linter.all false
set_option maxRecDepth 100000
namespace G
open PySem L2
theorem le5' : 5 ≤ sizeLine := by decide
theorem of_is {P : Prog} {k f pull : Nat} (hf : Is P f 2 2 (B_of pull)) (hp : PullOk (callD P k) pull) : OfOk (callD P (k + 1)) f := by
  obtain ⟨df, h1, h2, h3, h4⟩ := hf.of
  exact ofOk h1 h2 h3 h4 hp
section
variable {P : Prog} {k f : Nat}
def sgE : E := .comp false (.var 4) [4] [4] .seq [.str [97, 98, 99, 100]] (some (.cmp .ne (.var 4) (.sl (.var 2) (some (.neg (.int 1))) none)))
theorem signs {call : CallS} {t : T} {a0 a1 a3 a4 : Option D} {s : Stt} (h : Tx t) : evE P call sgE [a0, a1, some (.str t), a3, a4] s = .ok (.lst ((abcd.filter fun c => !decide ([c] = t.drop (t.length - 1))).map fun c => .str [c])) s := by
  unfold sgE
  rw [evE_comp]
  have e1 : evEs P call [.str [97, 98, 99, 100]] [a0, a1, some (.str t), a3, a4] s = .ok [.str abcd] s := by simp [evEs, evE, R.bind, abcd]
  rw [e1, rbind_ok]
  have e2 : srcF .seq s [.str abcd] = some (abcd.map fun c => .str [c]) := rfl
  rw [e2, of_some, rbind_ok, loopC_filter (fun c => .str [c]) (fun c => !decide ([c] = t.drop (t.length - 1))) abcd [] (by decide) fun c hc acc ha => ?_]
  · rfl
  · have hc1 : c < 1114112 := tx_abcd.2 c hc
    have q := eqF_str (tx_one hc1) (h.drop (t.length - 1))
    have q2 : evC P call (some (.cmp .ne (.var 4) (.sl (.var 2) (some (.neg (.int 1))) none))) [a0, a1, some (.str t), a3, some (.str [c])] s = .ok (!decide ([c] = t.drop (t.length - 1))) s := by
      simp [evC, evT, evE, evO, R.of, R.bind, sl_last h, cmpF, q]
    have q3 : compB P call (.var 4) [4] [4] (some (.cmp .ne (.var 4) (.sl (.var 2) (some (.neg (.int 1))) none))) [a0, a1, some (.str t), a3, a4] (.str [c]) acc s = (evC P call (some (.cmp .ne (.var 4) (.sl (.var 2) (some (.neg (.int 1))) none))) [a0, a1, some (.str t), a3, some (.str [c])] s).bind fun k s => if k = true then (evE P call (.var 4) [a0, a1, some (.str t), a3, some (.str [c])] s).bind fun y s => if acc.length < sizeLine then .ok (acc ++ [y]) s else .stuck else .ok acc s := rfl
    rw [q3, q2, rbind_ok]
    by_cases z : (!decide ([c] = t.drop (t.length - 1))) = true
    · rw [if_pos z, if_pos z]
      simp [evE, R.of, R.bind, ha]
    · rw [if_neg z, if_neg z]
def wordB (of : Nat) : List S := [.set 2 (.bin .add (.var 2) (.call of [.var 0, sgE]))]
def B_word (pull of : Nat) : List S := [.set 2 (.str []), .for [3] .range1 [.call pull [.var 0, .bin .add (.var 1) (.int 1)]] (wordB of), .ret (.var 2)]
def WordOk (call : CallS) (f : Nat) : Prop := ∀ (b : Cell) (rest : Stt) (most : Int), BagOK b → 0 ≤ most → most ≤ 100 → Draw (call f [.ref 0, .int most] (b :: rest)) rest fun d => ∃ t, d = .str t ∧ Word t ∧ (t.length : Int) ≤ most
theorem wordOk {pull of : Nat} (hf : Is P f 2 5 (B_word pull of)) (hp : PullOk (callD P k) pull) (ho : OfOk (callD P k) of) : WordOk (callD P (k + 1)) f := fun b rest most ob h0 h1 => by
  obtain ⟨v, b1, e1, o1, gv, lv⟩ := hp b rest (most + 1) 8 ob (by omega) (by rw [show (2 : Nat) ^ 8 = 256 by decide]; omega) (by decide)
  obtain ⟨ρ', s', e2, b', t, x, y, e3, e4, o2, hw, hl⟩ := loopF_inv (body := forB P (callD P k) [3] (wordB of)) (fun n ρ s => ∃ (b : Cell) (t : T) (x y : Option D), ρ = [some (.ref 0), some (.int most), some (.str t), x, y] ∧ s = b :: rest ∧ BagOK b ∧ Word t ∧ t.length = n)
    ((List.range v.toNat).map fun i => .int (i : Nat)) 0 [some (.ref 0), some (.int most), some (.str []), none, none] (b1 :: rest) ⟨b1, [], none, none, rfl, rfl, o1, Word.nil, rfl⟩
    fun i d ρ s hi ⟨b, t, x, y, e3, e4, o, hw, hl⟩ => by
      subst e3 e4
      have hi' := (List.getElem?_eq_some_iff.mp hi).1
      rw [List.length_map, List.length_range] at hi'
      have tx : Tx t := hw.1.tx (by omega)
      have fl : 0 < ((abcd.filter fun c => !decide ([c] = t.drop (t.length - 1))).map fun c => D.str [c]).length := by
        rw [List.length_map]
        have : ∀ u : T, 0 < (abcd.filter fun c => !decide ([c] = u)).length := fun u => by
          by_cases q : [97] = u
          · subst q; decide
          · simp [abcd, q]
        exact this _
      obtain ⟨d2, b', e5, o', hd⟩ := ho b rest _ o fl (by rw [List.length_map]; exact Nat.le_trans (List.length_filter_le _ _) (by decide))
      obtain ⟨c, hc, rfl⟩ := List.mem_map.mp hd
      rw [List.mem_filter] at hc
      have hc2 : t.getLast? ≠ some c := fun z => by
        have := last_eq.mpr z
        simp [this] at hc
      have ad := add_str (a := t) (b := [c]) (by simp; omega)
      refine ⟨[some (.ref 0), some (.int most), some (.str (t ++ [c])), some d, y], b' :: rest, ?_, b', t ++ [c], _, _, rfl, rfl, o', ⟨hw.1.app (fun z hz => by rw [List.mem_singleton.mp hz]; exact hc.1), red_app_one.mpr ⟨hw.2, hc2⟩⟩, by simp [hl]⟩
      have sg := signs (P := P) (call := callD P k) (a0 := some (.ref 0)) (a1 := some (.int most)) (a3 := some d) (a4 := y) (s := b :: rest) tx
      have e0 : forB P (callD P k) [3] (wordB of) d [some (.ref 0), some (.int most), some (.str t), x, y] (b :: rest) = evSs P (callD P k) (wordB of) [some (.ref 0), some (.int most), some (.str t), some d, y] (b :: rest) := rfl
      have q1 : evE P (callD P k) (.call of [.var 0, sgE]) [some (.ref 0), some (.int most), some (.str t), some d, y] (b :: rest) = .ok (.str [c]) (b' :: rest) := by
        have v0 : evE P (callD P k) (.var 0) [some (.ref 0), some (.int most), some (.str t), some d, y] (b :: rest) = .ok (.ref 0) (b :: rest) := by simp [evE, R.of]
        rw [evE, evEs, v0, rbind_ok, evEs, sg, rbind_ok, evEs, rbind_ok, rbind_ok, rbind_ok]
        exact e5
      have v2 : evE P (callD P k) (.var 2) [some (.ref 0), some (.int most), some (.str t), some d, y] (b :: rest) = .ok (.str t) (b :: rest) := by simp [evE, R.of]
      rw [e0, wordB, evSs_cons, evS, evE, v2, rbind_ok, q1, rbind_ok, ad, of_some, st_ok, seq_nx, evSs_nil]
      rfl
  refine ⟨.str t, b', hf.rt rfl ?_ rfl, o2, t, rfl, hw, ?_⟩
  · show evSs P (callD P k) (B_word pull of) [some (.ref 0), some (.int most), none, none, none] (b :: rest) = _
    have f1 : evS P (callD P k) (.set 2 (.str [])) [some (.ref 0), some (.int most), none, none, none] (b :: rest) = .nx [some (.ref 0), some (.int most), some (.str []), none, none] (b :: rest) := by simp [evS, evE, R.st]
    have f2 : evS P (callD P k) (.for [3] .range1 [.call pull [.var 0, .bin .add (.var 1) (.int 1)]] (wordB of)) [some (.ref 0), some (.int most), some (.str []), none, none] (b :: rest) = .nx [some (.ref 0), some (.int most), some (.str t), x, y] (b' :: rest) := by
      rw [evS_for]
      have : evEs P (callD P k) [.call pull [.var 0, .bin .add (.var 1) (.int 1)]] [some (.ref 0), some (.int most), some (.str []), none, none] (b :: rest) = .ok [.int v] (b1 :: rest) := by
        simp [evEs, evE, R.of, R.bind, bin_add, e1]
      rw [this, rbind_ok, srcF_range gv (by omega), of_some, st_ok, e2, e3, e4]
    rw [B_word, evSs_cons, f1, seq_nx, evSs_cons, f2, seq_nx]
    simp [evSs, evS, evE, R.of, R.st, RS.seq]
  · rw [hl, List.length_map, List.length_range]
    omega
def B_drawn (word of : Nat) : List S := [.set 2 (.call word [.var 0, .var 1]), .ret (.ite (.cmp .ne (.var 2) (.str [])) (.var 2) (.call of [.var 0, .lst false [.str [65], .str [66], .str [67], .str [68]]]))]
def DrawnOk (call : CallS) (f : Nat) : Prop := ∀ (b : Cell) (rest : Stt) (most : Int), BagOK b → 0 ≤ most → most ≤ 100 → Draw (call f [.ref 0, .int most] (b :: rest)) rest fun d => ∃ p l, d = .str (ct p l) ∧ CallOk p l ∧ (p.length : Int) ≤ most
theorem drawnOk {word of : Nat} (hf : Is P f 2 3 (B_drawn word of)) (hw : WordOk (callD P k) word) (ho : OfOk (callD P k) of) : DrawnOk (callD P (k + 1)) f := fun b rest most ob h0 h1 => by
  obtain ⟨_, b1, e1, o1, t, rfl, hw, hl⟩ := hw b rest most ob h0 h1
  have z := eqF_nil (hw.1.tx (by omega))
  by_cases e : t = []
  · subst e
    obtain ⟨d, b2, e2, o2, hd⟩ := ho b1 rest [.str [65], .str [66], .str [67], .str [68]] o1 (by simp) (by simp)
    have : ∃ l, l ∈ abcd ∧ d = .str (ct [] l) := by
      simp only [List.mem_cons, List.not_mem_nil, or_false] at hd
      rcases hd with q | q | q | q <;> subst q
      · exact ⟨97, by decide, rfl⟩
      · exact ⟨98, by decide, rfl⟩
      · exact ⟨99, by decide, rfl⟩
      · exact ⟨100, by decide, rfl⟩
    obtain ⟨l, ml, rfl⟩ := this
    refine ⟨_, b2, hf.rt rfl ?_ rfl, o2, [], l, rfl, ⟨Word.nil, ml, .inl rfl⟩, by simpa using h0⟩
    show evSs P (callD P k) (B_drawn word of) [some (.ref 0), some (.int most), none] (b :: rest) = _
    simp [B_drawn, evSs, evS, evT, evE, evEs, R.of, R.bind, R.st, RS.seq, e1, cmpF, z, le4, e2]
  · obtain ⟨v, c, hv⟩ := (snoc_cases t).resolve_left e
    have hc : t.getLast? = some c := by rw [hv]; simp
    have e3 : ct t c = t := by simp [ct, e]
    refine ⟨_, b1, hf.rt rfl ?_ rfl, o1, t, c, rfl, ⟨hw, hw.1 c (by rw [hv]; simp), .inr hc⟩, hl⟩
    show evSs P (callD P k) (B_drawn word of) [some (.ref 0), some (.int most), none] (b :: rest) = _
    rw [e3]
    simp [B_drawn, evSs, evS, evT, evE, evEs, R.of, R.bind, R.st, RS.seq, e1, cmpF, z, e]
/-! spoilt words -/
theorem cut_len (t : T) (lo hi : Option Int) : (cut t lo hi).length ≤ t.length := by
  unfold cut
  rw [List.length_take, List.length_drop]
  omega
theorem Tx.cut {t : T} (h : Tx t) (lo hi : Option Int) : Tx (cut t lo hi) := h.sub (cut_len t lo hi) fun c hc => List.mem_of_mem_drop (List.mem_of_mem_take hc)
theorem sl_cut {t : T} (h : Tx t) (lo hi : Option Int) : slF (.str t) lo hi = some (.str (G.cut t lo hi)) := by
  show (if t.length ≤ sizeLine then _ else _) = _
  rw [if_pos h.le]
def B_odd (word pull of : Nat) : List S := [.set 2 (.call word [.var 0, .var 1]), .set 3 (.call pull [.var 0, .bin .add (.bi .len (.var 2)) (.int 1)]), .set 4 (.call pull [.var 0, .int 5]), .ite (.cmp .eq (.var 4) (.int 0)) [.ret (.bin .add (.bin .add (.sl (.var 2) none (some (.var 3))) (.call of [.var 0, .lst false [.str [101], .str [65], .str [32], .str [49], .str [122]]])) (.sl (.var 2) (some (.var 3)) none))] [], .ite (.and [.cmp .eq (.var 4) (.int 1), .cmp .ne (.var 2) (.str [])]) [.ret (.bin .add (.bin .add (.sl (.var 2) none (some (.var 3))) (.sl (.var 2) (some (.bin .sub (.var 3) (.int 1))) (some (.var 3)))) (.sl (.var 2) (some (.bin .sub (.var 3) (.int 1))) none))] [], .ite (.cmp .eq (.var 4) (.int 2)) [.ret (.bin .add (.var 2) (.bin .mul (.call of [.var 0, .lst false [.str [97, 98], .str [99, 100], .str [100, 98, 97]]]) (.bin .add (.int 14) (.call pull [.var 0, .int 9]))))] [], .ret (.var 2)]
def OddOk (call : CallS) (f : Nat) : Prop := ∀ (b : Cell) (rest : Stt) (most : Int), BagOK b → 0 ≤ most → most ≤ 100 → Draw (call f [.ref 0, .int most] (b :: rest)) rest fun d => ∃ t, d = .str t ∧ Tx t ∧ (t.length : Int) ≤ 3 * most + 66
theorem oddOk {word pull of : Nat} (hf : Is P f 2 5 (B_odd word pull of)) (hw : WordOk (callD P k) word) (hp : PullOk (callD P k) pull) (ho : OfOk (callD P k) of) : OddOk (callD P (k + 1)) f := fun b rest most ob h0 h1 => by
  obtain ⟨_, b1, e1, o1, t, rfl, wt, lt⟩ := hw b rest most ob h0 h1
  have tx := wt.1.tx (by omega)
  obtain ⟨v, b2, e2, o2, gv, lv⟩ := hp b1 rest (t.length + 1) 8 o1 (by omega) (by rw [show (2 : Nat) ^ 8 = 256 by decide]; omega) (by decide)
  obtain ⟨w, b3, e3, o3, gw, lw⟩ := hp b2 rest 5 3 o2 (by decide) (by decide) (by decide)
  have s1 := fun lo hi => sl_cut tx lo hi
  have c1 := fun lo hi => cut_len t lo hi
  have x1 := fun lo hi => tx.cut lo hi
  have pre : ∀ r : List S, evSs P (callD P k) (.set 2 (.call word [.var 0, .var 1]) :: .set 3 (.call pull [.var 0, .bin .add (.bi .len (.var 2)) (.int 1)]) :: .set 4 (.call pull [.var 0, .int 5]) :: r) [some (.ref 0), some (.int most), none, none, none] (b :: rest) = evSs P (callD P k) r [some (.ref 0), some (.int most), some (.str t), some (.int v), some (.int w)] (b3 :: rest) := fun r => by
    simp [evSs, evS, evE, evEs, R.of, R.bind, R.st, RS.seq, e1, len_str tx, bin_add, e2, e3]
  have z := eqF_nil tx
  by_cases w0 : w = 0
  · subst w0
    obtain ⟨d, b4, e4, o4, hd⟩ := ho b3 rest [.str [101], .str [65], .str [32], .str [49], .str [122]] o3 (by simp) (by simp)
    have : ∃ c, d = .str [c] ∧ c < 1114112 := by
      simp only [List.mem_cons, List.not_mem_nil, or_false] at hd
      rcases hd with q | q | q | q | q <;> subst q <;> exact ⟨_, rfl, by decide⟩
    obtain ⟨c, rfl, hc⟩ := this
    have l1 := c1 none (some v)
    have l2 := c1 (some v) none
    have a1 := add_str (a := G.cut t none (some v)) (b := [c]) (by simp; omega)
    have a2 := add_str (a := G.cut t none (some v) ++ [c]) (b := G.cut t (some v) none) (by simp; omega)
    refine ⟨.str (G.cut t none (some v) ++ [c] ++ G.cut t (some v) none), b4, hf.rt rfl ?_ rfl, o4, _, rfl, ((x1 _ _).app (tx_one hc) (by simp; omega)).app (x1 _ _) (by simp; omega), by simp; omega⟩
    show evSs P (callD P k) (B_odd word pull of) [some (.ref 0), some (.int most), none, none, none] (b :: rest) = _
    rw [B_odd, pre]
    simp [evSs, evS, evT, evE, evEs, evO, R.of, R.bind, R.st, RS.seq, cmpF, eqF_int, s1, le5', e4, a1]
    first | exact congrArg _ rfl | (simp at a2; simp [a2]) | simp [a2]
  · by_cases w1 : w = 1 ∧ t ≠ []
    · obtain ⟨rfl, tn⟩ := w1
      have l1 := c1 none (some v)
      have l2 := c1 (some (v - 1)) (some v)
      have l3 := c1 (some (v - 1)) none
      have a1 := add_str (a := G.cut t none (some v)) (b := G.cut t (some (v - 1)) (some v)) (by omega)
      have a2 := add_str (a := G.cut t none (some v) ++ G.cut t (some (v - 1)) (some v)) (b := G.cut t (some (v - 1)) none) (by simp; omega)
      refine ⟨.str (G.cut t none (some v) ++ G.cut t (some (v - 1)) (some v) ++ G.cut t (some (v - 1)) none), b3, hf.rt rfl ?_ rfl, o3, _, rfl, ((x1 _ _).app (x1 _ _) (by omega)).app (x1 _ _) (by simp; omega), by simp; omega⟩
      show evSs P (callD P k) (B_odd word pull of) [some (.ref 0), some (.int most), none, none, none] (b :: rest) = _
      rw [B_odd, pre]
      simp [evSs, evS, evT, evTAnd, evE, evEs, evO, R.of, R.bind, R.st, RS.seq, cmpF, eqF_int, s1, bin_sub, z, tn, a1]
      simp at a2
      simp [a2]
    · have t1 : evT P (callD P k) (.and [.cmp .eq (.var 4) (.int 1), .cmp .ne (.var 2) (.str [])]) [some (.ref 0), some (.int most), some (.str t), some (.int v), some (.int w)] (b3 :: rest) = .ok false (b3 :: rest) := by
        by_cases q : w = 1
        · have : t = [] := Classical.byContradiction fun n => w1 ⟨q, n⟩
          rw [this] at z
          simp [evT, evTAnd, evE, R.of, R.bind, cmpF, eqF_int, q, z, this]
        · simp [evT, evTAnd, evE, R.of, R.bind, cmpF, eqF_int, q]
      have t2 : ∀ r : List S, ∀ a : List S, evSs P (callD P k) (.ite (.cmp .eq (.var 4) (.int 0)) a [] :: r) [some (.ref 0), some (.int most), some (.str t), some (.int v), some (.int w)] (b3 :: rest) = evSs P (callD P k) r [some (.ref 0), some (.int most), some (.str t), some (.int v), some (.int w)] (b3 :: rest) := fun r a => by
        simp [evSs, evS, evT, evE, R.of, R.bind, R.st, RS.seq, cmpF, eqF_int, w0]
      by_cases w2 : w = 2
      · subst w2
        obtain ⟨d, b4, e4, o4, hd⟩ := ho b3 rest [.str [97, 98], .str [99, 100], .str [100, 98, 97]] o3 (by simp) (by simp)
        obtain ⟨n, b5, e5, o5, gn, ln⟩ := hp b4 rest 9 4 o4 (by decide) (by decide) (by decide)
        have : ∃ u, d = .str u ∧ Tx u ∧ u.length ≠ 0 ∧ u.length ≤ 3 := by
          simp only [List.mem_cons, List.not_mem_nil, or_false] at hd
          rcases hd with q | q | q <;> subst q <;> exact ⟨_, rfl, ⟨by decide, by decide⟩, by decide, by decide⟩
        obtain ⟨u, rfl, hu, u0, u3⟩ := this
        have n22 : (14 + n).toNat ≤ 22 := by omega
        have len : (List.replicate (14 + n).toNat u).flatten.length = (14 + n).toNat * u.length := by simp
        have len2 : (14 + n).toNat * u.length ≤ 66 := Nat.le_trans (Nat.mul_le_mul n22 u3) (by decide)
        have m1 : binF .mul (.str u) (.int (14 + n)) = some (.str (List.replicate (14 + n).toNat u).flatten) := by
          simp only [binF]
          exact if_pos ⟨by omega, by omega, u0, by rw [Nat.mul_comm]; exact Nat.le_trans len2 (by decide)⟩
        have hx : Tx (List.replicate (14 + n).toNat u).flatten := ⟨by rw [len]; omega, fun c hc => by
          obtain ⟨z, hz, hc⟩ := List.mem_flatten.mp hc
          rw [List.eq_of_mem_replicate hz] at hc
          exact hu.2 c hc⟩
        have a1 := add_str (a := t) (b := (List.replicate (14 + n).toNat u).flatten) (by rw [len]; omega)
        refine ⟨.str (t ++ (List.replicate (14 + n).toNat u).flatten), b5, hf.rt rfl ?_ rfl, o5, _, rfl, tx.app hx (by rw [len]; omega), by rw [List.length_append, len]; omega⟩
        show evSs P (callD P k) (B_odd word pull of) [some (.ref 0), some (.int most), none, none, none] (b :: rest) = _
        rw [B_odd, pre, t2, evSs_cons, evS, t1, st_ok, if_neg (by decide), evSs_nil, seq_nx]
        simp only [evSs, evS, evT, evE, evEs, R.of, R.bind, R.st, RS.seq, List.getElem?_cons_zero, List.getElem?_cons_succ, Option.join_some, cmpF, eqF_int, decide_true, Option.map_some, if_true, List.length_cons, List.length_nil, Nat.zero_add, Nat.reduceAdd, le3, e4, bin_add, e5, m1, a1]
      · refine ⟨.str t, b3, hf.rt rfl ?_ rfl, o3, t, rfl, tx, by omega⟩
        show evSs P (callD P k) (B_odd word pull of) [some (.ref 0), some (.int most), none, none, none] (b :: rest) = _
        rw [B_odd, pre, t2, evSs_cons, evS, t1, st_ok, if_neg (by decide), evSs_nil, seq_nx]
        simp [evSs, evS, evT, evE, R.of, R.bind, R.st, RS.seq, cmpF, eqF_int, w2]
end
end G

set_option Elab.async false
set_option linter.all false
set_option maxRecDepth 100000
namespace G
open PySem L2
/-! ### numbers as texts -/
abbrev numL := TL.numL
def dig (c : Nat) : Bool := decide (c ∈ [48, 49, 50, 51, 52, 53, 54, 55, 56, 57])
theorem dig_iff {c : Nat} : dig c = true ↔ 48 ≤ c ∧ c ≤ 57 := by
  simp [dig]
  omega
theorem digs {t : T} (h : t.all dig = true) : NumText.AllDigits t := fun c hc => dig_iff.mp (List.all_eq_true.mp h c hc)
theorem of_digs {t : T} (h : NumText.AllDigits t) : t.all dig = true := List.all_eq_true.mpr fun c hc => dig_iff.mpr (h c hc)
theorem intT_nat (n : Nat) : intT (n : Int) = numL n := TL.tl_num n
theorem intT_neg {n : Nat} (h : 0 < n) : intT (-(n : Int)) = 45 :: numL n := by
  unfold intT
  rw [PyProof.Rows.toString_neg (n := -(n : Int)) (by omega)]
  have e : (0 : Int) - -(n : Int) = (n : Int) := by omega
  rw [e]
  have h1 := TL.tl_num n
  have h2 := PyProof.Rows.signs_ofString ("-" ++ toString (n : Int))
  have h3 := PyProof.Rows.signs_ofString (toString (n : Int))
  have h4 : (Str.ofString ("-" ++ toString (n : Int))).cps.toList = 45 :: (Str.ofString (toString (n : Int))).cps.toList := by
    rw [h2, h3]
    simp
  rw [h4]
  exact congrArg _ h1
/-- no needless nought ahead -/
def canon (t : T) : Bool := !(decide (1 < t.length) && decide (t[0]? = some 48))
theorem numL_canon {t : T} (h : NumText.AllDigits t) (h0 : t ≠ []) : numL (NumText.digitsVal t) = t ↔ canon t = true := by
  have e := NumText.toDigits_all t h
  have rt : ∀ u : T, NumText.AllDigits u → (u.map Char.ofNat).map Char.toNat = u := fun u hu => by
    rw [List.map_map]
    conv => rhs; rw [← List.map_id u]
    apply List.map_congr_left
    intro c hc
    have := hu c hc
    show (Char.ofNat c).toNat = c
    have hv : c.isValidChar := by left; omega
    unfold Char.ofNat
    rw [dif_pos hv]
    show (Char.ofNatAux c hv).val.toNat = c
    simp [Char.ofNatAux]
  have e1 : numL (NumText.digitsVal t) = if t.dropWhile (· == 48) = [] then [48] else t.dropWhile (· == 48) := by
    show (Nat.toDigits 10 (NumText.digitsVal t)).map Char.toNat = _
    rw [e]
    have hs : NumText.AllDigits (t.dropWhile (· == 48)) := fun c hc => h c ((List.dropWhile_sublist _).subset hc)
    generalize t.dropWhile (· == 48) = w at hs
    cases w with
    | nil => rfl
    | cons c r => exact rt _ hs
  rw [e1]
  clear e e1 rt
  match t, h0 with
  | c :: r, _ =>
    by_cases c0 : c = 48
    · subst c0
      have dw : (48 :: r).dropWhile (· == 48) = r.dropWhile (· == 48) := List.dropWhile_cons_of_pos (by simp)
      rw [dw]
      clear dw
      cases r with
      | nil => simp [canon]
      | cons d r =>
        have hl := (List.dropWhile_sublist (p := (· == 48)) (l := d :: r)).length_le
        constructor
        · intro q
          split at q
          · cases q
          · rw [q] at hl
            simp at hl
            omega
        · intro q
          simp [canon] at q
    · have dw : (c :: r).dropWhile (· == 48) = c :: r := List.dropWhile_cons_of_neg (by simp [c0])
      rw [dw, if_neg (by simp)]
      simp [canon, c0]
/-- figures -/
def figs (t : T) : Option Nat := if t ≠ [] ∧ t.length ≤ 40 ∧ t.all dig = true ∧ canon t = true then some (NumText.digitsVal t) else none
/-- the number that a text writes -/
def numIn (t : T) : Option Int := if t.take 1 = [45] then (match figs (t.drop 1) with
  | some 0 => none
  | some n => some (-(n : Int))
  | none => none) else Option.map (fun n : Nat => (n : Int)) (figs t)
theorem figs_num {n : Nat} (h : n < 10 ^ 40) : figs (numL n) = some n := by
  unfold figs
  rw [if_pos ⟨TL.numL_ne n, TL.numL_len (by decide) h, of_digs (TL.numL_digits n), (numL_canon (TL.numL_digits n) (TL.numL_ne n)).mp (by rw [show NumText.digitsVal (numL n) = n from TL.numL_val n])⟩]
  rw [show NumText.digitsVal (numL n) = n from TL.numL_val n]
theorem num_head (n : Nat) : (numL n).take 1 ≠ [45] := by
  intro h
  have h1 := TL.numL_digits n
  cases q : numL n with
  | nil => rw [q] at h; simp at h
  | cons c r =>
    rw [q] at h
    simp at h
    subst h
    have := h1 45 (by rw [show TL.numL n = numL n from rfl, q]; simp)
    omega
theorem numIn_int {i : Int} (h : i.natAbs < 10 ^ 40) : numIn (intT i) = some i := by
  by_cases c : 0 ≤ i
  · obtain ⟨n, rfl⟩ := Int.eq_ofNat_of_zero_le c
    rw [intT_nat]
    unfold numIn
    rw [if_neg (num_head n), figs_num (by simpa using h)]
    rfl
  · obtain ⟨n, rfl⟩ : ∃ n : Nat, i = -(n : Int) := ⟨i.natAbs, by omega⟩
    have h0 : 0 < n := by omega
    rw [intT_neg h0]
    unfold numIn
    rw [if_pos (by simp)]
    have : (45 :: numL n).drop 1 = numL n := rfl
    rw [this, figs_num (by simpa using h)]
    obtain ⟨m, rfl⟩ : ∃ m, n = m + 1 := ⟨n - 1, by omega⟩
    rfl
theorem figs_small {t : T} {n : Nat} (h : figs t = some n) : n < 10 ^ 40 := by
  unfold figs at h
  split at h
  · rename_i q
    cases h
    have : ∀ (u : T) (a k : Nat), NumText.AllDigits u → a < 10 ^ k → u.foldl (fun acc c => acc * 10 + (c - 48)) a < 10 ^ (k + u.length) := by
      intro u
      induction u with
      | nil => intro a k _ h; simpa using h
      | cons c u ih =>
        intro a k hu ha
        have hc := hu.head
        have := ih (a * 10 + (c - 48)) (k + 1) hu.tail (by rw [Nat.pow_succ]; omega)
        rw [List.foldl_cons, List.length_cons]
        rwa [show k + (u.length + 1) = k + 1 + u.length by omega]
    have := this t 0 0 (digs q.2.2.1) (by decide)
    rw [Nat.zero_add] at this
    exact Nat.lt_of_lt_of_le this (Nat.pow_le_pow_right (by decide) q.2.1)
  · cases h
theorem numIn_small {t : T} {i : Int} (h : numIn t = some i) : i.natAbs < 10 ^ 40 := by
  unfold numIn at h
  split at h
  · split at h
    · cases h
    · rename_i n _ q
      cases h
      have := figs_small q
      omega
    · cases h
  · obtain ⟨n, q, rfl⟩ := Option.map_eq_some_iff.mp h
    have := figs_small q
    omega
theorem num_log {i : Int} (h : i.natAbs < 10 ^ 40) : i.natAbs < 2 ^ 133 := Nat.lt_trans h (by decide)
theorem str_int {i : Int} {s : Stt} {n : Nat} (h : i.natAbs < 2 ^ n) (hn : n < 1920) : biF .str s (.int i) = some (.str (intT i)) := by
  simp only [biF]
  exact if_pos (Nat.lt_of_le_of_lt (log2_le h) hn)
theorem fmt_int {i : Int} {n : Nat} (h : i.natAbs < 2 ^ n) (hn : n < 1920) : fmtF (.int i) = some (.str (intT i)) := by
  simp only [fmtF]
  exact if_pos (Nat.lt_of_le_of_lt (log2_le h) hn)
/-- a test of each sign -/
theorem all_text {P : Prog} {call : CallS} {e src : E} {v : Nat} {ρ : Env} {s : Stt} {t : T} (g : Nat → Bool) (hs : evE P call src ρ s = .ok (.str t) s) (hl : t.length ≤ sizeLine) (he : ∀ c ∈ t, evE P call e (ρ.set v (some (.str [c]))) s = .ok (.bl (g c)) s) :
    evE P call (.bi .all (.comp false e [v] [v] .seq [src] none)) ρ s = .ok (.bl (t.all g)) s := by
  have h1 := comp_map (P := P) (call := call) (e := e) (v := v) (k := .seq) (src := [src]) (ρ := ρ) (s := s) (ds := [.str t]) (xs := t.map fun c => .str [c]) (fun d => match d with
    | .str [c] => .bl (g c)
    | _ => .non) (by simp [evEs, hs, R.bind]) rfl (by rw [List.length_map]; exact hl) fun x hx => by
      obtain ⟨c, hc, rfl⟩ := List.mem_map.mp hx
      exact he c hc
  rw [evE, h1, rbind_ok]
  have h2 : bools ((t.map fun c => D.str [c]).map fun d => match d with
    | .str [c] => .bl (g c)
    | _ => .non) = some (t.map g) := by
    clear h1 hs hl he
    induction t with
    | nil => rfl
    | cons c t ih => simp [bools] at ih ⊢; exact ih
  simp only [biF, listF, Option.bind_some, h2, Option.map_some, of_some]
  congr 2
  rw [List.all_map]
  rfl
end G

set_option Elab.async false
set_option linter.all false
set_option maxRecDepth 100000
namespace G
open PySem L2
section
variable {P : Prog} {k f : Nat}
def digT : T := [48, 49, 50, 51, 52, 53, 54, 55, 56, 57]
def optD : Option Int → D
  | some i => .int i
  | none => .non
def NumInOk (call : CallS) (f : Nat) : Prop := ∀ (t : T) (s : Stt), Tx t → call f [.str t] s = .ok (optD (numIn t)) s
theorem cut_one (t : T) : cut t none (some 1) = t.take 1 := by
  by_cases h : 1 ≤ t.length
  · exact cut_to t 1 h
  · have : t = [] := List.eq_nil_of_length_eq_zero (by omega)
    subst this
    rfl
theorem cut_from1 (t : T) : cut t (some 1) none = t.drop 1 := by
  unfold cut
  rw [HT.sIx_none, show (1 : Int) = ((1 : Nat) : Int) by rfl, HT.sIx_nat]
  have : (t.drop (min 1 t.length)).length = t.length - min 1 t.length := by simp
  rw [← this, List.take_length]
  by_cases h : 1 ≤ t.length
  · rw [Nat.min_eq_left h]
  · have : t = [] := List.eq_nil_of_length_eq_zero (by omega)
    subst this
    rfl
theorem minus_head {t : T} (h : Tx t) : eqF (.str (t.take 1)) (.str [45]) = some (decide (t.take 1 = [45])) := eqF_str (h.take 1) (tx_one (by decide))
/-! the law's -/
def B_lfig : List S := [.ite (.or [.cmp .eq (.var 0) (.str []), .cmp .gt (.bi .len (.var 0)) (.int 40), .not (.bi .all (.comp false (.cmp .in_ (.var 1) (.str [48, 49, 50, 51, 52, 53, 54, 55, 56, 57])) [1] [1] .seq [.var 0] none))]) [.ret (.non)] [], .ret (.ite (.and [.cmp .gt (.bi .len (.var 0)) (.int 1), .cmp .eq (.ix (.var 0) (.int 0)) (.str [48])]) (.non) (.bi .int (.var 0)))]
def FigOk (call : CallS) (f : Nat) : Prop := ∀ (t : T) (s : Stt), Tx t → call f [.str t] s = .ok (optD ((figs t).map fun n : Nat => (n : Int))) s
theorem lfigOk (hf : Is P f 1 2 B_lfig) : FigOk (callD P (k + 1)) f := fun t s tx => by
  refine hf.rt rfl ?_ rfl
  show evSs P (callD P k) B_lfig [some (.str t), none] s = _
  have z := eqF_nil tx
  have al := all_text (P := P) (call := callD P k) (e := .cmp .in_ (.var 1) (.str [48, 49, 50, 51, 52, 53, 54, 55, 56, 57])) (src := .var 0) (v := 1) (ρ := [some (.str t), none]) (s := s) (t := t) dig (by simp [evE, R.of]) tx.le (fun c hc => by
    have : inD (.str [c]) (.str [48, 49, 50, 51, 52, 53, 54, 55, 56, 57]) = some (dig c) := rfl
    simp only [evE, R.of, R.bind, List.set_cons_succ, List.set_cons_zero, List.getElem?_cons_zero, List.getElem?_cons_succ, Option.join_some, cmpF, this, Option.map_some])
  have alt : evT P (callD P k) (.bi .all (.comp false (.cmp .in_ (.var 1) (.str [48, 49, 50, 51, 52, 53, 54, 55, 56, 57])) [1] [1] .seq [.var 0] none)) [some (.str t), none] s = .ok (t.all dig) s := by
    rw [evE] at al
    rw [evT, al, rbind_ok]
    rfl
  by_cases e0 : t = []
  · subst e0
    have z : eqF (.str []) (.str []) = some true := by rw [eqF_nil tx_nil]; rfl
    have : figs [] = none := by simp [figs]
    simp [B_lfig, evSs, evS, evT, evTOr, evE, R.of, R.bind, R.st, RS.seq, cmpF, z, this, optD]
  · by_cases l40 : 40 < t.length
    · have l1 : (40 : Int) < t.length := by omega
      have : figs t = none := by
        unfold figs
        rw [if_neg (fun q => by omega)]
      simp [B_lfig, evSs, evS, evT, evTOr, evE, R.of, R.bind, R.st, RS.seq, cmpF, z, e0, len_str tx, l1, this, optD]
    · have l1 : ¬ (40 : Int) < t.length := by omega
      have pre : evT P (callD P k) (.or [.cmp .eq (.var 0) (.str []), .cmp .gt (.bi .len (.var 0)) (.int 40), .not (.bi .all (.comp false (.cmp .in_ (.var 1) (.str [48, 49, 50, 51, 52, 53, 54, 55, 56, 57])) [1] [1] .seq [.var 0] none))]) [some (.str t), none] s = .ok (!t.all dig) s := by
        have a1 : evT P (callD P k) (.cmp .eq (.var 0) (.str [])) [some (.str t), none] s = .ok false s := by simp [evT, evE, R.of, R.bind, cmpF, z, e0]
        have a2 : evT P (callD P k) (.cmp .gt (.bi .len (.var 0)) (.int 40)) [some (.str t), none] s = .ok false s := by simp [evT, evE, R.of, R.bind, cmpF, len_str tx, l1]
        rw [evT, evTOr, a1, rbind_ok, if_neg (by decide), evTOr, a2, rbind_ok, if_neg (by decide), evTOr, evT, alt, rbind_ok]
      cases hd : t.all dig with
      | false =>
        rw [hd] at pre
        have : figs t = none := by
          unfold figs
          rw [if_neg (fun q => by rw [hd] at q; exact Bool.false_ne_true q.2.2.1)]
        rw [B_lfig, evSs_cons, evS, pre, st_ok, this]
        simp [evSs, evS, evE, R.st, RS.seq, optD]
      | true =>
        rw [hd] at pre
        have lp : 0 < t.length := List.length_pos_iff.mpr e0
        have h0 : t[0]? = some t[0] := List.getElem?_eq_getElem lp
        have c0 : t[0] < 1114112 := tx.2 _ (List.getElem_mem _)
        have i0 : ixF s (.str t) (.int 0) = some (.str [t[0]]) := ix_at (i := 0) tx h0
        have e1 := eqF_str (a := [t[0]]) (b := [48]) (tx_one c0) (tx_one (by decide))
        rw [B_lfig, evSs_cons, evS, pre, st_ok, Bool.not_true, if_neg (by decide), evSs_nil, seq_nx]
        have vi : biF .int s (.str t) = some (.int (NumText.digitsVal t)) := by
          simp only [biF]
          rw [if_pos (by omega), show PySem.intText? (tS t) = some ((NumText.digitsVal t : Nat) : Int) from intText_digits (x := tS t) (digs hd) e0 (by show t.toArray.size ≤ 4300; rw [List.size_toArray]; omega)]
          rfl
        by_cases l2 : 1 < t.length
        · have l3 : (1 : Int) < t.length := by omega
          by_cases q : t[0] = 48
          · have : figs t = none := by
              unfold figs
              rw [if_neg (fun z => by have := z.2.2.2; simp [canon, l2, h0, q] at this)]
            rw [q] at i0 e1
            simp [evSs, evS, evT, evTAnd, evE, R.of, R.bind, R.st, RS.seq, cmpF, len_str tx, l3, i0, e1, this, optD]
          · have : figs t = some (NumText.digitsVal t) := by
              unfold figs
              rw [if_pos ⟨e0, by omega, hd, by simp [canon, h0, q]⟩]
            simp [evSs, evS, evT, evTAnd, evE, R.of, R.bind, R.st, RS.seq, cmpF, len_str tx, l3, i0, e1, q, this, optD, vi]
        · have l3 : ¬ (1 : Int) < t.length := by omega
          have : figs t = some (NumText.digitsVal t) := by
            unfold figs
            rw [if_pos ⟨e0, by omega, hd, by simp [canon, l2]⟩]
          simp [evSs, evS, evT, evTAnd, evE, R.of, R.bind, R.st, RS.seq, cmpF, len_str tx, l3, this, optD, vi]
def B_lnum (fig : Nat) : List S := [.ite (.cmp .eq (.sl (.var 0) none (some (.int 1))) (.str [45])) [.set 1 (.call fig [.sl (.var 0) (some (.int 1)) none]), .ret (.ite (.or [.cmp .isN (.var 1) (.non), .cmp .eq (.var 1) (.int 0)]) (.non) (.bin .sub (.int 0) (.var 1)))] [], .ret (.call fig [.var 0])]
theorem lnumOk {fig : Nat} (hf : Is P f 1 2 (B_lnum fig)) (h : FigOk (callD P k) fig) : NumInOk (callD P (k + 1)) f := fun t s tx => by
  refine hf.rt rfl ?_ rfl
  show evSs P (callD P k) (B_lnum fig) [some (.str t), none] s = _
  have e1 := sl_cut tx none (some 1)
  rw [cut_one] at e1
  have e2 := sl_cut tx (some 1) none
  rw [cut_from1] at e2
  have e3 := minus_head tx
  by_cases c : t.take 1 = [45]
  · rw [c] at e1 e3
    have g := h (t.drop 1) s (tx.drop 1)
    unfold numIn
    rw [if_pos c]
    generalize t.drop 1 = u at e2 g ⊢
    cases q : figs u with
    | none =>
      rw [q] at g
      simp [B_lnum, evSs, evS, evT, evTOr, evE, evEs, evO, R.of, R.bind, R.st, RS.seq, e1, e3, cmpF, e2, g, optD]
    | some n =>
      rw [q] at g
      cases n with
      | zero => simp [B_lnum, evSs, evS, evT, evTOr, evE, evEs, evO, R.of, R.bind, R.st, RS.seq, e1, e3, cmpF, e2, g, optD, eqF_int]
      | succ n =>
        have : ¬ ((n : Int) + 1 = 0) := by omega
        simp [B_lnum, evSs, evS, evT, evTOr, evE, evEs, evO, R.of, R.bind, R.st, RS.seq, e1, e3, cmpF, e2, g, optD, eqF_int, this, bin_sub]
  · have g := h t s tx
    unfold numIn
    rw [if_neg c]
    simp [B_lnum, evSs, evS, evT, evE, evEs, evO, R.of, R.bind, R.st, RS.seq, e1, e3, c, cmpF, g]
/-! the program's -/
def B_num (cF cM : Nat) : List S := [.set 1 (.ite (.cmp .eq (.sl (.var 0) none (some (.int 1))) (.str [45])) (.sl (.var 0) (some (.int 1)) none) (.var 0)), .ite (.or [.not (.chain .le .le (.int 1) (.bi .len (.var 1)) (.glob cM)), .not (.bi .all (.comp false (.cmp .in_ (.var 2) (.glob cF)) [2] [2] .seq [.var 1] none))]) [.ret (.non)] [], .set 3 (.bi .int (.var 0)), .ret (.ite (.cmp .eq (.bi .str (.var 3)) (.var 0)) (.var 3) (.non))]
/-- the text without its sign -/
def bare (t : T) : T := if t.take 1 = [45] then t.drop 1 else t
theorem Tx.bare {t : T} (h : Tx t) : Tx (bare t) := by
  unfold G.bare
  split
  · exact h.drop 1
  · exact h
def okFig (t : T) : Bool := decide (1 ≤ t.length) && decide (t.length ≤ 40) && t.all dig
theorem num_tail {cF cM : Nat} {nF nM : Str} (hF : P.consts[cF]? = some (nF, .str digT)) (hM : P.consts[cM]? = some (nM, .int 40)) {t : T} {s : Stt} (tx : Tx t) {call : CallS} :
    evSs P call (B_num cF cM) [some (.str t), none, none, none] s = .rt (optD (numIn t)) s := by
  have e1 := sl_cut tx none (some 1)
  rw [cut_one] at e1
  have e2 := sl_cut tx (some 1) none
  rw [cut_from1] at e2
  have e3 := minus_head tx
  have tb := tx.bare
  have s1 : evS P call (.set 1 (.ite (.cmp .eq (.sl (.var 0) none (some (.int 1))) (.str [45])) (.sl (.var 0) (some (.int 1)) none) (.var 0))) [some (.str t), none, none, none] s = .nx [some (.str t), some (.str (bare t)), none, none] s := by
    by_cases c : t.take 1 = [45]
    · rw [c] at e1 e3
      simp [evS, evT, evE, evO, R.of, R.bind, R.st, e1, e3, cmpF, e2, bare, c]
    · simp [evS, evT, evE, evO, R.of, R.bind, R.st, e1, e3, c, cmpF, bare]
  have al := all_text (P := P) (call := call) (e := .cmp .in_ (.var 2) (.glob cF)) (src := .var 1) (v := 2) (ρ := [some (.str t), some (.str (bare t)), none, none]) (s := s) (t := bare t) dig (by simp [evE, R.of]) tb.le (fun c hc => by
    have : inD (.str [c]) (.str digT) = some (dig c) := rfl
    simp only [evE, R.of, R.bind, List.set_cons_succ, List.set_cons_zero, List.getElem?_cons_zero, List.getElem?_cons_succ, Option.join_some, cmpF, hF, this, Option.map_some])
  have alt : evT P call (.bi .all (.comp false (.cmp .in_ (.var 2) (.glob cF)) [2] [2] .seq [.var 1] none)) [some (.str t), some (.str (bare t)), none, none] s = .ok ((bare t).all dig) s := by
    rw [evE] at al
    rw [evT, al, rbind_ok]
    rfl
  have a1 : evT P call (.chain .le .le (.int 1) (.bi .len (.var 1)) (.glob cM)) [some (.str t), some (.str (bare t)), none, none] s = .ok (decide (1 ≤ (bare t).length) && decide ((bare t).length ≤ 40)) s := by
    by_cases l1 : 1 ≤ (bare t).length
    · have l2 : (1 : Int) ≤ (bare t).length := by omega
      have l3 : (((bare t).length : Int) ≤ 40) ↔ (bare t).length ≤ 40 := by omega
      simp [evT, evE, R.of, R.bind, len_str tb, cmpF, l1, l2, hM, l3]
    · have l2 : ¬ (1 : Int) ≤ (bare t).length := by omega
      simp [evT, evE, R.of, R.bind, len_str tb, cmpF, l1, l2]
  have s2 : evT P call (.or [.not (.chain .le .le (.int 1) (.bi .len (.var 1)) (.glob cM)), .not (.bi .all (.comp false (.cmp .in_ (.var 2) (.glob cF)) [2] [2] .seq [.var 1] none))]) [some (.str t), some (.str (bare t)), none, none] s = .ok (!okFig (bare t)) s := by
    rw [evT, evTOr, evT, a1, rbind_ok, rbind_ok, evTOr, evT, alt, rbind_ok, okFig]
    cases decide (1 ≤ (bare t).length) && decide ((bare t).length ≤ 40) <;> simp
  have nofig : okFig (bare t) = false → figs (bare t) = none := fun q => by
    unfold figs
    rw [if_neg]
    rintro ⟨q1, q2, q3, q4⟩
    have := List.length_pos_iff.mpr q1
    have q5 : okFig (bare t) = true := by simp [okFig, q2, q3]; omega
    rw [q] at q5
    cases q5
  cases q : okFig (bare t) with
  | false =>
    have nf := nofig q
    have : numIn t = none := by
      unfold numIn
      unfold bare at nf
      split
      · rename_i c
        rw [if_pos c] at nf
        rw [nf]
      · rename_i c
        rw [if_neg c] at nf
        rw [nf]
        rfl
    rw [this, B_num, evSs_cons, s1, seq_nx, evSs_cons, evS, s2, q, st_ok]
    simp [evSs, evS, evE, R.st, RS.seq, optD]
  | true =>
    simp only [okFig, Bool.and_eq_true, decide_eq_true_eq] at q
    obtain ⟨⟨l1, l2⟩, hd⟩ := q
    have ne : bare t ≠ [] := fun z => by rw [z] at l1; simp at l1
    have key : ∃ i : Int, biF .int s (.str t) = some (.int i) ∧ i.natAbs < 10 ^ 40 ∧ (if intT i = t then some i else none) = numIn t := by
      have cn := numL_canon (digs hd) ne
      have small : NumText.digitsVal (bare t) < 10 ^ 40 := by
        have : ∀ (u : T) (a k : Nat), NumText.AllDigits u → a < 10 ^ k → u.foldl (fun acc c => acc * 10 + (c - 48)) a < 10 ^ (k + u.length) := by
          intro u
          induction u with
          | nil => intro a k _ h; simpa using h
          | cons c u ih =>
            intro a k hu ha
            have hc := hu.head
            have := ih (a * 10 + (c - 48)) (k + 1) hu.tail (by rw [Nat.pow_succ]; omega)
            rw [List.foldl_cons, List.length_cons]
            rwa [show k + (u.length + 1) = k + 1 + u.length by omega]
        have := this (bare t) 0 0 (digs hd) (by decide)
        rw [Nat.zero_add] at this
        exact Nat.lt_of_lt_of_le this (Nat.pow_le_pow_right (by decide) l2)
      have hfig : figs (bare t) = if canon (bare t) = true then some (NumText.digitsVal (bare t)) else none := by
        unfold figs
        by_cases c : canon (bare t) = true
        · rw [if_pos ⟨ne, l2, hd, c⟩, if_pos c]
        · rw [if_neg (fun z => c z.2.2.2), if_neg c]
      by_cases c : t.take 1 = [45]
      · have bt : bare t = t.drop 1 := if_pos c
        have te : t = 45 :: t.drop 1 := by
          cases t with
          | nil => simp at c
          | cons x r => simp at c; simp [c]
        rw [bt] at l1 l2 hd ne cn small hfig
        generalize t.drop 1 = u at *
        subst te
        refine ⟨-(NumText.digitsVal u : Int), ?_, by omega, ?_⟩
        · simp only [biF]
          rw [if_pos (show (45 :: u).length ≤ 640 by rw [List.length_cons]; omega), show PySem.intText? (tS (45 :: u)) = some (-((NumText.digitsVal u : Nat) : Int)) from intText_neg (x := tS (45 :: u)) (cs := u) (by simp [tS]) (digs hd) ne (by show (45 :: u).toArray.size ≤ 4300; rw [List.size_toArray]; simp; omega)]
          rfl
        · have numE : numIn (45 :: u) = (match figs u with
              | some 0 => none
              | some n => some (-(n : Int))
              | none => none) := if_pos rfl
          rw [numE, hfig]
          by_cases v0 : NumText.digitsVal u = 0
          · rw [v0]
            have : intT (-((0 : Nat) : Int)) ≠ 45 :: u := fun z => by
              have e : intT (-((0 : Nat) : Int)) = numL 0 := intT_nat 0
              rw [e] at z
              exact num_head 0 (by rw [z]; rfl)
            rw [if_neg this]
            by_cases cc : canon u = true
            · rw [if_pos cc]
              rfl
            · rw [if_neg cc]
          · rw [intT_neg (by omega)]
            by_cases cc : canon u = true
            · rw [if_pos cc, cn.mpr cc, if_pos rfl]
              split
              · rename_i z; exact absurd (by simpa using z) v0
              · rename_i z; cases z; rfl
              · rename_i z; cases z
            · rw [if_neg cc, if_neg (fun z => cc (cn.mp (by simpa using z)))]
      · have bt : bare t = t := if_neg c
        rw [bt] at l1 l2 hd ne cn small hfig
        refine ⟨(NumText.digitsVal t : Int), ?_, by omega, ?_⟩
        · simp only [biF]
          rw [if_pos (by omega), show PySem.intText? (tS t) = some ((NumText.digitsVal t : Nat) : Int) from intText_digits (x := tS t) (digs hd) ne (by show t.toArray.size ≤ 4300; rw [List.size_toArray]; omega)]
          rfl
        · have numE : numIn t = Option.map (fun n : Nat => (n : Int)) (figs t) := if_neg c
          rw [numE, hfig, intT_nat]
          by_cases cc : canon t = true
          · rw [if_pos cc, if_pos (cn.mpr cc)]
            rfl
          · rw [if_neg cc, if_neg (fun z => cc (cn.mp z))]
            rfl
    obtain ⟨i, k1, k2, k3⟩ := key
    have si := str_int (s := s) (num_log k2) (by decide)
    have ti : Tx (intT i) := by
      by_cases c : 0 ≤ i
      · obtain ⟨n, rfl⟩ := Int.eq_ofNat_of_zero_le c
        rw [intT_nat]
        exact ⟨Nat.le_trans (TL.numL_len (k := 40) (by decide) (by simpa using k2)) (by decide), fun d hd => by have := TL.numL_digits n d hd; omega⟩
      · obtain ⟨n, rfl⟩ : ∃ n : Nat, i = -(n : Int) := ⟨i.natAbs, by omega⟩
        rw [intT_neg (by omega)]
        have hl := TL.numL_len (n := n) (k := 40) (by decide) (by simpa using k2)
        refine ⟨by rw [List.length_cons]; show (TL.numL n).length + 1 ≤ 1000; omega, fun d hd => ?_⟩
        rcases List.mem_cons.mp hd with e | hd
        · omega
        · have := TL.numL_digits n d hd; omega
    have eq := eqF_str ti tx
    have ok : okFig (bare t) = true := by simp [okFig, l2, hd]; omega
    rw [B_num, evSs_cons, s1, seq_nx, evSs_cons, evS, s2, ok, st_ok, Bool.not_true, if_neg (by decide), evSs_nil, seq_nx, ← k3]
    by_cases z : intT i = t
    · rw [if_pos z]
      rw [z] at eq si
      simp [evSs, evS, evT, evE, R.of, R.bind, R.st, RS.seq, k1, si, cmpF, eq, optD]
    · rw [if_neg z]
      simp [evSs, evS, evT, evE, R.of, R.bind, R.st, RS.seq, k1, si, cmpF, eq, z, optD]
theorem numOk {cF cM : Nat} {nF nM : Str} (hf : Is P f 1 4 (B_num cF cM)) (hF : P.consts[cF]? = some (nF, .str digT)) (hM : P.consts[cM]? = some (nM, .int 40)) : NumInOk (callD P (k + 1)) f := fun t s tx => hf.rt rfl (num_tail hF hM tx) rfl
end
end G

set_option Elab.async false
set_option linter.all false
set_option maxRecDepth 100000
namespace G
open PySem L2
/-! ### parts as texts -/
theorem par_spl : ∀ (t acc : T), (TL.par [47] acc t = none → 47 ∉ t ∧ TL.spl [47] 0 acc t = [acc ++ t]) ∧ (∀ p q, TL.par [47] acc t = some (p, q) → TL.spl [47] 0 acc t = p :: TL.spl [47] 0 [] q ∧ ∃ r, p = acc ++ r ∧ t = r ++ 47 :: q ∧ 47 ∉ r)
  | [], acc => ⟨fun _ => ⟨List.not_mem_nil, by rw [TL.spl_nil, List.append_nil]⟩, fun p q h => by cases h⟩
  | c :: r, acc => by
    have h := par_spl r (acc ++ [c])
    by_cases e : c = 47
    · subst e
      have hp : TL.pre [47] (47 :: r) = true := by simp [TL.pre]
      have e1 : TL.par [47] acc (47 :: r) = some (acc, r) := by rw [TL.par, if_pos hp]; rfl
      refine ⟨fun q => (by rw [e1] at q; cases q), fun p q h2 => ?_⟩
      rw [e1] at h2
      cases h2
      exact ⟨by rw [TL.spl_hit hp]; rfl, [], by simp, by simp, by simp⟩
    · have hp : TL.pre [47] (c :: r) = false := by simp [TL.pre, e]
      have e1 : TL.par [47] acc (c :: r) = TL.par [47] (acc ++ [c]) r := by rw [TL.par, if_neg (by rw [hp]; decide)]
      rw [e1, TL.spl_miss hp]
      refine ⟨fun q => ⟨by simp [Ne.symm e, (h.1 q).1], by rw [(h.1 q).2]; simp⟩, fun p q h2 => ?_⟩
      obtain ⟨h3, r', h4, h5, h6⟩ := h.2 p q h2
      exact ⟨h3, c :: r', by rw [h4]; simp, by rw [h5]; rfl, by simp [Ne.symm e, h6]⟩
/-- the number of a text has no stroke in it -/
theorem numIn_free {t : T} {i : Int} (h : numIn t = some i) : 47 ∉ t := by
  have hf : ∀ u n, figs u = some n → 47 ∉ u := fun u n q hm => by
    unfold figs at q
    split at q
    · rename_i z
      have := digs z.2.2.1 47 hm
      omega
    · cases q
  unfold numIn at h
  split at h
  · rename_i c
    have te : t = 45 :: t.drop 1 := by
      cases t with
      | nil => simp at c
      | cons x r => simp at c; simp [c]
    rw [te]
    split at h
    · cases h
    · rename_i q
      intro hm
      rcases List.mem_cons.mp hm with e | hm
      · cases e
      · exact hf _ _ q hm
    · cases h
  · obtain ⟨n, q, _⟩ := Option.map_eq_some_iff.mp h
    exact hf _ _ q
/-- in lowest terms -/
def lowB (a b : Int) : Bool := decide ((Rat.divInt a b).num = a ∧ ((Rat.divInt a b).den : Int) = b)
/-- the part that a text writes -/
def partIn (t : T) : Option (Int × Int) := match TL.par [47] [] t with
  | none => (numIn t).map fun a => (a, 1)
  | some (p, q) => match numIn p, numIn q with
    | some a, some b => if 2 ≤ b ∧ lowB a b = true then some (a, b) else none
    | _, _ => none
def prD : Option (Int × Int) → D
  | some (a, b) => .tup [.int a, .int b]
  | none => .non
theorem eqF_pair {a b c d : Int} : eqF (.tup [.int a, .int b]) (.tup [.int c, .int d]) = some (decide (a = c ∧ b = d)) := by
  have h : ∀ a b : Int, SeqAt.shaped (PyData.tuple [.int a, .int b]) = true := fun a b => by simp [SeqAt.shaped, PyData.canLay0, PyData.canLayAll0, PyData.depth, PyData.depthAll]
  have e : ∀ a b : Int, (D.tup [.int a, .int b]).toP = some (PyData.tuple [.int a, .int b]) := fun _ _ => rfl
  simp only [eqF, e, h, and_self, if_true, PyData.eqv, PyData.eqvAll, Bool.and_true, Option.some.injEq]
  by_cases c1 : a = c <;> by_cases c2 : b = d <;> simp [c1, c2]
theorem eq_low {a b : Int} : eqF (qD (Rat.divInt a b)) (.tup [.int a, .int b]) = some (lowB a b) := eqF_pair
section
variable {P : Prog} {k f : Nat}
def B_ispart (low : Nat) : List S := [.ret (.and [.cmp .gt (.ix (.var 0) (.int 1)) (.int 0), .cmp .eq (.call low [.ix (.var 0) (.int 0), .ix (.var 0) (.int 1)]) (.var 0)])]
def IsPartOk (call : CallS) (f : Nat) : Prop := ∀ (a b : Int) (s : Stt), a.natAbs < 2 ^ 133 → b.natAbs < 2 ^ 133 → call f [.tup [.int a, .int b]] s = .ok (.bl (decide (0 < b) && lowB a b)) s
theorem isPartOk {low : Nat} (hf : Is P f 1 1 (B_ispart low)) (hl : LowOk (callD P k) low) : IsPartOk (callD P (k + 1)) f := fun a b s ha hb => by
  refine hf.rt rfl ?_ rfl
  show evSs P (callD P k) (B_ispart low) [some (.tup [.int a, .int b])] s = _
  have i0 : ixF s (.tup [.int a, .int b]) (.int 0) = some (.int a) := rfl
  have i1 : ixF s (.tup [.int a, .int b]) (.int 1) = some (.int b) := rfl
  by_cases c : 0 < b
  · have e := hl a b 133 s (by omega) ha hb (by decide)
    simp [B_ispart, evSs, evS, evE, evAnd, evEs, R.of, R.bind, R.st, RS.seq, i0, i1, cmpF, c, e, eq_low]
  · simp [B_ispart, evSs, evS, evE, evAnd, evEs, R.of, R.bind, R.st, RS.seq, i0, i1, cmpF, c]
def B_partin (num isp : Nat) : List S := [.unp [1, 2, 3] (.met .part (.var 0) [.str [47]]), .par [4, 5] [.call num [.var 1], .ite (.cmp .ne (.var 2) (.str [])) (.call num [.var 3]) (.int 1)], .ite (.or [.cmp .isN (.var 4) (.non), .cmp .isN (.var 5) (.non), .not (.call isp [.tup [.var 4, .var 5]])]) [.ret (.non)] [], .ret (.ite (.or [.cmp .eq (.var 2) (.str []), .cmp .ne (.var 5) (.int 1)]) (.tup [.var 4, .var 5]) (.non))]
def PartInOk (call : CallS) (f : Nat) : Prop := ∀ (t : T) (s : Stt), Tx t → call f [.str t] s = .ok (prD (partIn t)) s
theorem part_none {t : T} {s : Stt} (h : Tx t) (q : TL.par [47] [] t = none) : meF .part s (.str t) [.str [47]] = .ok (.tup [.str t, .str [], .str []]) s := by
  have e := SX.partition_none (a := t) (b := [47]) (by decide) q
  have e' : PySem.Txt.partition (tS t) (tS [47]) = (tS t, tS [], tS []) := e
  simp only [meF]
  rw [if_pos ⟨by decide, h.le⟩, e']
  simp [tS]
theorem part_some {t a b : T} {s : Stt} (h : Tx t) (q : TL.par [47] [] t = some (a, b)) : meF .part s (.str t) [.str [47]] = .ok (.tup [.str a, .str [47], .str b]) s := by
  have e := SX.partition_some (a := t) (b := [47]) (by decide) q
  have e' : PySem.Txt.partition (tS t) (tS [47]) = (tS a, tS [47], tS b) := e
  simp only [meF]
  rw [if_pos ⟨by decide, h.le⟩, e']
  simp [tS]
theorem low_1 (a : Int) : lowB a 1 = true := by
  unfold lowB
  rw [Rat.num_divInt, Rat.den_divInt]
  simp
/-- behind both numbers -/
theorem partin_tail {num isp : Nat} {call : CallS} (h2 : IsPartOk call isp) {x0 x1 x3 : Option D} {st : T} {s : Stt} {n1 n2 : Option Int} (ts : st = [] ∨ st = [47]) (q1 : ∀ a, n1 = some a → a.natAbs < 2 ^ 133) (q2 : ∀ a, n2 = some a → a.natAbs < 2 ^ 133) :
    evSs P call ((B_partin num isp).drop 2) [x0, x1, some (.str st), x3, some (optD n1), some (optD n2)] s = .rt (prD (match n1, n2 with
      | some a, some b => if 0 < b ∧ lowB a b = true ∧ (st = [] ∨ b ≠ 1) then some (a, b) else none
      | _, _ => none)) s := by
  have tx : Tx st := by
    rcases ts with e | e <;> subst e
    · exact tx_nil
    · exact tx_one (by decide)
  have z := eqF_nil tx
  have hb : (B_partin num isp).drop 2 = [.ite (.or [.cmp .isN (.var 4) (.non), .cmp .isN (.var 5) (.non), .not (.call isp [.tup [.var 4, .var 5]])]) [.ret (.non)] [], .ret (.ite (.or [.cmp .eq (.var 2) (.str []), .cmp .ne (.var 5) (.int 1)]) (.tup [.var 4, .var 5]) (.non))] := rfl
  rw [hb]
  cases n1 with
  | none => simp [evSs, evS, evT, evTOr, evE, R.of, R.bind, R.st, RS.seq, cmpF, optD, prD]
  | some a =>
    cases n2 with
    | none => simp [evSs, evS, evT, evTOr, evE, R.of, R.bind, R.st, RS.seq, cmpF, optD, prD]
    | some b =>
      have i1 := h2 a b s (q1 a rfl) (q2 b rfl)
      by_cases c0 : 0 < b
      · cases c3 : lowB a b with
        | false =>
          rw [c3] at i1
          simp [evSs, evS, evT, evTOr, evE, evEs, R.of, R.bind, R.st, RS.seq, optD, cmpF, prD, i1, truF, le2, c0, c3]
        | true =>
          rw [c3] at i1
          have i1 : call isp [.tup [.int a, .int b]] s = .ok (.bl true) s := by rw [i1]; simp [c0]
          have s1 : evS P call (.ite (.or [.cmp .isN (.var 4) (.non), .cmp .isN (.var 5) (.non), .not (.call isp [.tup [.var 4, .var 5]])]) [.ret (.non)] []) [x0, x1, some (.str st), x3, some (.int a), some (.int b)] s = .nx [x0, x1, some (.str st), x3, some (.int a), some (.int b)] s := by
            simp [evSs, evS, evT, evTOr, evE, evEs, R.of, R.bind, R.st, cmpF, i1, truF, le2]
          show evSs P call _ [x0, x1, some (.str st), x3, some (.int a), some (.int b)] s = _
          rw [evSs_cons, s1, seq_nx]
          by_cases e : st = []
          · rw [decide_eq_true e] at z
            subst e
            simp [evSs, evS, evT, evTOr, evE, evEs, R.of, R.bind, R.st, RS.seq, cmpF, prD, le2, c0, z, c3]
          · rw [decide_eq_false e] at z
            by_cases e1 : b = 1
            · have n1 : eqF (.int b) (.int 1) = some true := by rw [eqF_int, decide_eq_true e1]
              have : ¬ (0 < b ∧ lowB a b = true ∧ (st = [] ∨ b ≠ 1)) := by simp [e, e1]
              simp only [this, if_false]
              simp [evSs, evS, evT, evTOr, evE, evEs, R.of, R.bind, R.st, RS.seq, cmpF, prD, le2, z, n1]
            · have n1 : eqF (.int b) (.int 1) = some false := by rw [eqF_int, decide_eq_false e1]
              have : 0 < b ∧ lowB a b = true ∧ (st = [] ∨ b ≠ 1) := ⟨c0, c3, .inr e1⟩
              simp only [this, if_true, and_self]
              simp [evSs, evS, evT, evTOr, evE, evEs, R.of, R.bind, R.st, RS.seq, cmpF, prD, le2, z, n1]
      · simp [evSs, evS, evT, evTOr, evE, evEs, R.of, R.bind, R.st, RS.seq, optD, cmpF, prD, i1, truF, le2, c0]
theorem partInOk {num isp : Nat} (hf : Is P f 1 6 (B_partin num isp)) (h1 : NumInOk (callD P k) num) (h2 : IsPartOk (callD P k) isp) : PartInOk (callD P (k + 1)) f := fun t s tx => by
  refine hf.rt rfl ?_ rfl
  show evSs P (callD P k) (B_partin num isp) [some (.str t), none, none, none, none, none] s = _
  have ok : meOk .part s (.str t) = true := rfl
  have key := par_spl t []
  have hb : B_partin num isp = .unp [1, 2, 3] (.met .part (.var 0) [.str [47]]) :: .par [4, 5] [.call num [.var 1], .ite (.cmp .ne (.var 2) (.str [])) (.call num [.var 3]) (.int 1)] :: (B_partin num isp).drop 2 := rfl
  cases q : TL.par [47] [] t with
  | none =>
    have m := part_none (s := s) tx q
    have e1 := h1 t s tx
    have z : eqF (.str []) (.str []) = some true := by rw [eqF_nil tx_nil]; rfl
    have t1 : evS P (callD P k) (.unp [1, 2, 3] (.met .part (.var 0) [.str [47]])) [some (.str t), none, none, none, none, none] s = .nx [some (.str t), some (.str t), some (.str []), some (.str []), none, none] s := by
      simp [evS, evE, evEs, R.of, R.bind, R.st, ok, m]
    have t2 : evS P (callD P k) (.par [4, 5] [.call num [.var 1], .ite (.cmp .ne (.var 2) (.str [])) (.call num [.var 3]) (.int 1)]) [some (.str t), some (.str t), some (.str []), some (.str []), none, none] s = .nx [some (.str t), some (.str t), some (.str []), some (.str []), some (optD (numIn t)), some (optD (some 1))] s := by
      simp [evS, evE, evEs, evT, R.of, R.bind, R.st, e1, cmpF, z, optD]
    rw [hb, evSs_cons, t1, seq_nx, evSs_cons, t2, seq_nx, partin_tail h2 (.inl rfl) (fun a h => num_log (numIn_small h)) (fun a h => by cases h; decide)]
    unfold partIn
    rw [q]
    cases n : numIn t with
    | none => rfl
    | some a => simp [low_1]
  | some pq =>
    obtain ⟨p, u⟩ := pq
    obtain ⟨_, r, hp, ht, _⟩ := key.2 p u q
    rw [List.nil_append] at hp
    subst hp
    have tp : Tx p := tx.sub (by rw [ht]; simp) fun c hc => by rw [ht]; simp [hc]
    have tu : Tx u := tx.sub (by rw [ht]; simp; omega) fun c hc => by rw [ht]; simp [hc]
    have m := part_some (s := s) tx q
    have e1 := h1 p s tp
    have e2 := h1 u s tu
    have z : eqF (.str [47]) (.str []) = some false := by rw [eqF_nil (tx_one (by decide))]; rfl
    have t1 : evS P (callD P k) (.unp [1, 2, 3] (.met .part (.var 0) [.str [47]])) [some (.str t), none, none, none, none, none] s = .nx [some (.str t), some (.str p), some (.str [47]), some (.str u), none, none] s := by
      simp [evS, evE, evEs, R.of, R.bind, R.st, ok, m]
    have t2 : evS P (callD P k) (.par [4, 5] [.call num [.var 1], .ite (.cmp .ne (.var 2) (.str [])) (.call num [.var 3]) (.int 1)]) [some (.str t), some (.str p), some (.str [47]), some (.str u), none, none] s = .nx [some (.str t), some (.str p), some (.str [47]), some (.str u), some (optD (numIn p)), some (optD (numIn u))] s := by
      simp [evS, evE, evEs, evT, R.of, R.bind, R.st, e1, e2, cmpF, z]
    rw [hb, evSs_cons, t1, seq_nx, evSs_cons, t2, seq_nx, partin_tail h2 (.inr rfl) (fun a h => num_log (numIn_small h)) (fun a h => num_log (numIn_small h))]
    unfold partIn
    rw [q]
    cases n1 : numIn p with
    | none => simp [n1]
    | some a =>
      cases n2 : numIn u with
      | none => simp [n1, n2]
      | some b =>
        by_cases c3 : lowB a b = true
        · by_cases c2 : 2 ≤ b
          · have c0 : 0 < b ∧ ¬ b = 1 := by omega
            simp [n1, n2, c3, c2, c0]
          · have c0 : ¬ (0 < b ∧ ¬ b = 1) := by omega
            simp [n1, n2, c3, c2, c0]
        · simp [n1, n2, c3]
def badTextT : T := [66, 97, 100, 84, 101, 120, 116]
def B_readpart (partin cT : Nat) : List S := [.set 1 (.call partin [.var 0]), .ite (.cmp .isN (.var 1) (.non)) [.raise cT [.int 0]] [], .ret (.var 1)]
def ReadPartOk (cT : Nat) (call : CallS) (f : Nat) : Prop := ∀ (t : T) (s : Stt), Tx t → call f [.str t] s = match partIn t with
  | some p => .ok (prD (some p)) s
  | none => .exc cT [.str badTextT, .int 0] s
theorem readPartOk {partin cT : Nat} (hf : Is P f 1 2 (B_readpart partin cT)) (h : PartInOk (callD P k) partin) (hc : P.xcls[cT]? = some ⟨badTextT, ["at"]⟩) : ReadPartOk cT (callD P (k + 1)) f := fun t s tx => by
  have e := h t s tx
  cases q : partIn t with
  | none =>
    rw [q] at e
    refine hf.exc (ρ := [some (.str t), some .non]) rfl ?_ rfl
    show evSs P (callD P k) (B_readpart partin cT) [some (.str t), none] s = _
    simp [B_readpart, evSs, evS, evT, evE, evEs, R.of, R.bind, R.st, RS.seq, e, prD, cmpF, hc]
  | some p =>
    rw [q] at e
    refine hf.rt rfl ?_ rfl
    show evSs P (callD P k) (B_readpart partin cT) [some (.str t), none] s = _
    simp [B_readpart, evSs, evS, evT, evE, evEs, R.of, R.bind, R.st, RS.seq, e, prD, cmpF]
/-! the law's -/
theorem split_str {t : T} {s : Stt} (h : Tx t) : meF .split s (.str t) [.str [47]] = .ok (.lst ((TL.spl [47] 0 [] t).map .str)) s := by
  have e := SX.split_S (a := t) (b := [47]) (by decide) (by decide)
  have e' : PySem.Txt.split (tS t) (tS [47]) = (TL.spl [47] 0 [] t).map tS := e
  simp only [meF]
  have hl := h.1
  rw [if_pos ⟨by decide, Nat.le_trans (show t.length + 2 ≤ 1002 by omega) (by decide)⟩, e', List.map_map]
  congr 2
def B_lpartin (lnum llow : Nat) : List S := [.set 1 (.met .split (.var 0) [.str [47]]), .set 2 (.comp false (.call lnum [.var 3]) [3] [3] .seq [.var 1] none), .ite (.or [.cmp .gt (.bi .len (.var 1)) (.int 2), .cmp .in_ (.non) (.var 2)]) [.ret (.non)] [], .ite (.cmp .eq (.bi .len (.var 1)) (.int 1)) [.ret (.tup [.ix (.var 2) (.int 0), .int 1])] [], .ite (.or [.cmp .lt (.ix (.var 2) (.int 1)) (.int 2), .cmp .ne (.call llow [.ix (.var 2) (.int 0), .ix (.var 2) (.int 1)]) (.tup [.ix (.var 2) (.int 0), .ix (.var 2) (.int 1)])]) [.ret (.non)] [], .ret (.tup [.ix (.var 2) (.int 0), .ix (.var 2) (.int 1)])]
theorem spl_all (t : T) : ∀ (n : Nat) (acc : T), t.length ≤ n → (∀ u ∈ TL.spl [47] 0 acc t, u.length ≤ acc.length + t.length ∧ ∀ c ∈ u, c ∈ acc ∨ c ∈ t) ∧ (TL.spl [47] 0 acc t).length ≤ t.length + 1 := by
  induction t with
  | nil =>
    intro n acc _
    rw [TL.spl_nil]
    refine ⟨fun u hu => ?_, by simp⟩
    rw [List.mem_singleton.mp hu]
    exact ⟨by simp, fun c hc => .inl hc⟩
  | cons c r ih =>
    intro n acc hn
    by_cases e : c = 47
    · subst e
      have hp : TL.pre [47] (47 :: r) = true := by simp [TL.pre]
      rw [TL.spl_hit hp]
      obtain ⟨h1, h2⟩ := ih r.length [] (Nat.le_refl _)
      refine ⟨fun u hu => ?_, by simpa using h2⟩
      rcases List.mem_cons.mp hu with e | hu
      · rw [e]
        exact ⟨by simp, fun c hc => .inl hc⟩
      · have := h1 u hu
        exact ⟨by have := this.1; simp at this ⊢; omega, fun c hc => by
          rcases this.2 c hc with z | z
          · cases z
          · exact .inr (List.mem_cons_of_mem _ z)⟩
    · have hp : TL.pre [47] (c :: r) = false := by simp [TL.pre, e]
      rw [TL.spl_miss hp]
      obtain ⟨h1, h2⟩ := ih r.length (acc ++ [c]) (Nat.le_refl _)
      refine ⟨fun u hu => ?_, by simp; omega⟩
      have := h1 u hu
      exact ⟨by have := this.1; simp at this ⊢; omega, fun d hd => by
        rcases this.2 d hd with z | z
        · rcases List.mem_append.mp z with z | z
          · exact .inl z
          · rw [List.mem_singleton.mp z]
            exact .inr (by simp)
        · exact .inr (List.mem_cons_of_mem _ z)⟩
theorem spl_ne : ∀ (t acc : T), TL.spl [47] 0 acc t ≠ []
  | [], acc => by rw [TL.spl_nil]; simp
  | c :: r, acc => by
    by_cases e : c = 47
    · subst e
      have hp : TL.pre [47] (47 :: r) = true := by simp [TL.pre]
      rw [TL.spl_hit hp]
      simp
    · have hp : TL.pre [47] (c :: r) = false := by simp [TL.pre, e]
      rw [TL.spl_miss hp]
      exact spl_ne r _
theorem nons_opt : ∀ os : List (Option Int), nonsF (os.map optD) = some (os.map Option.isNone)
  | [] => rfl
  | none :: os => by simp [nonsF, optD, nons_opt os]
  | some i :: os => by simp [nonsF, optD, nons_opt os]
theorem lpartInOk {lnum llow : Nat} (hf : Is P f 1 4 (B_lpartin lnum llow)) (h1 : NumInOk (callD P k) lnum) (h2 : LowOk (callD P k) llow) : PartInOk (callD P (k + 1)) f := fun t s tx => by
  refine hf.rt rfl ?_ rfl
  show evSs P (callD P k) (B_lpartin lnum llow) [some (.str t), none, none, none] s = _
  have ok : meOk .split s (.str t) = true := rfl
  have m := split_str (s := s) tx
  obtain ⟨sp1, sp2⟩ := spl_all t t.length [] (Nat.le_refl _)
  have txs : ∀ u ∈ TL.spl [47] 0 [] t, Tx u := fun u hu => tx.sub (by have := (sp1 u hu).1; simpa using this) fun c hc => ((sp1 u hu).2 c hc).resolve_left (by simp)
  have key := par_spl t []
  generalize hr : TL.spl [47] 0 [] t = rows at *
  have c1 := comp_map (P := P) (call := callD P k) (e := .call lnum [.var 3]) (v := 3) (k := .seq) (src := [.var 1]) (ρ := [some (.str t), some (.lst (rows.map .str)), none, none]) (s := s) (ds := [.lst (rows.map .str)]) (xs := rows.map .str) (fun d => match d with
    | .str u => optD (numIn u)
    | _ => .non) (by simp [evEs, evE, R.of, R.bind]) rfl (by
      rw [List.length_map]
      have := tx.1
      exact Nat.le_trans (show rows.length ≤ 1001 by omega) (by decide)) fun x hx => by
      obtain ⟨u, hu, rfl⟩ := List.mem_map.mp hx
      have := h1 u s (txs u hu)
      simp [evE, evEs, R.of, R.bind, this]
  have c2 : ((rows.map D.str).map fun d => match d with
    | .str u => optD (numIn u)
    | _ => .non) = (rows.map numIn).map optD := by
    rw [List.map_map, List.map_map]
    rfl
  rw [c2] at c1
  have t1 : evS P (callD P k) (.set 1 (.met .split (.var 0) [.str [47]])) [some (.str t), none, none, none] s = .nx [some (.str t), some (.lst (rows.map .str)), none, none] s := by
    simp [evS, evE, evEs, R.of, R.bind, R.st, ok, m]
  have t2 : evS P (callD P k) (.set 2 (.comp false (.call lnum [.var 3]) [3] [3] .seq [.var 1] none)) [some (.str t), some (.lst (rows.map .str)), none, none] s = .nx [some (.str t), some (.lst (rows.map .str)), some (.lst ((rows.map numIn).map optD)), none] s := by
    rw [evS, c1, st_ok]
    rfl
  have ln : biF .len s (.lst (rows.map .str)) = some (.int rows.length) := by simp [biF, itemsF]
  rw [B_lpartin, evSs_cons, t1, seq_nx, evSs_cons, t2, seq_nx]
  have inn : inD .non (.lst ((rows.map numIn).map optD)) = some (((rows.map numIn).map Option.isNone).any id) := by
    have z : inF .non ((rows.map numIn).map optD) = some (((rows.map numIn).map Option.isNone).any id) := by
      show (nonsF _).map _ = _
      rw [nons_opt]
      rfl
    show (match inF .non ((rows.map numIn).map optD) with
      | some k => some k
      | none => _) = _
    rw [z]
  cases q : TL.par [47] [] t with
  | none =>
    obtain ⟨_, k2⟩ := key.1 q
    rw [List.nil_append] at k2
    rw [k2] at inn ln ⊢
    unfold partIn
    rw [q]
    cases n : numIn t with
    | none =>
      simp [n] at inn
      have i2 : inD .non (.lst [optD none]) = some true := inn
      have l5 : biF .len s (.lst [.str t]) = some (.int 1) := ln
      simp only [List.map_cons, List.map_nil, n]
      simp [evSs, evS, evT, evTOr, evE, R.of, R.bind, R.st, RS.seq, l5, cmpF, i2, prD]
    | some a =>
      simp [n] at inn
      have i2 : inD .non (.lst [.int a]) = some false := inn
      have l5 : biF .len s (.lst [.str t]) = some (.int 1) := ln
      have i0 : ixF s (.lst [.int a]) (.int 0) = some (.int a) := rfl
      simp only [List.map_cons, List.map_nil, n, optD]
      simp [evSs, evS, evT, evTOr, evE, evEs, R.of, R.bind, R.st, RS.seq, l5, cmpF, i2, i0, prD, eqF_int, le2]
  | some pq =>
    obtain ⟨p, u⟩ := pq
    obtain ⟨k2, r, k3, ht, k4⟩ := key.2 p u q
    have k5 := par_spl u []
    have pt : partIn t = (match numIn p, numIn u with
      | some a, some b => if 2 ≤ b ∧ lowB a b = true then some (a, b) else none
      | _, _ => none) := by
      unfold partIn
      rw [q]
    rw [pt]
    cases q2 : TL.par [47] [] u with
    | some pq2 =>
      obtain ⟨p2, u2⟩ := pq2
      obtain ⟨k6, r2, _, h2', _⟩ := k5.2 p2 u2 q2
      have nu : numIn u = none := by
        cases z : numIn u with
        | none => rfl
        | some i => exact absurd (by rw [h2']; simp) (numIn_free z)
      have l3 : 2 < rows.length := by
        rw [k2, k6]
        have := TL.spl_nil
        cases z : TL.spl [47] 0 [] u2 with
        | nil => exact absurd (congrArg List.length z) (by have := spl_ne u2 []; intro e; exact this (List.eq_nil_of_length_eq_zero e))
        | cons _ _ => simp
      have l4 : (2 : Int) < rows.length := by omega
      have pn : (match numIn p, numIn u with
        | some a, some b => if 2 ≤ b ∧ lowB a b = true then some (a, b) else none
        | _, _ => none) = (none : Option (Int × Int)) := by
        rw [nu]
        cases numIn p <;> rfl
      rw [pn]
      simp [evSs, evS, evT, evTOr, evE, R.of, R.bind, R.st, RS.seq, ln, cmpF, l4, prD]
    | none =>
      obtain ⟨_, k6⟩ := k5.1 q2
      rw [k6, List.nil_append] at k2
      rw [k2] at inn ln ⊢
      have l5 : biF .len s (.lst ([p, u].map D.str)) = some (.int 2) := ln
      cases n1 : numIn p with
      | none =>
        simp [n1] at inn
        have i2 : inD .non (.lst [optD none, optD (numIn u)]) = some true := inn
        simp only [List.map_cons, List.map_nil] at l5 ⊢
        simp only [n1]
        simp [evSs, evS, evT, evTOr, evE, R.of, R.bind, R.st, RS.seq, l5, cmpF, i2, prD]
      | some a =>
        cases n2 : numIn u with
        | none =>
          simp [n1, n2] at inn
          have i2 : inD .non (.lst [optD (some a), optD none]) = some true := inn
          simp only [List.map_cons, List.map_nil] at l5 ⊢
          simp only [n1, n2]
          simp [evSs, evS, evT, evTOr, evE, R.of, R.bind, R.st, RS.seq, l5, cmpF, i2, prD]
        | some b =>
          simp [n1, n2] at inn
          have i2 : inD .non (.lst [.int a, .int b]) = some false := inn
          have i0 : ixF s (.lst [.int a, .int b]) (.int 0) = some (.int a) := rfl
          have i1 : ixF s (.lst [.int a, .int b]) (.int 1) = some (.int b) := rfl
          simp only [List.map_cons, List.map_nil] at l5 ⊢
          simp only [n1, n2, optD]
          by_cases c : 2 ≤ b
          · have c1 : ¬ b < 2 := by omega
            have e := h2 a b 133 s (by omega) (num_log (numIn_small n1)) (num_log (numIn_small n2)) (by decide)
            cases c3 : lowB a b with
            | true =>
              have eq := eq_low (a := a) (b := b)
              rw [c3] at eq
              simp [evSs, evS, evT, evTOr, evE, evEs, R.of, R.bind, R.st, RS.seq, l5, cmpF, i2, i0, i1, prD, eqF_int, c, c1, e, eq, le2, c3]
            | false =>
              have eq := eq_low (a := a) (b := b)
              rw [c3] at eq
              simp [evSs, evS, evT, evTOr, evE, evEs, R.of, R.bind, R.st, RS.seq, l5, cmpF, i2, i0, i1, prD, eqF_int, c, c1, e, eq, le2, c3]
          · have c1 : b < 2 := by omega
            simp [evSs, evS, evT, evTOr, evE, evEs, R.of, R.bind, R.st, RS.seq, l5, cmpF, i2, i0, i1, prD, eqF_int, c, c1]
end
end G

set_option Elab.async false
set_option linter.all false
set_option maxRecDepth 100000
namespace G
open PySem L2
/-! a part's text, a bent text -/
def partT (q : Rat) : T := if q.den = 1 then intT q.num else intT q.num ++ 47 :: intT q.den
theorem int_tx {i : Int} (h : i.natAbs < 10 ^ 40) : Tx (intT i) ∧ (intT i).length ≤ 41 ∧ 47 ∉ intT i := by
  by_cases c : 0 ≤ i
  · obtain ⟨n, rfl⟩ := Int.eq_ofNat_of_zero_le c
    rw [intT_nat]
    have hl : (numL n).length ≤ 40 := TL.numL_len (by decide) (by simpa using h)
    exact ⟨⟨by omega, fun d hd => by have := TL.numL_digits n d hd; omega⟩, by omega, TL.numL_free (by decide)⟩
  · obtain ⟨n, rfl⟩ : ∃ n : Nat, i = -(n : Int) := ⟨i.natAbs, by omega⟩
    rw [intT_neg (by omega)]
    have hl : (numL n).length ≤ 40 := TL.numL_len (by decide) (by simpa using h)
    have hf : 47 ∉ numL n := TL.numL_free (by decide)
    refine ⟨⟨by rw [List.length_cons]; omega, fun d hd => ?_⟩, by rw [List.length_cons]; omega, by simp [hf]⟩
    rcases List.mem_cons.mp hd with e | hd
    · omega
    · have := TL.numL_digits n d hd; omega
theorem small_of {n : Nat} (h : n < 2 ^ 130) : n < 10 ^ 40 := Nat.lt_trans h (by decide)
theorem part_tx {q : Rat} (h : Sz 130 q) : Tx (partT q) ∧ (partT q).length ≤ 83 := by
  obtain ⟨a1, a2, _⟩ := int_tx (small_of h.1)
  obtain ⟨b1, b2, _⟩ := int_tx (i := (q.den : Int)) (small_of (by simpa using h.2))
  unfold partT
  split
  · exact ⟨a1, by omega⟩
  · have b3 : Tx (47 :: intT q.den) := ⟨by rw [List.length_cons]; omega, fun c hc => by
      rcases List.mem_cons.mp hc with e | hc
      · omega
      · exact b1.2 c hc⟩
    exact ⟨a1.app b3 (by rw [List.length_cons]; omega), by rw [List.length_append, List.length_cons]; omega⟩
theorem par_free : ∀ {a : T} (acc : T), 47 ∉ a → TL.par [47] acc a = none
  | [], _, _ => rfl
  | c :: r, acc, h => by
    have e : ¬ c = 47 := fun e => h (by simp [e])
    have hp : TL.pre [47] (c :: r) = false := by simp [TL.pre, e]
    rw [TL.par, if_neg (by rw [hp]; decide)]
    exact par_free _ fun q => h (by simp [q])
theorem par_mid : ∀ {a : T} (acc b : T), 47 ∉ a → TL.par [47] acc (a ++ 47 :: b) = some (acc ++ a, b)
  | [], acc, b, _ => by
    have hp : TL.pre [47] (47 :: b) = true := by simp [TL.pre]
    rw [List.nil_append, TL.par, if_pos hp]
    simp
  | c :: r, acc, b, h => by
    have e : ¬ c = 47 := fun e => h (by simp [e])
    have hp : TL.pre [47] (c :: (r ++ 47 :: b)) = false := by simp [TL.pre, e]
    rw [List.cons_append, TL.par, if_neg (by rw [hp]; decide), par_mid _ _ fun q => h (by simp [q])]
    simp
theorem low_q (q : Rat) : lowB q.num q.den = true := by
  unfold lowB
  have : Rat.divInt q.num q.den = q := Rat.num_divInt_den q
  rw [this]
  simp
/-- read back -/
theorem partIn_partT {q : Rat} (h : Sz 130 q) : partIn (partT q) = some (q.num, (q.den : Int)) := by
  have n1 := numIn_int (small_of h.1)
  have n2 := numIn_int (i := (q.den : Int)) (small_of (by simpa using h.2))
  obtain ⟨_, _, f1⟩ := int_tx (small_of h.1)
  unfold partT
  split
  · rename_i e
    unfold partIn
    rw [par_free [] f1, n1, e]
    rfl
  · rename_i e
    have d0 := q.den_pos
    unfold partIn
    rw [par_mid [] _ f1, List.nil_append]
    simp only [n1, n2]
    rw [if_pos ⟨by omega, low_q q⟩]
section
variable {P : Prog} {k f : Nat}
def PartTextOk (call : CallS) (f : Nat) : Prop := ∀ (q : Rat) (s : Stt), Sz 130 q → call f [qD q] s = .ok (.str (partT q)) s
def B_ptext : List S := [.ret (.ite (.cmp .eq (.ix (.var 0) (.int 1)) (.int 1)) (.bi .str (.ix (.var 0) (.int 0))) (.fstr [.fmt (.ix (.var 0) (.int 0)), .str [47], .fmt (.ix (.var 0) (.int 1))]))]
theorem ptextOk (hf : Is P f 1 1 B_ptext) : PartTextOk (callD P (k + 1)) f := fun q s h => by
  refine hf.rt rfl ?_ rfl
  show evSs P (callD P k) B_ptext [some (qD q)] s = _
  have e1 := str_int (s := s) h.1 (by decide)
  have e2 := fmt_int h.1 (by decide)
  have e3 := fmt_int (i := (q.den : Int)) (n := 130) (by simpa using h.2) (by decide)
  obtain ⟨_, l1, _⟩ := int_tx (small_of h.1)
  obtain ⟨_, l2, _⟩ := int_tx (i := (q.den : Int)) (small_of (by simpa using h.2))
  unfold partT
  by_cases c : q.den = 1
  · have c' : eqF (.int q.den) (.int 1) = some true := by rw [eqF_int, c]; rfl
    rw [if_pos c]
    simp [B_ptext, evSs, evS, evT, evE, R.of, R.bind, R.st, RS.seq, ix_q0, ix_q1, cmpF, c', e1]
  · have c' : eqF (.int q.den) (.int 1) = some false := by rw [eqF_int]; simp; omega
    rw [if_neg c]
    have s1 : (intT q.num).length ≤ sizeLine := Nat.le_trans l1 (by decide)
    have s2 : (intT q.num).length + 1 ≤ sizeLine := Nat.le_trans (show _ ≤ 42 by omega) (by decide)
    have s3 : (intT q.num).length + 1 + (intT q.den).length ≤ sizeLine := Nat.le_trans (show _ ≤ 83 by omega) (by decide)
    have s4 : (intT q.num).length + ((intT q.den).length + 1) ≤ sizeLine := by omega
    simp [B_ptext, evSs, evS, evT, evE, evFs, R.of, R.bind, R.st, RS.seq, ix_q0, ix_q1, cmpF, c', e2, e3, s1, s2, s3, s4]
def B_lptext : List S := [.ret (.bin .add (.bi .str (.ix (.var 0) (.int 0))) (.ite (.cmp .eq (.ix (.var 0) (.int 1)) (.int 1)) (.str []) (.bin .add (.str [47]) (.bi .str (.ix (.var 0) (.int 1))))))]
theorem lptextOk (hf : Is P f 1 1 B_lptext) : PartTextOk (callD P (k + 1)) f := fun q s h => by
  refine hf.rt rfl ?_ rfl
  show evSs P (callD P k) B_lptext [some (qD q)] s = _
  have e1 := str_int (s := s) h.1 (by decide)
  have e3 := str_int (s := s) (i := (q.den : Int)) (n := 130) (by simpa using h.2) (by decide)
  obtain ⟨_, l1, _⟩ := int_tx (small_of h.1)
  obtain ⟨_, l2, _⟩ := int_tx (i := (q.den : Int)) (small_of (by simpa using h.2))
  unfold partT
  by_cases c : q.den = 1
  · have c' : eqF (.int q.den) (.int 1) = some true := by rw [eqF_int, c]; rfl
    rw [if_pos c]
    have a1 := add_str (a := intT q.num) (b := []) (by rw [List.length_nil]; omega)
    simp at a1
    simp [B_lptext, evSs, evS, evT, evE, R.of, R.bind, R.st, RS.seq, ix_q0, ix_q1, cmpF, c', e1, a1]
  · have c' : eqF (.int q.den) (.int 1) = some false := by rw [eqF_int]; simp; omega
    rw [if_neg c]
    have a1 := add_str (a := [47]) (b := intT q.den) (by rw [List.length_singleton]; omega)
    have a2 := add_str (a := intT q.num) (b := 47 :: intT q.den) (by rw [List.length_cons]; omega)
    simp at a1
    simp [B_lptext, evSs, evS, evT, evE, R.of, R.bind, R.st, RS.seq, ix_q0, ix_q1, cmpF, c', e1, e3, a1, a2]
theorem cut_toI {t : T} {v : Int} (h : 0 ≤ v) : cut t none (some v) = t.take v.toNat := by
  obtain ⟨n, rfl⟩ := Int.eq_ofNat_of_zero_le h
  unfold cut
  rw [HT.sIx_nat, HT.sIx_none, Int.toNat_natCast]
  show (t.drop 0).take (min n t.length - 0) = _
  simp [List.take_eq_take_iff]
theorem cut_fromI {t : T} {v : Int} (h : 0 ≤ v) : cut t (some v) none = t.drop v.toNat := by
  obtain ⟨n, rfl⟩ := Int.eq_ofNat_of_zero_le h
  unfold cut
  rw [HT.sIx_nat, HT.sIx_none, Int.toNat_natCast]
  have e : t.drop (min n t.length) = t.drop n := by
    by_cases c : n ≤ t.length
    · rw [Nat.min_eq_left c]
    · rw [Nat.min_eq_right (by omega), List.drop_length, List.drop_eq_nil_of_le (by omega)]
  rw [← List.length_drop, List.take_length, e]
def B_bent (pull of : Nat) : List S := [.set 3 (.call pull [.var 0, .bin .add (.bi .len (.var 1)) (.int 1)]), .set 4 (.call of [.var 0, .var 2]), .set 5 (.call pull [.var 0, .int 6]), .set 6 (.lst false [.var 1, .bin .add (.bin .add (.sl (.var 1) none (some (.var 3))) (.var 4)) (.sl (.var 1) (some (.var 3)) none), .bin .add (.sl (.var 1) none (some (.var 3))) (.sl (.var 1) (some (.bin .add (.var 3) (.int 1))) none), .bin .add (.bin .add (.sl (.var 1) none (some (.var 3))) (.var 4)) (.sl (.var 1) (some (.bin .add (.var 3) (.int 1))) none)]), .ret (.ix (.bin .add (.var 6) (.lst false [.bin .add (.var 1) (.var 4), .bin .add (.var 4) (.var 1)])) (.var 5))]
def BentOk (call : CallS) (f : Nat) : Prop := ∀ (b : Cell) (rest : Stt) (t : T) (xs : List T), BagOK b → Tx t → t.length ≤ 990 → 0 < xs.length → xs.length ≤ 1000 → (∀ u ∈ xs, Tx u ∧ u.length ≤ 1) → Draw (call f [.ref 0, .str t, .lst (xs.map .str)] (b :: rest)) rest fun d => ∃ u, d = .str u ∧ Tx u ∧ u.length ≤ t.length + 1
theorem bentOk {pull of : Nat} (hf : Is P f 3 7 (B_bent pull of)) (hp : PullOk (callD P k) pull) (ho : OfOk (callD P k) of) : BentOk (callD P (k + 1)) f := fun b rest t xs ob tx hl x0 x1 hx => by
  obtain ⟨v, b1, e1, o1, gv, lv⟩ := hp b rest (t.length + 1) 11 ob (by omega) (by rw [show (2 : Nat) ^ 11 = 2048 by decide]; omega) (by decide)
  obtain ⟨d, b2, e2, o2, hd⟩ := ho b1 rest (xs.map .str) o1 (by simpa using x0) (by rw [List.length_map]; omega)
  obtain ⟨u, hu, rfl⟩ := List.mem_map.mp hd
  obtain ⟨tu, lu⟩ := hx u hu
  obtain ⟨w, b3, e3, o3, gw, lw⟩ := hp b2 rest 6 3 o2 (by decide) (by decide) (by decide)
  have c1 := sl_cut tx none (some v)
  rw [cut_toI gv] at c1
  have c2 := sl_cut tx (some v) none
  rw [cut_fromI gv] at c2
  have c3 := sl_cut tx (some (v + 1)) none
  rw [cut_fromI (by omega)] at c3
  have p1 : (t.take v.toNat).length = v.toNat := by rw [List.length_take]; omega
  have p2 : (t.drop v.toNat).length = t.length - v.toNat := List.length_drop
  have p3 : (t.drop (v + 1).toNat).length = t.length - (v + 1).toNat := List.length_drop
  have x1' := tx.take v.toNat
  have x2' := tx.drop v.toNat
  have x3' := tx.drop (v + 1).toNat
  have a1 := add_str (a := t.take v.toNat) (b := u) (by omega)
  have a2 := add_str (a := t.take v.toNat ++ u) (b := t.drop v.toNat) (by rw [List.length_append]; omega)
  have a3 := add_str (a := t.take v.toNat) (b := t.drop (v + 1).toNat) (by omega)
  have a4 := add_str (a := t.take v.toNat ++ u) (b := t.drop (v + 1).toNat) (by rw [List.length_append]; omega)
  have a5 := add_str (a := t) (b := u) (by omega)
  have a6 := add_str (a := u) (b := t) (by omega)
  have q1 := x1'.app tu (by omega)
  have q2 := q1.app x2' (by rw [List.length_append]; omega)
  have q3 := x1'.app x3' (by omega)
  have q4 := q1.app x3' (by rw [List.length_append]; omega)
  have q5 := tx.app tu (by omega)
  have q6 := tu.app tx (by omega)
  have l2 : (t.take v.toNat ++ u ++ t.drop v.toNat).length ≤ t.length + 1 := by rw [List.length_append, List.length_append]; omega
  have l3 : (t.take v.toNat ++ t.drop (v + 1).toNat).length ≤ t.length + 1 := by rw [List.length_append]; omega
  have l4 : (t.take v.toNat ++ u ++ t.drop (v + 1).toNat).length ≤ t.length + 1 := by rw [List.length_append, List.length_append]; omega
  have l5 : (t ++ u).length ≤ t.length + 1 := by rw [List.length_append]; omega
  have l6 : (u ++ t).length ≤ t.length + 1 := by rw [List.length_append]; omega
  generalize hy2 : t.take v.toNat ++ u ++ t.drop v.toNat = y2 at *
  generalize hy3 : t.take v.toNat ++ t.drop (v + 1).toNat = y3 at *
  generalize hy4 : t.take v.toNat ++ u ++ t.drop (v + 1).toNat = y4 at *
  generalize hy1 : t.take v.toNat ++ u = y1 at *
  generalize hy5 : t ++ u = y5 at *
  generalize hy6 : u ++ t = y6 at *
  have six : ∃ y, ([t, y2, y3, y4, y5, y6].map D.str)[w.toNat]? = some (.str y) ∧ Tx y ∧ y.length ≤ t.length + 1 := by
    have : w.toNat < 6 := by omega
    generalize w.toNat = j at this
    match j, this with
    | 0, _ => exact ⟨_, rfl, tx, by omega⟩
    | 1, _ => exact ⟨_, rfl, q2, l2⟩
    | 2, _ => exact ⟨_, rfl, q3, l3⟩
    | 3, _ => exact ⟨_, rfl, q4, l4⟩
    | 4, _ => exact ⟨_, rfl, q5, l5⟩
    | 5, _ => exact ⟨_, rfl, q6, l6⟩
  obtain ⟨y, hy, ty, ly⟩ := six
  have ix : ixF (b3 :: rest) (.lst [.str t, .str y2, .str y3, .str y4, .str y5, .str y6]) (.int w) = some (.str y) := atI_of gw hy
  have ad : binF .add (.lst [.str t, .str y2, .str y3, .str y4]) (.lst [.str y5, .str y6]) = some (.lst [.str t, .str y2, .str y3, .str y4, .str y5, .str y6]) := by
    simp only [binF]
    exact if_pos (show 6 ≤ sizeLine by decide)
  refine ⟨.str y, b3, hf.rt rfl ?_ rfl, o3, y, rfl, ty, ly⟩
  show evSs P (callD P k) (B_bent pull of) [some (.ref 0), some (.str t), some (.lst (xs.map .str)), none, none, none, none] (b :: rest) = _
  simp only [B_bent, evSs, evS, evE, evEs, evO, R.of, R.bind, R.st, RS.seq, List.getElem?_cons_zero, List.getElem?_cons_succ, Option.join_some, len_str tx, bin_add, e1, e2, e3, List.set_cons_succ, List.set_cons_zero, c1, c2, c3, a1, a2, a3, a4, a5, a6, List.length_cons, List.length_nil, Nat.zero_add, Nat.reduceAdd, le2, le4, if_true, ad, ix]
end
end G

set_option Elab.async false
set_option linter.all false
set_option maxRecDepth 100000
set_option exponentiation.threshold 300
namespace G
open PySem L2
/-! pairs, in lowest terms or not -/
def pD (z : Int × Int) : D := .tup [.int z.1, .int z.2]
def PrOk (z : Int × Int) : Prop := z.2 ≠ 0 ∧ z.1.natAbs < 2 ^ 200 ∧ z.2.natAbs < 2 ^ 200
def qq (z : Int × Int) : Rat := Rat.divInt z.1 z.2
def isp (z : Int × Int) : Bool := decide (0 < z.2) && decide (((qq z).num, ((qq z).den : Int)) = z)
theorem eqF_pD {x y : Int × Int} : eqF (pD x) (pD y) = some (decide (x = y)) := by
  have h : ∀ p : Int × Int, SeqAt.shaped (PyData.tuple [.int p.1, .int p.2]) = true := fun p => by simp [SeqAt.shaped, PyData.canLay0, PyData.canLayAll0, PyData.depth, PyData.depthAll]
  have e : ∀ p : Int × Int, (pD p).toP = some (PyData.tuple [.int p.1, .int p.2]) := fun p => rfl
  simp only [eqF, e, h, and_self, if_true, PyData.eqv, PyData.eqvAll, Bool.and_true, Option.some.injEq]
  obtain ⟨a, b⟩ := x
  obtain ⟨c, d⟩ := y
  by_cases h1 : a = c <;> by_cases h2 : b = d <;> simp [h1, h2]
theorem qD_pD {q : Rat} : qD q = pD (q.num, (q.den : Int)) := rfl
theorem isp_eq {z : Int × Int} (h : isp z = true) : pD z = qD (qq z) := by
  simp only [isp, Bool.and_eq_true, decide_eq_true_eq] at h
  rw [qD_pD, h.2]
theorem ix_pD0 {s : Stt} {z : Int × Int} : ixF s (pD z) (.int 0) = some (.int z.1) := rfl
theorem ix_pD1 {s : Stt} {z : Int × Int} : ixF s (pD z) (.int 1) = some (.int z.2) := rfl
/-! fours -/
def Thing (zs : List (Int × Int)) : Prop := zs.length ≤ 1000 ∧ ∀ z ∈ zs, PrOk z
def thD (zs : List (Int × Int)) : D := .tup (zs.map pD)
def discB (zs : List (Int × Int)) : Bool := match zs with
  | [a, b, c, d] => zs.all isp && (decide (qq b ≠ 0) && decide (qq c * qq c + qq d * qq d - qq b * qq a = 1))
  | _ => false
def fB : D → D
  | .tup [.int a, .int b] => .bl (isp (a, b))
  | _ => .non
theorem fB_pD {z : Int × Int} : fB (pD z) = .bl (isp z) := rfl
theorem fB_map (zs : List (Int × Int)) : (zs.map pD).map fB = zs.map fun z => .bl (isp z) := by
  rw [List.map_map]
  rfl
theorem bools_map {α : Type} (f : α → Bool) : ∀ l : List α, bools (l.map fun z => .bl (f z)) = some (l.map f)
  | [] => rfl
  | z :: l => by simp [bools, bools_map f l]
theorem allB {s : Stt} (zs : List (Int × Int)) : biF .all s (.lst (zs.map fun z => .bl (isp z))) = some (.bl (zs.all isp)) := by
  simp only [biF, listF, Option.bind_some, bools_map, Option.map_some]
  congr 2
  induction zs with
  | nil => rfl
  | cons z l ih => simp_all
theorem PrOk.sz {z : Int × Int} (h : PrOk z) : SzC 200 (qq z) := ⟨Sz.divInt h.1 h.2.1 h.2.2⟩
theorem thD_q {a b c d : Int × Int} (h : [a, b, c, d].all isp = true) : thD [a, b, c, d] = discD ⟨qq a, qq b, qq c, qq d⟩ := by
  simp only [List.all_cons, List.all_nil, Bool.and_true, Bool.and_eq_true] at h
  show D.tup [pD a, pD b, pD c, pD d] = _
  rw [isp_eq h.1, isp_eq h.2.1, isp_eq h.2.2.1, isp_eq h.2.2.2]
  rfl
theorem len_th {s : Stt} (zs : List (Int × Int)) : biF .len s (thD zs) = some (.int zs.length) := by
  show some (D.int ((zs.map pD).length : Nat)) = _
  rw [List.length_map]
theorem four_of {zs : List (Int × Int)} (h : zs.length = 4) : ∃ a b c d, zs = [a, b, c, d] := by
  match zs, h with
  | [a, b, c, d], _ => exact ⟨a, b, c, d, rfl⟩
theorem discB_no {zs : List (Int × Int)} (h : zs.length ≠ 4) : discB zs = false := by
  match zs, h with
  | [], _ => rfl
  | [_], _ => rfl
  | [_, _], _ => rfl
  | [_, _, _], _ => rfl
  | [_, _, _, _], h => exact absurd rfl h
  | _ :: _ :: _ :: _ :: _ :: _, _ => rfl
def B_ispart' (low : Nat) : List S := [.ret (.and [.cmp .gt (.ix (.var 0) (.int 1)) (.int 0), .cmp .eq (.call low [.ix (.var 0) (.int 0), .ix (.var 0) (.int 1)]) (.var 0)])]
def IsPOk (call : CallS) (f : Nat) : Prop := ∀ (z : Int × Int) (s : Stt), PrOk z → call f [pD z] s = .ok (.bl (isp z)) s
section
variable {P : Prog} {k f : Nat}
theorem isPOk {low : Nat} (hf : Is P f 1 1 (B_ispart' low)) (hl : LowOk (callD P k) low) : IsPOk (callD P (k + 1)) f := fun z s h => by
  refine hf.rt rfl ?_ rfl
  have e := hl z.1 z.2 200 s h.1 h.2.1 h.2.2 (by decide)
  show evSs P (callD P k) (B_ispart' low) [some (pD z)] s = _
  by_cases c : 0 < z.2
  · have e : callD P k low [.int z.1, .int z.2] s = .ok (pD ((qq z).num, ((qq z).den : Int))) s := e
    simp [B_ispart', evSs, evS, evE, evAnd, evEs, R.of, R.bind, R.st, RS.seq, ix_pD0, ix_pD1, cmpF, c, e, eqF_pD, isp]
  · simp [B_ispart', evSs, evS, evE, evAnd, evEs, R.of, R.bind, R.st, RS.seq, ix_pD0, ix_pD1, cmpF, c, isp]
def B_lispart (low : Nat) : List S := [.ret (.and [.cmp .gt (.ix (.var 0) (.int 1)) (.int 0), .cmp .eq (.call low [.ix (.var 0) (.int 0), .ix (.var 0) (.int 1)]) (.tup [.ix (.var 0) (.int 0), .ix (.var 0) (.int 1)])])]
theorem lisPOk {low : Nat} (hf : Is P f 1 1 (B_lispart low)) (hl : LowOk (callD P k) low) : IsPOk (callD P (k + 1)) f := fun z s h => by
  refine hf.rt rfl ?_ rfl
  have e := hl z.1 z.2 200 s h.1 h.2.1 h.2.2 (by decide)
  have e2 : ∀ a b : Int, D.tup [.int a, .int b] = pD (a, b) := fun _ _ => rfl
  show evSs P (callD P k) (B_lispart low) [some (pD z)] s = _
  by_cases c : 0 < z.2
  · have e : callD P k low [.int z.1, .int z.2] s = .ok (pD ((qq z).num, ((qq z).den : Int))) s := e
    obtain ⟨z1, z2⟩ := z
    simp [B_lispart, evSs, evS, evE, evAnd, evEs, R.of, R.bind, R.st, RS.seq, ix_pD0, ix_pD1, cmpF, c, e, e2, eqF_pD, isp, le2]
  · simp [B_lispart, evSs, evS, evE, evAnd, evEs, R.of, R.bind, R.st, RS.seq, ix_pD0, ix_pD1, cmpF, c, isp]
def B_squares (plus times : Nat) : List S := [.ret (.call plus [.call times [.var 0, .var 0], .call times [.var 1, .var 1]])]
def SqOk (call : CallS) (f : Nat) : Prop := ∀ (p q : Rat) (m n : Nat) (s : Stt), SzC m p → SzC n q → m + m + (n + n) + 1 < 9000 → call f [qD p, qD q] s = .ok (qD (p * p + q * q)) s
theorem squaresOk {plus times : Nat} (hf : Is P f 2 2 (B_squares plus times)) (h1 : OpOk (· + ·) (callD P k) plus) (h2 : OpOk (· * ·) (callD P k) times) : SqOk (callD P (k + 1)) f := fun p q m n s hp hq h => by
  refine hf.rt rfl ?_ rfl
  haveI := hp
  haveI := hq
  have x1 := h2.run (p := p) (q := p) (s := s) (by omega)
  have x2 := h2.run (p := q) (q := q) (s := s) (by omega)
  have x3 := h1.run (p := p * p) (q := q * q) (s := s) (by omega)
  show evSs P (callD P k) (B_squares plus times) [some (qD p), some (qD q)] s = _
  simp [B_squares, evSs, evS, evE, evEs, R.of, R.bind, R.st, RS.seq, x1, x2, x3]
def B_isdisc (ispart squares times less cN cO : Nat) : List S := [.ite (.or [.cmp .ne (.bi .len (.var 0)) (.int 4), .not (.bi .all (.comp false (.call ispart [.var 1]) [1] [1] .seq [.var 0] none))]) [.ret (.bl false)] [], .unp [2, 3, 4, 5] (.var 0), .ret (.and [.cmp .ne (.var 3) (.glob cN), .cmp .eq (.call less [.call squares [.var 4, .var 5], .call times [.var 3, .var 2]]) (.glob cO)])]
def IsDiscOk (call : CallS) (f : Nat) : Prop := ∀ (zs : List (Int × Int)) (s : Stt), Thing zs → call f [thD zs] s = .ok (.bl (discB zs)) s
theorem isDiscOk {ispart squares times less cN cO : Nat} {nN nO : Str} (hf : Is P f 1 6 (B_isdisc ispart squares times less cN cO)) (h1 : IsPOk (callD P k) ispart) (h2 : SqOk (callD P k) squares) (h3 : OpOk (· * ·) (callD P k) times) (h4 : OpOk (· - ·) (callD P k) less) (g0 : P.consts[cN]? = some (nN, qD 0)) (g1 : P.consts[cO]? = some (nO, qD 1)) : IsDiscOk (callD P (k + 1)) f := fun zs s h => by
  refine hf.rt rfl ?_ rfl
  have c0 := comp_map (P := P) (call := callD P k) (e := .call ispart [.var 1]) (v := 1) (k := .seq) (src := [.var 0]) (ρ := [some (thD zs), none, none, none, none, none]) (s := s) (ds := [thD zs]) (xs := zs.map pD) fB (by simp [evEs, evE, R.of, R.bind]) rfl (by rw [List.length_map]; exact Nat.le_trans h.1 (by decide)) (fun x hx => by
    obtain ⟨z, hz, rfl⟩ := List.mem_map.mp hx
    have := h1 z s (h.2 z hz)
    simp [evE, evEs, R.of, R.bind, this, fB_pD])
  rw [fB_map] at c0
  have c1 : evE P (callD P k) (.bi .all (.comp false (.call ispart [.var 1]) [1] [1] .seq [.var 0] none)) [some (thD zs), none, none, none, none, none] s = .ok (.bl (zs.all isp)) s := by
    rw [evE, c0, rbind_ok, allB, of_some]
  show evSs P (callD P k) (B_isdisc ispart squares times less cN cO) [some (thD zs), none, none, none, none, none] s = _
  have c2 : evT P (callD P k) (.cmp .ne (.bi .len (.var 0)) (.int 4)) [some (thD zs), none, none, none, none, none] s = .ok (!decide (zs.length = 4)) s := by
    simp [evT, evE, R.of, R.bind, len_th, cmpF, eqF_int]
    omega
  have c3 : evT P (callD P k) (.not (.bi .all (.comp false (.call ispart [.var 1]) [1] [1] .seq [.var 0] none))) [some (thD zs), none, none, none, none, none] s = .ok (!(zs.all isp)) s := by
    rw [evE] at c1
    rw [evT, evT, c1, rbind_ok]
    rfl
  by_cases hl : zs.length = 4
  · obtain ⟨a, b, c, d, rfl⟩ := four_of hl
    cases ha : [a, b, c, d].all isp with
    | false =>
      have : evS P (callD P k) (.ite (.or [.cmp .ne (.bi .len (.var 0)) (.int 4), .not (.bi .all (.comp false (.call ispart [.var 1]) [1] [1] .seq [.var 0] none))]) [.ret (.bl false)] []) [some (thD [a, b, c, d]), none, none, none, none, none] s = .rt (.bl false) s := by
        rw [ha] at c3
        rw [evS, evT, evTOr, c2, rbind_ok, if_neg (by simp), evTOr, c3, st_ok]
        simp [evSs, evS, evE, R.st, RS.seq]
      rw [B_isdisc, evSs_cons, this, seq_rt]
      simp [discB, ha]
    | true =>
      have : evS P (callD P k) (.ite (.or [.cmp .ne (.bi .len (.var 0)) (.int 4), .not (.bi .all (.comp false (.call ispart [.var 1]) [1] [1] .seq [.var 0] none))]) [.ret (.bl false)] []) [some (thD [a, b, c, d]), none, none, none, none, none] s = .nx [some (thD [a, b, c, d]), none, none, none, none, none] s := by
        rw [ha] at c3
        rw [evS, evT, evTOr, c2, rbind_ok, if_neg (by simp), evTOr, c3, st_ok]
        simp [evSs]
      rw [B_isdisc, evSs_cons, this, seq_nx, thD_q ha]
      haveI := (h.2 a (by simp)).sz
      haveI := (h.2 b (by simp)).sz
      haveI := (h.2 c (by simp)).sz
      haveI := (h.2 d (by simp)).sz
      have x1 := h2 (qq c) (qq d) 200 200 s inferInstance inferInstance (by decide)
      have x2 := h3.run (p := qq b) (q := qq a) (s := s) (by decide)
      have x3 := h4.run (p := qq c * qq c + qq d * qq d) (q := qq b * qq a) (s := s) (by decide)
      have e0 : discD ⟨qq a, qq b, qq c, qq d⟩ = .tup [qD (qq a), qD (qq b), qD (qq c), qD (qq d)] := rfl
      obtain ⟨dd, hdd⟩ : ∃ dd, dd = discD ⟨qq a, qq b, qq c, qq d⟩ := ⟨_, rfl⟩
      have eU : evS P (callD P k) (.unp [2, 3, 4, 5] (.var 0)) [some dd, none, none, none, none, none] s = .nx [some dd, none, some (qD (qq a)), some (qD (qq b)), some (qD (qq c)), some (qD (qq d))] s := by
        rw [hdd, e0]
        simp [evS, evE, R.of, R.st]
      rw [← hdd, evSs_cons, eU, seq_nx]
      by_cases n0 : qq b = 0
      · simp [evSs, evS, evE, evEs, evAnd, R.of, R.bind, R.st, RS.seq, g0, cmpF, eqF_qD, n0, discB]
      · simp [evSs, evS, evE, evEs, evAnd, R.of, R.bind, R.st, RS.seq, g0, g1, cmpF, eqF_qD, n0, discB, ha, x1, x2, x3]
  · have : evS P (callD P k) (.ite (.or [.cmp .ne (.bi .len (.var 0)) (.int 4), .not (.bi .all (.comp false (.call ispart [.var 1]) [1] [1] .seq [.var 0] none))]) [.ret (.bl false)] []) [some (thD zs), none, none, none, none, none] s = .rt (.bl false) s := by
      rw [evS, evT, evTOr, c2, rbind_ok, if_pos (by simp [hl]), st_ok, if_pos rfl]
      simp [evSs, evS, evE, R.st, RS.seq]
    rw [B_isdisc, evSs_cons, this, seq_rt, discB_no hl]
def B_lisdisc (ispart plus minus by_ : Nat) : List S := [.ite (.or [.cmp .ne (.bi .len (.var 0)) (.int 4), .not (.bi .all (.comp false (.call ispart [.var 1]) [1] [1] .seq [.var 0] none)), .cmp .eq (.ix (.ix (.var 0) (.int 1)) (.int 0)) (.int 0)]) [.ret (.bl false)] [], .set 2 (.call plus [.call by_ [.ix (.var 0) (.int 2), .ix (.var 0) (.int 2)], .call by_ [.ix (.var 0) (.int 3), .ix (.var 0) (.int 3)]]), .ret (.cmp .eq (.call minus [.var 2, .call by_ [.ix (.var 0) (.int 1), .ix (.var 0) (.int 0)]]) (.tup [.int 1, .int 1]))]
theorem lisDiscOk {ispart plus minus by_ per : Nat} (hf : Is P f 1 3 (B_lisdisc ispart plus minus by_)) (h1 : IsPOk (callD P k) ispart) (O : Ops (callD P k) plus minus by_ per) : IsDiscOk (callD P (k + 1)) f := fun zs s h => by
  refine hf.rt rfl ?_ rfl
  have c0 := comp_map (P := P) (call := callD P k) (e := .call ispart [.var 1]) (v := 1) (k := .seq) (src := [.var 0]) (ρ := [some (thD zs), none, none]) (s := s) (ds := [thD zs]) (xs := zs.map pD) fB (by simp [evEs, evE, R.of, R.bind]) rfl (by rw [List.length_map]; exact Nat.le_trans h.1 (by decide)) (fun x hx => by
    obtain ⟨z, hz, rfl⟩ := List.mem_map.mp hx
    have := h1 z s (h.2 z hz)
    simp [evE, evEs, R.of, R.bind, this, fB_pD])
  rw [fB_map] at c0
  have c1 : evE P (callD P k) (.bi .all (.comp false (.call ispart [.var 1]) [1] [1] .seq [.var 0] none)) [some (thD zs), none, none] s = .ok (.bl (zs.all isp)) s := by
    rw [evE, c0, rbind_ok, allB, of_some]
  show evSs P (callD P k) (B_lisdisc ispart plus minus by_) [some (thD zs), none, none] s = _
  have c2 : evT P (callD P k) (.cmp .ne (.bi .len (.var 0)) (.int 4)) [some (thD zs), none, none] s = .ok (!decide (zs.length = 4)) s := by
    simp [evT, evE, R.of, R.bind, len_th, cmpF, eqF_int]
    omega
  have c3 : evT P (callD P k) (.not (.bi .all (.comp false (.call ispart [.var 1]) [1] [1] .seq [.var 0] none))) [some (thD zs), none, none] s = .ok (!(zs.all isp)) s := by
    rw [evE] at c1
    rw [evT, evT, c1, rbind_ok]
    rfl
  have hit : ∀ (w : R Bool), evT P (callD P k) (.or [.cmp .ne (.bi .len (.var 0)) (.int 4), .not (.bi .all (.comp false (.call ispart [.var 1]) [1] [1] .seq [.var 0] none)), .cmp .eq (.ix (.ix (.var 0) (.int 1)) (.int 0)) (.int 0)]) [some (thD zs), none, none] s = w → w = .ok true s → evSs P (callD P k) (B_lisdisc ispart plus minus by_) [some (thD zs), none, none] s = .rt (.bl false) s := fun w e1 e2 => by
    rw [B_lisdisc, evSs_cons, evS, e1, e2, st_ok, if_pos rfl]
    simp [evSs, evS, evE, R.st, RS.seq]
  by_cases hl : zs.length = 4
  · obtain ⟨a, b, c, d, rfl⟩ := four_of hl
    cases ha : [a, b, c, d].all isp with
    | false =>
      rw [hit _ rfl (by rw [ha] at c3; rw [evT, evTOr, c2, rbind_ok, if_neg (by simp), evTOr, c3, rbind_ok]; rfl)]
      simp [discB, ha]
    | true =>
      rw [ha] at c3
      haveI := (h.2 a (by simp)).sz
      haveI := (h.2 b (by simp)).sz
      haveI := (h.2 c (by simp)).sz
      haveI := (h.2 d (by simp)).sz
      have e0 := thD_q ha
      have c4 : evT P (callD P k) (.cmp .eq (.ix (.ix (.var 0) (.int 1)) (.int 0)) (.int 0)) [some (thD [a, b, c, d]), none, none] s = .ok (decide (qq b = 0)) s := by
        rw [e0]
        simp only [evT, evE, R.of, R.bind, List.getElem?_cons_zero, Option.join_some, ix_d1, ix_q0, cmpF, eqF_int, Option.map_some]
        congr 1
        rw [decide_eq_decide]
        exact num_zero_iff
      by_cases n0 : qq b = 0
      · rw [hit _ rfl (by rw [evT, evTOr, c2, rbind_ok, if_neg (by simp), evTOr, c3, rbind_ok, if_neg (by simp), evTOr, c4, n0]; rfl)]
        simp [discB, n0]
      · have x1 := O.by_.run (p := qq c) (q := qq c) (s := s) (by decide)
        have x2 := O.by_.run (p := qq d) (q := qq d) (s := s) (by decide)
        have x3 := O.plus.run (p := qq c * qq c) (q := qq d * qq d) (s := s) (by decide)
        have x4 := O.by_.run (p := qq b) (q := qq a) (s := s) (by decide)
        have x5 := O.minus.run (p := qq c * qq c + qq d * qq d) (q := qq b * qq a) (s := s) (by decide)
        have no : evS P (callD P k) (.ite (.or [.cmp .ne (.bi .len (.var 0)) (.int 4), .not (.bi .all (.comp false (.call ispart [.var 1]) [1] [1] .seq [.var 0] none)), .cmp .eq (.ix (.ix (.var 0) (.int 1)) (.int 0)) (.int 0)]) [.ret (.bl false)] []) [some (thD [a, b, c, d]), none, none] s = .nx [some (thD [a, b, c, d]), none, none] s := by
          rw [evS, evT, evTOr, c2, rbind_ok, if_neg (by simp), evTOr, c3, rbind_ok, if_neg (by simp), evTOr, c4, st_ok, if_neg (by simp [n0]), evSs_nil]
        rw [B_lisdisc, evSs_cons, no, seq_nx, e0]
        simp [evSs, evS, evE, evEs, evAnd, R.of, R.bind, R.st, RS.seq, ix_d0, ix_d1, ix_d2, ix_d3, cmpF, eqF_qD, qD_1, n0, discB, ha, x1, x2, x3, x4, x5, le2]
  · rw [hit _ rfl (by rw [evT, evTOr, c2, rbind_ok, if_pos (by simp [hl])]), discB_no hl]
end
end G

set_option Elab.async false
set_option linter.all false
set_option maxRecDepth 100000
set_option exponentiation.threshold 300
namespace G
open PySem L2
/-! ### discs as texts -/
theorem spl_all' (c0 : Nat) (t : T) : ∀ (acc : T), (∀ u ∈ TL.spl [c0] 0 acc t, u.length ≤ acc.length + t.length ∧ ∀ c ∈ u, c ∈ acc ∨ c ∈ t) ∧ (TL.spl [c0] 0 acc t).length ≤ t.length + 1 := by
  induction t with
  | nil =>
    intro acc
    rw [TL.spl_nil]
    refine ⟨fun u hu => ?_, by simp⟩
    rw [List.mem_singleton.mp hu]
    exact ⟨by simp, fun c hc => .inl hc⟩
  | cons c r ih =>
    intro acc
    by_cases e : c = c0
    · subst e
      have hp : TL.pre [c] (c :: r) = true := by simp [TL.pre]
      rw [TL.spl_hit hp]
      obtain ⟨h1, h2⟩ := ih []
      refine ⟨fun u hu => ?_, by simpa using h2⟩
      rcases List.mem_cons.mp hu with e | hu
      · rw [e]
        exact ⟨by simp, fun c hc => .inl hc⟩
      · have := h1 u hu
        exact ⟨by have := this.1; simp at this ⊢; omega, fun c hc => by
          rcases this.2 c hc with z | z
          · cases z
          · exact .inr (List.mem_cons_of_mem _ z)⟩
    · have hp : TL.pre [c0] (c :: r) = false := by simp [TL.pre, e]
      rw [TL.spl_miss hp]
      obtain ⟨h1, h2⟩ := ih (acc ++ [c])
      refine ⟨fun u hu => ?_, by simp; omega⟩
      have := h1 u hu
      exact ⟨by have := this.1; simp at this ⊢; omega, fun d hd => by
        rcases this.2 d hd with z | z
        · rcases List.mem_append.mp z with z | z
          · exact .inl z
          · rw [List.mem_singleton.mp z]
            exact .inr (by simp)
        · exact .inr (List.mem_cons_of_mem _ z)⟩
theorem spl_mid {c0 : Nat} : ∀ {p : T} (acc r : T), c0 ∉ p → TL.spl [c0] 0 acc (p ++ c0 :: r) = (acc ++ p) :: TL.spl [c0] 0 [] r
  | [], acc, r, _ => by
    have hp : TL.pre [c0] (c0 :: r) = true := by simp [TL.pre]
    rw [List.nil_append, TL.spl_hit hp, List.append_nil]
    rfl
  | c :: p, acc, r, h => by
    have e : ¬ c = c0 := fun e => h (by simp [e])
    have hp : TL.pre [c0] (c :: (p ++ c0 :: r)) = false := by simp [TL.pre, e]
    rw [List.cons_append, TL.spl_miss hp, spl_mid _ _ fun q => h (by simp [q])]
    simp
theorem spl_end {c0 : Nat} : ∀ {p : T} (acc : T), c0 ∉ p → TL.spl [c0] 0 acc p = [acc ++ p]
  | [], acc, _ => by rw [TL.spl_nil, List.append_nil]
  | c :: p, acc, h => by
    have e : ¬ c = c0 := fun e => h (by simp [e])
    have hp : TL.pre [c0] (c :: p) = false := by simp [TL.pre, e]
    rw [TL.spl_miss hp, spl_end _ fun q => h (by simp [q])]
    simp
theorem split_strC {t : T} {s : Stt} {c0 : Nat} (h : Tx t) (hc : c0 < 256) : meF .split s (.str t) [.str [c0]] = .ok (.lst ((TL.spl [c0] 0 [] t).map .str)) s := by
  have e := SX.split_S (a := t) (b := [c0]) (by simp) (by simpa using hc)
  have e' : PySem.Txt.split (tS t) (tS [c0]) = (TL.spl [c0] 0 [] t).map tS := e
  simp only [meF]
  have hl := h.1
  rw [if_pos ⟨by simp, Nat.le_trans (show t.length + 2 ≤ 1002 by omega) (by decide)⟩, e', List.map_map]
  congr 2
theorem strsD_map : ∀ ts : List T, strsD (ts.map .str) = some ts
  | [] => rfl
  | t :: ts => by simp [strsD, strsD_map ts]
theorem join_strC {s : Stt} {c0 : Nat} {ts : List T} (h : (ts.map List.length).sum + ts.length ≤ 16777216) : meF .join s (.str [c0]) [.lst (ts.map .str)] = .ok (.str (TL.joinL [c0] ts)) s := by
  have e := SX.join_S [c0] ts
  have e' : PySem.Txt.join (tS [c0]) (ts.map tS) = tS (TL.joinL [c0] ts) := e
  simp only [meF, itemsF, Option.bind_some, strsD_map]
  rw [if_pos (by simpa using h), e']
  simp [tS]
def allSome {α : Type} : List (Option α) → Option (List α)
  | [] => some []
  | some a :: r => (allSome r).map (a :: ·)
  | none :: _ => none
theorem allSome_some {α : Type} : ∀ {os : List (Option α)} {zs : List α}, allSome os = some zs → os = zs.map some
  | [], _, h => by cases h; rfl
  | some a :: r, zs, h => by
    obtain ⟨ys, h1, rfl⟩ := Option.map_eq_some_iff.mp h
    rw [allSome_some h1]
    rfl
  | none :: _, _, h => by cases h
theorem allSome_any {α : Type} : ∀ {os : List (Option α)}, os.any Option.isNone = (allSome os).isNone
  | [] => rfl
  | some a :: r => by
    rw [List.any_cons, allSome_any]
    cases h : allSome r <;> simp [allSome, h]
  | none :: _ => rfl
def prP : Option (Int × Int) → PyData
  | some (a, b) => .tuple [.int a, .int b]
  | none => .none
theorem in_prD (os : List (Option (Int × Int))) : inD .non (.lst (os.map prD)) = some (os.any Option.isNone) := by
  have h0 : ∀ os : List (Option (Int × Int)), nonsF (os.map prD) = none ∨ nonsF (os.map prD) = some (os.map Option.isNone) := fun os => by
    induction os with
    | nil => exact .inr rfl
    | cons o os ih =>
      cases o with
      | none => rcases ih with e | e <;> simp [nonsF, prD, e]
      | some z => exact .inl rfl
  have h1 : ∀ os : List (Option (Int × Int)), D.toPs (os.map prD) = some (os.map prP) := fun os => by
    induction os with
    | nil => rfl
    | cons o os ih =>
      cases o with
      | none => simp [D.toPs, D.toP, prD, prP, ih]
      | some z => simp [D.toPs, D.toP, prD, prP, ih]
  have h2 : ∀ os : List (Option (Int × Int)), PyData.canLayAll0 (os.map prP) = true ∧ PyData.depthAll (os.map prP) ≤ 2 := fun os => by
    induction os with
    | nil => simp [PyData.canLayAll0, PyData.depthAll]
    | cons o os ih =>
      cases o with
      | none =>
        have := ih.2
        simp [PyData.canLayAll0, PyData.canLay0, PyData.depthAll, PyData.depth, prP, ih.1]
        omega
      | some z =>
        have := ih.2
        simp [PyData.canLayAll0, PyData.canLay0, PyData.depthAll, PyData.depth, prP, ih.1]
        omega
  have h3 : ∀ os : List (Option (Int × Int)), ((os.map prP).any fun z => PyData.eqv z .none) = os.any Option.isNone := fun os => by
    rw [List.any_map]
    congr 1
    funext o
    cases o <;> simp [prP, PyData.eqv]
  have h4 : inL .non (os.map prD) = some (os.any Option.isNone) := by
    have s1 : SeqAt.shaped PyData.none = true := by simp [SeqAt.shaped, PyData.canLay0, PyData.depth]
    have s2 : SeqAt.shaped (PyData.list (os.map prP)) = true := by
      have := h2 os
      simp [SeqAt.shaped, PyData.canLay0, PyData.depth, this.1]
      omega
    simp only [inL, D.toP, h1, s1, s2, and_self, if_true, h3]
  show (match inF .non (os.map prD) with
    | some k => some k
    | none => inL .non (os.map prD)) = _
  have h5 : inF .non (os.map prD) = (nonsF (os.map prD)).map fun bs => bs.any id := rfl
  rw [h5]
  rcases h0 os with e | e
  · rw [e]
    exact h4
  · rw [e]
    simp [List.any_map]
theorem partIn_ok {t : T} {z : Int × Int} (h : partIn t = some z) : PrOk z := by
  unfold partIn at h
  split at h
  · obtain ⟨a, ha, rfl⟩ := Option.map_eq_some_iff.mp h
    exact ⟨show (1 : Int) ≠ 0 by decide, Nat.lt_trans (num_log (numIn_small ha)) (by decide), show (1 : Int).natAbs < 2 ^ 200 by decide⟩
  · split at h
    · rename_i a b ha hb
      split at h
      · rename_i c
        cases h
        exact ⟨show b ≠ 0 by omega, Nat.lt_trans (num_log (numIn_small ha)) (by decide), Nat.lt_trans (num_log (numIn_small hb)) (by decide)⟩
      · cases h
    · cases h
def discIn (t : T) : Option (List (Int × Int)) := match allSome ((TL.spl [44] 0 [] t).map partIn) with
  | some zs => if discB zs = true then some zs else none
  | none => none
def dsD : Option (List (Int × Int)) → D
  | some zs => thD zs
  | none => .non
theorem thing_of {t : T} {zs : List (Int × Int)} (hl : t.length ≤ 900) (h : allSome ((TL.spl [44] 0 [] t).map partIn) = some zs) : Thing zs := by
  have e := allSome_some h
  have h1 := congrArg List.length e
  rw [List.length_map, List.length_map] at h1
  have h2 := (spl_all' 44 t []).2
  refine ⟨by omega, fun z hz => ?_⟩
  have : some z ∈ (TL.spl [44] 0 [] t).map partIn := by rw [e]; exact List.mem_map_of_mem hz
  obtain ⟨u, _, hu⟩ := List.mem_map.mp this
  exact partIn_ok hu
section
variable {P : Prog} {k f : Nat}
/-- the parts of a row -/
theorem found_run {call : CallS} {partin v i : Nat} {ρ : Env} {s : Stt} {t : T} (h : PartInOk call partin) (tx : Tx t) (hl : t.length ≤ 900) (hi : ρ[i]?.join = some (.str t)) (hv : v < ρ.length) :
    evE P call (.comp false (.call partin [.var v]) [v] [v] .seq [.met .split (.var i) [.str [44]]] none) ρ s = .ok (.lst (((TL.spl [44] 0 [] t).map partIn).map prD)) s := by
  have ok : meOk .split s (.str t) = true := rfl
  have m := split_strC (s := s) (c0 := 44) tx (by decide)
  obtain ⟨sp1, sp2⟩ := spl_all' 44 t []
  generalize TL.spl [44] 0 [] t = rows at *
  rw [comp_map (P := P) (call := call) (e := .call partin [.var v]) (v := v) (k := .seq) (src := [.met .split (.var i) [.str [44]]]) (ρ := ρ) (s := s) (ds := [.lst (rows.map .str)]) (xs := rows.map .str) (fun d => match d with
    | .str u => prD (partIn u)
    | _ => .non) (by simp [evEs, evE, R.of, R.bind, hi, ok, m]) rfl (by
      rw [List.length_map]
      exact Nat.le_trans (show rows.length ≤ 901 by omega) (by decide)) fun x hx => by
      obtain ⟨u, hu, rfl⟩ := List.mem_map.mp hx
      have tu : Tx u := tx.sub (by have := (sp1 u hu).1; simpa using this) fun c hc => ((sp1 u hu).2 c hc).resolve_left (by simp)
      have := h u s tu
      simp [evE, evEs, R.of, R.bind, hv, this]]
  rw [List.map_map, List.map_map]
  rfl
def B_din (partin isd : Nat) : List S := [.set 1 (.comp false (.call partin [.var 2]) [2] [2] .seq [.met .split (.var 0) [.str [44]]] none), .ite (.or [.cmp .in_ (.non) (.var 1), .not (.call isd [.bi .tuple (.var 1)])]) [.ret (.non)] [], .ret (.bi .tuple (.var 1))]
def DiscInOk (call : CallS) (f : Nat) : Prop := ∀ (t : T) (s : Stt), Tx t → t.length ≤ 900 → call f [.str t] s = .ok (dsD (discIn t)) s
theorem tuple_th (zs : List (Int × Int)) (s : Stt) : biF .tuple s (.lst ((zs.map some).map prD)) = some (thD zs) := by
  have : (zs.map some).map prD = zs.map pD := by
    rw [List.map_map]
    rfl
  rw [this]
  rfl
theorem dinOk {partin isd : Nat} (hf : Is P f 1 3 (B_din partin isd)) (h1 : PartInOk (callD P k) partin) (h2 : IsDiscOk (callD P k) isd) : DiscInOk (callD P (k + 1)) f := fun t s tx hl => by
  refine hf.rt rfl ?_ rfl
  show evSs P (callD P k) (B_din partin isd) [some (.str t), none, none] s = _
  have e1 := found_run (P := P) (call := callD P k) (partin := partin) (v := 2) (i := 0) (ρ := [some (.str t), none, none]) (s := s) h1 tx hl rfl (by simp)
  have e2 := in_prD ((TL.spl [44] 0 [] t).map partIn)
  have e3 := allSome_any (os := (TL.spl [44] 0 [] t).map partIn)
  rw [B_din, evSs_cons, evS, e1, st_ok, seq_nx]
  unfold discIn
  cases q : allSome ((TL.spl [44] 0 [] t).map partIn) with
  | none =>
    rw [q] at e3
    rw [e3] at e2
    generalize (D.lst (((TL.spl [44] 0 [] t).map partIn).map prD)) = L at e2
    simp [evSs, evS, evT, evTOr, evE, R.of, R.bind, R.st, RS.seq, cmpF, e2, dsD]
  | some zs =>
    rw [q] at e3
    rw [e3] at e2
    have e4 := tuple_th zs s
    rw [← allSome_some q] at e4
    have e5 := h2 zs s (thing_of hl q)
    generalize (D.lst (((TL.spl [44] 0 [] t).map partIn).map prD)) = L at e2 e4
    cases c : discB zs with
    | true =>
      rw [c] at e5
      simp [evSs, evS, evT, evTOr, evE, evEs, R.of, R.bind, R.st, RS.seq, cmpF, e2, e4, e5, truF, dsD, c]
    | false =>
      rw [c] at e5
      simp [evSs, evS, evT, evTOr, evE, evEs, R.of, R.bind, R.st, RS.seq, cmpF, e2, e4, e5, truF, dsD, c]
def B_dread (din cT : Nat) : List S := [.set 1 (.call din [.var 0]), .ite (.cmp .isN (.var 1) (.non)) [.raise cT [.int 0]] [], .ret (.var 1)]
def ReadDiscOk (cT : Nat) (call : CallS) (f : Nat) : Prop := ∀ (t : T) (s : Stt), Tx t → t.length ≤ 900 → call f [.str t] s = match discIn t with
  | some p => .ok (thD p) s
  | none => .exc cT [.str badTextT, .int 0] s
theorem readDiscOk {din cT : Nat} (hf : Is P f 1 2 (B_dread din cT)) (h : DiscInOk (callD P k) din) (hc : P.xcls[cT]? = some ⟨badTextT, ["at"]⟩) : ReadDiscOk cT (callD P (k + 1)) f := fun t s tx hl => by
  have e := h t s tx hl
  cases q : discIn t with
  | none =>
    rw [q] at e
    refine hf.exc (ρ := [some (.str t), some .non]) rfl ?_ rfl
    show evSs P (callD P k) (B_dread din cT) [some (.str t), none] s = _
    simp [B_dread, evSs, evS, evT, evE, evEs, R.of, R.bind, R.st, RS.seq, e, dsD, cmpF, hc]
  | some p =>
    rw [q] at e
    refine hf.rt rfl ?_ rfl
    show evSs P (callD P k) (B_dread din cT) [some (.str t), none] s = _
    simp [B_dread, evSs, evS, evT, evE, evEs, R.of, R.bind, R.st, RS.seq, e, dsD, thD, cmpF]
/-! written -/
def discT (d : Disc) : T := TL.joinL [44] [partT d.back, partT d.bend, partT d.x, partT d.y]
def fT : D → D
  | .tup [.int a, .int b] => .str (partT (Rat.divInt a b))
  | _ => .non
theorem fT_qD (q : Rat) : fT (qD q) = .str (partT q) := by
  show D.str (partT (Rat.divInt q.num q.den)) = _
  rw [show Rat.divInt q.num q.den = q from Rat.num_divInt_den q]
def B_dtext (ptext : Nat) : List S := [.ret (.met .join (.str [44]) [.comp false (.call ptext [.var 1]) [1] [1] .seq [.var 0] none])]
def DTextOk (call : CallS) (f : Nat) : Prop := ∀ (d : Disc) (s : Stt), SzD 130 d → call f [discD d] s = .ok (.str (discT d)) s
theorem dtextOk {ptext : Nat} (hf : Is P f 1 2 (B_dtext ptext)) (h : PartTextOk (callD P k) ptext) : DTextOk (callD P (k + 1)) f := fun d s hd => by
  refine hf.rt rfl ?_ rfl
  show evSs P (callD P k) (B_dtext ptext) [some (discD d), none] s = _
  have c0 := comp_map (P := P) (call := callD P k) (e := .call ptext [.var 1]) (v := 1) (k := .seq) (src := [.var 0]) (ρ := [some (discD d), none]) (s := s) (ds := [discD d]) (xs := [qD d.back, qD d.bend, qD d.x, qD d.y]) fT (by simp [evEs, evE, R.of, R.bind]) rfl le4 (fun x hx => by
    have : ∀ q, Sz 130 q → evE P (callD P k) (.call ptext [.var 1]) ([some (discD d), none].set 1 (some (qD q))) s = .ok (fT (qD q)) s := fun q hq => by
      have := h q s hq
      simp [evE, evEs, R.of, R.bind, this, fT_qD]
    simp only [List.mem_cons, List.not_mem_nil, or_false] at hx
    rcases hx with e | e | e | e <;> subst e
    · exact this _ hd.back
    · exact this _ hd.bend
    · exact this _ hd.x
    · exact this _ hd.y)
  simp only [List.map_cons, List.map_nil, fT_qD] at c0
  have ok : ∀ s, meOk .join s (.str [44]) = true := fun _ => rfl
  have l1 := (part_tx hd.back).2
  have l2 := (part_tx hd.bend).2
  have l3 := (part_tx hd.x).2
  have l4 := (part_tx hd.y).2
  have j := join_strC (s := s) (c0 := 44) (ts := [partT d.back, partT d.bend, partT d.x, partT d.y]) (by
    simp only [List.map_cons, List.map_nil, List.sum_cons, List.sum_nil, List.length_cons, List.length_nil]
    omega)
  simp only [List.map_cons, List.map_nil] at j
  rw [B_dtext, evSs_cons, evS, evE, evE, rbind_ok, if_pos (ok _), evEs, c0, rbind_ok, evEs, rbind_ok, rbind_ok, j, st_ok]
  rfl
theorem part_no44 {q : Rat} (h : Sz 130 q) : 44 ∉ partT q := by
  have hi : ∀ i : Int, 44 ∉ intT i := fun i => by
    by_cases c : 0 ≤ i
    · obtain ⟨n, rfl⟩ := Int.eq_ofNat_of_zero_le c
      rw [intT_nat]
      exact TL.numL_free (by decide)
    · obtain ⟨n, rfl⟩ : ∃ n : Nat, i = -(n : Int) := ⟨i.natAbs, by omega⟩
      rw [intT_neg (by omega)]
      have hf : 44 ∉ numL n := TL.numL_free (by decide)
      simp [hf]
  unfold partT
  split
  · exact hi _
  · simp [hi]
theorem disc_tx {d : Disc} (h : SzD 130 d) : Tx (discT d) ∧ (discT d).length ≤ 335 := by
  obtain ⟨a1, a2⟩ := part_tx h.back
  obtain ⟨b1, b2⟩ := part_tx h.bend
  obtain ⟨c1, c2⟩ := part_tx h.x
  obtain ⟨d1, d2⟩ := part_tx h.y
  have e : discT d = partT d.back ++ ([44] ++ (partT d.bend ++ ([44] ++ (partT d.x ++ ([44] ++ partT d.y))))) := rfl
  have hl : (discT d).length ≤ 335 := by
    rw [e]
    simp only [List.length_append, List.length_cons, List.length_nil]
    omega
  refine ⟨⟨by omega, fun c hc => ?_⟩, hl⟩
  rw [e] at hc
  simp only [List.mem_append, List.mem_singleton] at hc
  rcases hc with q | q | q | q | q | q | q
  · exact a1.2 c q
  · omega
  · exact b1.2 c q
  · omega
  · exact c1.2 c q
  · omega
  · exact d1.2 c q
theorem discIn_discT {d : Disc} (h : SzD 130 d) (h0 : d.bend ≠ 0) (h1 : d.x * d.x + d.y * d.y - d.bend * d.back = 1) : ∃ zs, discIn (discT d) = some zs ∧ thD zs = discD d := by
  refine ⟨[(d.back.num, (d.back.den : Int)), (d.bend.num, (d.bend.den : Int)), (d.x.num, (d.x.den : Int)), (d.y.num, (d.y.den : Int))], ?_, rfl⟩
  have e : discT d = partT d.back ++ 44 :: (partT d.bend ++ 44 :: (partT d.x ++ 44 :: partT d.y)) := rfl
  have n1 := part_no44 h.back
  have n2 := part_no44 h.bend
  have n3 := part_no44 h.x
  have n4 := part_no44 h.y
  have qq1 : ∀ q : Rat, qq (q.num, (q.den : Int)) = q := fun q => Rat.num_divInt_den q
  have isp1 : ∀ q : Rat, isp (q.num, (q.den : Int)) = true := fun q => by
    have := q.den_pos
    simp only [isp, qq1]
    simp
    omega
  unfold discIn
  rw [e, spl_mid [] _ n1, spl_mid [] _ n2, spl_mid [] _ n3, spl_end [] n4]
  simp only [List.nil_append, List.map_cons, List.map_nil, partIn_partT h.back, partIn_partT h.bend, partIn_partT h.x, partIn_partT h.y, allSome, Option.map_some]
  have hb : discB [(d.back.num, (d.back.den : Int)), (d.bend.num, (d.bend.den : Int)), (d.x.num, (d.x.den : Int)), (d.y.num, (d.y.den : Int))] = true := by
    simp [discB, qq1, isp1, h0, h1]
  rw [if_pos hb]
end
end G

set_option Elab.async false
set_option linter.all false
set_option maxRecDepth 100000
set_option exponentiation.threshold 300
namespace G
open PySem L2
/-! ### sizes by a common under -/
def Sized (N b : Nat) (q : Rat) : Prop := ∃ a : Int, q = Rat.divInt a N ∧ a.natAbs < 2 ^ b
theorem divInt_add (a c : Int) (N : Nat) (h : N ≠ 0) : Rat.divInt a N + Rat.divInt c N = Rat.divInt (a + c) N := by
  have h0 : ((N : Int) : Rat) ≠ 0 := by exact_mod_cast h
  rw [Rat.divInt_eq_div, Rat.divInt_eq_div, Rat.divInt_eq_div, Rat.intCast_add]
  grind
theorem divInt_sub (a c : Int) (N : Nat) (h : N ≠ 0) : Rat.divInt a N - Rat.divInt c N = Rat.divInt (a - c) N := by
  have h0 : ((N : Int) : Rat) ≠ 0 := by exact_mod_cast h
  rw [Rat.divInt_eq_div, Rat.divInt_eq_div, Rat.divInt_eq_div, Rat.intCast_sub]
  grind
theorem Sized.sz {N b : Nat} {q : Rat} (h : Sized N b q) (h0 : N ≠ 0) (hN : N < 2 ^ b) : Sz b q := by
  obtain ⟨a, rfl, ha⟩ := h
  exact Sz.divInt (by exact_mod_cast h0) ha (by simpa using hN)
theorem Sized.mono {N b c : Nat} {q : Rat} (h : Sized N b q) (hb : b ≤ c) : Sized N c q := by
  obtain ⟨a, e, ha⟩ := h
  exact ⟨a, e, Nat.lt_of_lt_of_le ha (Nat.pow_le_pow_right (by decide) hb)⟩
theorem Sized.add {N b : Nat} {p q : Rat} (hp : Sized N b p) (hq : Sized N b q) (h0 : N ≠ 0) : Sized N (b + 1) (p + q) := by
  obtain ⟨a, rfl, ha⟩ := hp
  obtain ⟨c, rfl, hc⟩ := hq
  exact ⟨a + c, divInt_add a c N h0, Sz.addN ha hc⟩
theorem Sized.sub {N b : Nat} {p q : Rat} (hp : Sized N b p) (hq : Sized N b q) (h0 : N ≠ 0) : Sized N (b + 1) (p - q) := by
  obtain ⟨a, rfl, ha⟩ := hp
  obtain ⟨c, rfl, hc⟩ := hq
  exact ⟨a - c, divInt_sub a c N h0, Sz.subN ha hc⟩
theorem sized_zero (N b : Nat) : Sized N b 0 := ⟨0, by simp, by simpa using Nat.pow_pos (n := b) (show 0 < 2 by decide)⟩
/-! ### four discs -/
structure Four where
  a : Disc
  b : Disc
  c : Disc
  d : Disc
def Four.L (F : Four) : List D := [discD F.a, discD F.b, discD F.c, discD F.d]
def fourD (F : Four) : D := .lst F.L
def Disc.at (o : Disc) : Nat → Rat
  | 0 => o.back
  | 1 => o.bend
  | 2 => o.x
  | _ => o.y
/-- twice the three less the old one -/
def nwQ (p q r o : Rat) : Rat := (0 + p + q + r) + (0 + p + q + r) - o
def nwD (p q r o : Disc) : Disc := ⟨nwQ p.back q.back r.back o.back, nwQ p.bend q.bend r.bend o.bend, nwQ p.x q.x r.x o.x, nwQ p.y q.y r.y o.y⟩
def Four.swap (F : Four) : Nat → Four
  | 0 => { F with a := nwD F.b F.c F.d F.a }
  | 1 => { F with b := nwD F.a F.c F.d F.b }
  | 2 => { F with c := nwD F.a F.b F.d F.c }
  | _ => { F with d := nwD F.a F.b F.c F.d }
def Four.get (F : Four) : Nat → Disc
  | 0 => F.a
  | 1 => F.b
  | 2 => F.c
  | _ => F.d
structure SizedD (N b : Nat) (o : Disc) : Prop where
  back : Sized N b o.back
  bend : Sized N b o.bend
  x : Sized N b o.x
  y : Sized N b o.y
structure SizedF (N m : Nat) (F : Four) : Prop where
  a : SizedD N m F.a
  b : SizedD N m F.b
  c : SizedD N m F.c
  d : SizedD N m F.d
theorem SizedD.mono {N b c : Nat} {o : Disc} (h : SizedD N b o) (hb : b ≤ c) : SizedD N c o := ⟨h.back.mono hb, h.bend.mono hb, h.x.mono hb, h.y.mono hb⟩
theorem SizedF.mono {N b c : Nat} {o : Four} (h : SizedF N b o) (hb : b ≤ c) : SizedF N c o := ⟨h.a.mono hb, h.b.mono hb, h.c.mono hb, h.d.mono hb⟩
theorem SizedD.at {N b : Nat} {o : Disc} (h : SizedD N b o) : ∀ k, Sized N b (o.at k)
  | 0 => h.back
  | 1 => h.bend
  | 2 => h.x
  | _ + 3 => h.y
theorem SizedF.get {N b : Nat} {F : Four} (h : SizedF N b F) : ∀ k, SizedD N b (F.get k)
  | 0 => h.a
  | 1 => h.b
  | 2 => h.c
  | _ + 3 => h.d
theorem nw_sized {N b : Nat} {p q r o : Rat} (h0 : N ≠ 0) (hp : Sized N b p) (hq : Sized N b q) (hr : Sized N b r) (ho : Sized N b o) : Sized N (b + 5) (nwQ p q r o) := by
  have a1 := (sized_zero N b).add hp h0
  have a2 := a1.add (hq.mono (Nat.le_succ _)) h0
  have a3 := a2.add (hr.mono (by omega)) h0
  have a4 := a3.add a3 h0
  exact a4.sub (ho.mono (by omega)) h0
theorem nwD_sized {N b : Nat} {p q r o : Disc} (h0 : N ≠ 0) (hp : SizedD N b p) (hq : SizedD N b q) (hr : SizedD N b r) (ho : SizedD N b o) : SizedD N (b + 5) (nwD p q r o) :=
  ⟨nw_sized h0 hp.back hq.back hr.back ho.back, nw_sized h0 hp.bend hq.bend hr.bend ho.bend, nw_sized h0 hp.x hq.x hr.x ho.x, nw_sized h0 hp.y hq.y hr.y ho.y⟩
theorem SizedF.swap {N b : Nat} {F : Four} (h0 : N ≠ 0) (h : SizedF N b F) : ∀ i, SizedF N (b + 5) (F.swap i)
  | 0 => ⟨nwD_sized h0 h.b h.c h.d h.a, h.b.mono (by omega), h.c.mono (by omega), h.d.mono (by omega)⟩
  | 1 => ⟨h.a.mono (by omega), nwD_sized h0 h.a h.c h.d h.b, h.c.mono (by omega), h.d.mono (by omega)⟩
  | 2 => ⟨h.a.mono (by omega), h.b.mono (by omega), nwD_sized h0 h.a h.b h.d h.c, h.d.mono (by omega)⟩
  | _ + 3 => ⟨h.a.mono (by omega), h.b.mono (by omega), h.c.mono (by omega), nwD_sized h0 h.a h.b h.c h.d⟩
theorem ix_disc {s : Stt} {o : Disc} {k : Nat} (h : k < 4) : ixF s (discD o) (.int (k : Nat)) = some (qD (o.at k)) := by
  match k, h with
  | 0, _ => rfl
  | 1, _ => rfl
  | 2, _ => rfl
  | 3, _ => rfl
theorem ix_four {s : Stt} {F : Four} {k : Nat} (h : k < 4) : ixF s (fourD F) (.int (k : Nat)) = some (discD (F.get k)) := by
  match k, h with
  | 0, _ => rfl
  | 1, _ => rfl
  | 2, _ => rfl
  | 3, _ => rfl
theorem nwD_at (p q r o : Disc) : ∀ k, (nwD p q r o).at k = nwQ (p.at k) (q.at k) (r.at k) (o.at k)
  | 0 => rfl
  | 1 => rfl
  | 2 => rfl
  | _ + 3 => rfl
section
variable {P : Prog} {k f : Nat}
/-! sums -/
def B_sum (plus : Nat) : List S := [.set 1 (.tup [.int 0, .int 1]), .for [2] .seq [.var 0] [.set 1 (.call plus [.var 1, .var 2])], .ret (.var 1)]
/-- the sum of three -/
def Sum3Ok (call : CallS) (f : Nat) : Prop := ∀ (N b : Nat) (p q r : Rat) (s : Stt), N ≠ 0 → N < 2 ^ b → b ≤ 4000 → Sized N b p → Sized N b q → Sized N b r → call f [.lst [qD p, qD q, qD r]] s = .ok (qD (0 + p + q + r)) s
theorem sum3Ok {plus : Nat} (hf : Is P f 1 3 (B_sum plus)) (hp : OpOk (· + ·) (callD P k) plus) : Sum3Ok (callD P (k + 1)) f := fun N b p q r s h0 hN hb h1 h2 h3 => by
  refine hf.rt rfl ?_ rfl
  have hN1 : N < 2 ^ (b + 1) := Nat.lt_of_lt_of_le hN (Nat.pow_le_pow_right (by decide) (by omega))
  have hN2 : N < 2 ^ (b + 2) := Nat.lt_of_lt_of_le hN (Nat.pow_le_pow_right (by decide) (by omega))
  have a1 := (sized_zero N b).add h1 h0
  have a2 := a1.add (h2.mono (Nat.le_succ _)) h0
  have e1 := hp 0 p b b s ((sized_zero N b).sz h0 hN) (h1.sz h0 hN) (by omega)
  have e2 := hp (0 + p) q (b + 1) b s (a1.sz h0 hN1) (h2.sz h0 hN) (by omega)
  have e3 := hp (0 + p + q) r (b + 2) b s (a2.sz h0 hN2) (h3.sz h0 hN) (by omega)
  show evSs P (callD P k) (B_sum plus) [some (.lst [qD p, qD q, qD r]), none, none] s = _
  have l1 : evS P (callD P k) (.for [2] .seq [.var 0] [.set 1 (.call plus [.var 1, .var 2])]) [some (.lst [qD p, qD q, qD r]), some (qD 0), none] s = .nx [some (.lst [qD p, qD q, qD r]), some (qD (0 + p + q + r)), some (qD r)] s := by
    rw [evS_for]
    have : evEs P (callD P k) [.var 0] [some (.lst [qD p, qD q, qD r]), some (qD 0), none] s = .ok [.lst [qD p, qD q, qD r]] s := by simp [evEs, evE, R.of, R.bind]
    rw [this, rbind_ok]
    simp only [srcF, of_some, st_ok]
    have st : ∀ (x y z : Rat) (o : Option D), callD P k plus [qD x, qD y] s = .ok (qD z) s → forB P (callD P k) [2] [.set 1 (.call plus [.var 1, .var 2])] (qD y) [some (.lst [qD p, qD q, qD r]), some (qD x), o] s = .nx [some (.lst [qD p, qD q, qD r]), some (qD z), some (qD y)] s := fun x y z o h => by
      simp [forB, tgF, evSs, evS, evE, evEs, R.of, R.bind, R.st, RS.seq, h]
    rw [loopF, st _ _ _ _ e1]
    show loopF _ _ _ _ = _
    rw [loopF, st _ _ _ _ e2]
    show loopF _ _ _ _ = _
    rw [loopF, st _ _ _ _ e3]
    rfl
  have s1 : evS P (callD P k) (.set 1 (.tup [.int 0, .int 1])) [some (.lst [qD p, qD q, qD r]), none, none] s = .nx [some (.lst [qD p, qD q, qD r]), some (qD 0), none] s := by
    simp [evS, evE, evEs, R.bind, R.st, le2, qD_0]
  rw [B_sum, evSs_cons, s1, seq_nx, evSs_cons, l1, seq_nx]
  simp [evSs, evS, evE, R.of, R.st, RS.seq]
end
end G

set_option Elab.async false
set_option linter.all false
set_option maxRecDepth 100000
set_option exponentiation.threshold 300
namespace G
open PySem L2
/-- [e for v in .. if ..], the store as it is -/
theorem comp_fm {α : Type} {P : Prog} {call : CallS} {e c : E} {v : Nat} {k : It} {src : List E} {ρ : Env} {s : Stt} {ds : List D} (f : α → D) (g : α → Bool) (h : α → D) (cs : List α) (hs : evEs P call src ρ s = .ok ds s) (hx : srcF k s ds = some (cs.map f)) (hl : cs.length ≤ sizeLine) (he : ∀ x ∈ cs, evT P call c (ρ.set v (some (f x))) s = .ok (g x) s) (hh : ∀ x ∈ cs, g x = true → evE P call e (ρ.set v (some (f x))) s = .ok (h x) s) :
    evE P call (.comp false e [v] [v] k src (some c)) ρ s = .ok (.lst ((cs.filter g).map h)) s := by
  rw [evE_comp, hs, rbind_ok, hx, of_some, rbind_ok]
  have key : ∀ (cs : List α) (acc : List D), acc.length + cs.length ≤ sizeLine → (∀ x ∈ cs, evT P call c (ρ.set v (some (f x))) s = .ok (g x) s) → (∀ x ∈ cs, g x = true → evE P call e (ρ.set v (some (f x))) s = .ok (h x) s) → loopC (compB P call e [v] [v] (some c) ρ) (cs.map f) acc s = .ok (acc ++ (cs.filter g).map h) s := by
    intro cs
    induction cs with
    | nil => intro acc _ _ _; simp [loopC]
    | cons x cs ih =>
      intro acc hl he hh
      rw [List.length_cons] at hl
      rw [List.map_cons]
      unfold loopC
      have hb : compB P call e [v] [v] (some c) ρ (f x) acc s = .ok (if g x = true then acc ++ [h x] else acc) s := by
        unfold compB
        rw [tg_own]
        show (evC P call (some c) (ρ.set v (some (f x))) s).bind _ = _
        rw [evC, he x (List.mem_cons_self ..), rbind_ok]
        by_cases q : g x = true
        · rw [if_pos q, if_pos q, hh x (List.mem_cons_self ..) q, rbind_ok, if_pos (by omega)]
        · rw [if_neg q, if_neg q]
      rw [hb]
      by_cases q : g x = true
      · simp only [q, if_true]
        rw [ih (acc ++ [h x]) (by rw [List.length_append, List.length_singleton]; omega) (fun y hy => he y (List.mem_cons_of_mem _ hy)) fun y hy => hh y (List.mem_cons_of_mem _ hy)]
        simp [q]
      · simp only [q, if_false]
        show loopC _ (cs.map f) acc s = _
        rw [ih acc (by omega) (fun y hy => he y (List.mem_cons_of_mem _ hy)) fun y hy => hh y (List.mem_cons_of_mem _ hy)]
        simp [q]
  rw [key cs [] (by simpa using hl) he hh]
  rfl
/-- the other three, in order -/
def Four.oth (F : Four) : Nat → Disc × Disc × Disc
  | 0 => (F.b, F.c, F.d)
  | 1 => (F.a, F.c, F.d)
  | 2 => (F.a, F.b, F.d)
  | _ => (F.a, F.b, F.c)
def Four.fresh (F : Four) (i : Nat) : Disc := nwD (F.oth i).1 (F.oth i).2.1 (F.oth i).2.2 (F.get i)
theorem SizedF.oth {N m : Nat} {F : Four} (h : SizedF N m F) : ∀ i, SizedD N m (F.oth i).1 ∧ SizedD N m (F.oth i).2.1 ∧ SizedD N m (F.oth i).2.2
  | 0 => ⟨h.b, h.c, h.d⟩
  | 1 => ⟨h.a, h.c, h.d⟩
  | 2 => ⟨h.a, h.b, h.d⟩
  | _ + 3 => ⟨h.a, h.b, h.c⟩
theorem forB_one {P : Prog} {call : CallS} {v : Nat} {b : List S} {d : D} {ρ : Env} {s : Stt} : forB P call [v] b d ρ s = evSs P call b (ρ.set v (some d)) s := rfl
theorem get_at {s : Stt} {c : Cell} : (s ++ [c])[s.length]? = some c := by simp
theorem set_at {s : Stt} {c c' : Cell} : (s ++ [c]).set s.length c' = s ++ [c'] := by simp
theorem four_cut (F : Four) : ∀ i : Nat, i < 4 → ∃ lo hi, slF (fourD F) none (some (i : Nat)) = some (.lst lo) ∧ slF (fourD F) (some ((i : Nat) + 1)) none = some (.lst hi) ∧ lo.length + hi.length = 3 ∧ lo ++ [discD (F.fresh i)] ++ hi = (F.swap i).L
  | 0, _ => ⟨[], [discD F.b, discD F.c, discD F.d], rfl, rfl, rfl, rfl⟩
  | 1, _ => ⟨[discD F.a], [discD F.c, discD F.d], rfl, rfl, rfl, rfl⟩
  | 2, _ => ⟨[discD F.a, discD F.b], [discD F.d], rfl, rfl, rfl, rfl⟩
  | 3, _ => ⟨[discD F.a, discD F.b, discD F.c], [], rfl, rfl, rfl, rfl⟩
section
variable {P : Prog} {k f : Nat}
def colE (lsum : Nat) : E := .call lsum [.comp false (.ix (.ix (.var 0) (.var 5)) (.var 3)) [5] [5] .range1 [.int 4] (some (.cmp .ne (.var 5) (.var 1)))]
def swapB (lsum minus plus : Nat) : List S := [.set 4 (colE lsum), .expr (.met .append (.var 2) [.call minus [.call plus [.var 4, .var 4], .ix (.ix (.var 0) (.var 1)) (.var 3)]])]
def B_swap (lsum minus plus : Nat) : List S := [.set 2 (.lst true []), .for [3] .range1 [.int 4] (swapB lsum minus plus), .ret (.bin .add (.bin .add (.sl (.var 0) none (some (.var 1))) (.lst false [.bi .tuple (.var 2)])) (.sl (.var 0) (some (.bin .add (.var 1) (.int 1))) none))]
theorem four_filter {α : Type} (h : Nat → α) : ∀ i : Nat, i < 4 → ((List.range 4).filter fun j : Nat => !decide ((j : Int) = (i : Int))).map h = match i with
    | 0 => [h 1, h 2, h 3]
    | 1 => [h 0, h 2, h 3]
    | 2 => [h 0, h 1, h 3]
    | _ => [h 0, h 1, h 2]
  | 0, _ => rfl
  | 1, _ => rfl
  | 2, _ => rfl
  | 3, _ => rfl
theorem three_list (F : Four) (j : Nat) : ∀ i : Nat, i < 4 → ((List.range 4).filter fun n : Nat => !decide ((n : Int) = (i : Int))).map (fun n => qD ((F.get n).at j)) = [qD ((F.oth i).1.at j), qD ((F.oth i).2.1.at j), qD ((F.oth i).2.2.at j)]
  | 0, h => four_filter _ 0 h
  | 1, h => four_filter _ 1 h
  | 2, h => four_filter _ 2 h
  | 3, h => four_filter _ 3 h
theorem col_run {call : CallS} {lsum N m i j : Nat} {F : Four} {s : Stt} {x2 x4 x5 : Option D} (hs : Sum3Ok call lsum) (h0 : N ≠ 0) (hN : N < 2 ^ m) (hm : m ≤ 4000) (hF : SizedF N m F) (hi : i < 4) (hj : j < 4) :
    evE P call (colE lsum) [some (fourD F), some (.int (i : Nat)), x2, some (.int (j : Nat)), x4, x5] s = .ok (qD (0 + (F.oth i).1.at j + (F.oth i).2.1.at j + (F.oth i).2.2.at j)) s := by
  have c1 := comp_fm (P := P) (call := call) (e := .ix (.ix (.var 0) (.var 5)) (.var 3)) (c := .cmp .ne (.var 5) (.var 1)) (v := 5) (k := .range1) (src := [.int 4]) (ρ := [some (fourD F), some (.int (i : Nat)), x2, some (.int (j : Nat)), x4, x5]) (s := s) (ds := [.int 4]) (fun n : Nat => D.int n) (fun n => !decide ((n : Int) = (i : Int))) (fun n => qD ((F.get n).at j)) (List.range 4)
    (by simp [evEs, evE, R.bind]) (srcF_range (by decide) (by decide)) (by rw [List.length_range]; exact le4)
    (fun n hn => by simp [evT, evE, R.of, R.bind, cmpF, eqF_int]) (fun n hn _ => by
      have hn := List.mem_range.mp hn
      have e1 := ix_four (s := s) (F := F) hn
      have e2 := ix_disc (s := s) (o := F.get n) hj
      simp only [evE, R.of, R.bind, List.set_cons_succ, List.set_cons_zero, List.getElem?_cons_zero, List.getElem?_cons_succ, Option.join_some, e1, e2])
  rw [three_list F j i hi] at c1
  obtain ⟨z1, z2, z3⟩ := hF.oth i
  have e := hs N m ((F.oth i).1.at j) ((F.oth i).2.1.at j) ((F.oth i).2.2.at j) s h0 hN hm (z1.at j) (z2.at j) (z3.at j)
  rw [colE, evE, evEs, c1, rbind_ok, evEs, rbind_ok, rbind_ok]
  exact e
theorem swap_turn {call : CallS} {lsum minus plus N m i j : Nat} {F : Four} {s : Stt} {xs : List D} {x3 x4 x5 : Option D} (hs : Sum3Ok call lsum) (hp : OpOk (· + ·) call plus) (hm' : OpOk (· - ·) call minus) (h0 : N ≠ 0) (hN : N < 2 ^ m) (hm : m ≤ 4000) (hF : SizedF N m F) (hi : i < 4) (hj : j < 4) (hx : xs.length < 100) :
    ∃ y4, forB P call [3] (swapB lsum minus plus) (.int (j : Nat)) [some (fourD F), some (.int (i : Nat)), some (.ref s.length), x3, x4, x5] (s ++ [.lst xs]) = .nx [some (fourD F), some (.int (i : Nat)), some (.ref s.length), some (.int (j : Nat)), y4, x5] (s ++ [.lst (xs ++ [qD ((F.fresh i).at j)])]) := by
  have c := col_run (P := P) (x2 := some (.ref s.length)) (x4 := x4) (x5 := x5) (s := s ++ [.lst xs]) hs h0 hN hm hF hi hj
  obtain ⟨z1, z2, z3⟩ := hF.oth i
  have zo := hF.get i
  have up : ∀ n, N < 2 ^ (m + n) := fun n => Nat.lt_of_lt_of_le hN (Nat.pow_le_pow_right (by decide) (by omega))
  have a1 := (sized_zero N m).add (z1.at j) h0
  have a2 := a1.add ((z2.at j).mono (Nat.le_succ _)) h0
  have a3 := a2.add ((z3.at j).mono (by omega)) h0
  have a4 := a3.add a3 h0
  have e1 := hp _ _ (m + 3) (m + 3) (s ++ [.lst xs]) (a3.sz h0 (up 3)) (a3.sz h0 (up 3)) (by omega)
  have e2 := hm' _ ((F.get i).at j) (m + 4) m (s ++ [.lst xs]) (a4.sz h0 (up 4)) ((zo.at j).sz h0 hN) (by omega)
  have e3 : ((F.fresh i).at j) = 0 + (F.oth i).1.at j + (F.oth i).2.1.at j + (F.oth i).2.2.at j + (0 + (F.oth i).1.at j + (F.oth i).2.1.at j + (F.oth i).2.2.at j) - (F.get i).at j := nwD_at _ _ _ _ j
  have e2 : call minus [qD (0 + (F.oth i).1.at j + (F.oth i).2.1.at j + (F.oth i).2.2.at j + (0 + (F.oth i).1.at j + (F.oth i).2.1.at j + (F.oth i).2.2.at j)), qD ((F.get i).at j)] (s ++ [.lst xs]) = .ok (qD ((F.fresh i).at j)) (s ++ [.lst xs]) := by rw [e3]; exact e2
  clear e3
  generalize 0 + (F.oth i).1.at j + (F.oth i).2.1.at j + (F.oth i).2.2.at j = t at *
  have i1 := ix_four (s := s ++ [.lst xs]) (F := F) hi
  have i2 := ix_disc (s := s ++ [.lst xs]) (o := F.get i) hj
  have c1 : meOk .append (s ++ [.lst xs]) (.ref s.length) = true := by
    simp only [meOk, isCell, get_at]
  have lx : xs.length < sizeLine := Nat.lt_of_lt_of_le hx (by decide)
  have c2 : meF .append (s ++ [.lst xs]) (.ref s.length) [qD ((F.fresh i).at j)] = .ok .non (s ++ [.lst (xs ++ [qD ((F.fresh i).at j)])]) := by
    simp only [meF, get_at, lmF, lx, if_true, set_at]
  refine ⟨some (qD t), ?_⟩
  rw [forB_one]
  simp only [List.set_cons_succ, List.set_cons_zero]
  have s1 : evS P call (.set 4 (colE lsum)) [some (fourD F), some (.int (i : Nat)), some (.ref s.length), some (.int (j : Nat)), x4, x5] (s ++ [.lst xs]) = .nx [some (fourD F), some (.int (i : Nat)), some (.ref s.length), some (.int (j : Nat)), some (qD t), x5] (s ++ [.lst xs]) := by
    rw [evS, c, st_ok]
    rfl
  have s2 : evS P call (.expr (.met .append (.var 2) [.call minus [.call plus [.var 4, .var 4], .ix (.ix (.var 0) (.var 1)) (.var 3)]])) [some (fourD F), some (.int (i : Nat)), some (.ref s.length), some (.int (j : Nat)), some (qD t), x5] (s ++ [.lst xs]) = .nx [some (fourD F), some (.int (i : Nat)), some (.ref s.length), some (.int (j : Nat)), some (qD t), x5] (s ++ [.lst (xs ++ [qD ((F.fresh i).at j)])]) := by
    have v2 : evE P call (.var 2) [some (fourD F), some (.int (i : Nat)), some (.ref s.length), some (.int (j : Nat)), some (qD t), x5] (s ++ [.lst xs]) = .ok (.ref s.length) (s ++ [.lst xs]) := by simp [evE, R.of]
    rw [evS, evE, v2, rbind_ok, if_pos c1]
    simp only [evE, evEs, R.of, R.bind, R.st, List.getElem?_cons_zero, List.getElem?_cons_succ, Option.join_some, e1, i1, i2, e2, c2]
  rw [swapB, evSs_cons, s1, seq_nx, evSs_cons, s2, seq_nx, evSs_nil]
def SwapOk (call : CallS) (f : Nat) : Prop := ∀ (N m i : Nat) (F : Four) (s : Stt), RestOk s → N ≠ 0 → N < 2 ^ m → m ≤ 4000 → SizedF N m F → i < 4 → call f [fourD F, .int (i : Nat)] s = .ok (fourD (F.swap i)) s
theorem swapOk {lsum minus plus : Nat} {df : Def} (hf : P.defs[f]? = some df) (h1 : df.ps.length = 2) (h2 : df.N.length = 6) (hb : df.body = B_swap lsum minus plus) (hk : df.keep = false) (hs : Sum3Ok (callD P k) lsum) (hp : OpOk (· + ·) (callD P k) plus) (hm' : OpOk (· - ·) (callD P k) minus) : SwapOk (callD P (k + 1)) f := fun N m i F s rs h0 hN hm hF hi => by
  have d5 : discD (F.fresh i) = .tup [qD ((F.fresh i).at 0), qD ((F.fresh i).at 1), qD ((F.fresh i).at 2), qD ((F.fresh i).at 3)] := rfl
  refine callD_new (s1 := s) (s2 := [.lst [qD ((F.fresh i).at 0), qD ((F.fresh i).at 1), qD ((F.fresh i).at 2), qD ((F.fresh i).at 3)]]) (d := fourD (F.swap i)) hf h1.symm hk ?_ rfl (by simp) rfl (rs _)
  rw [hb, h2]
  have e0 : ([fourD F, D.int (i : Nat)] : List D).map some ++ List.replicate (6 - ([fourD F, D.int (i : Nat)] : List D).length) none = [some (fourD F), some (.int (i : Nat)), none, none, none, none] := rfl
  rw [e0]
  have s1 : evS P (callD P k) (.set 2 (.lst true [])) [some (fourD F), some (.int (i : Nat)), none, none, none, none] s = .nx [some (fourD F), some (.int (i : Nat)), some (.ref s.length), none, none, none] (s ++ [.lst []]) := by
    simp [evS, evE, evEs, R.bind, R.st, le0]
  obtain ⟨y0, t0⟩ := swap_turn (P := P) (s := s) (xs := []) (x3 := none) (x4 := none) (x5 := none) hs hp hm' h0 hN hm hF hi (j := 0) (by decide) (by decide)
  obtain ⟨y1, t1⟩ := swap_turn (P := P) (s := s) (xs := [] ++ [qD ((F.fresh i).at 0)]) (x3 := some (.int (0 : Nat))) (x4 := y0) (x5 := none) hs hp hm' h0 hN hm hF hi (j := 1) (by decide) (by simp)
  obtain ⟨y2, t2⟩ := swap_turn (P := P) (s := s) (xs := [] ++ [qD ((F.fresh i).at 0)] ++ [qD ((F.fresh i).at 1)]) (x3 := some (.int (1 : Nat))) (x4 := y1) (x5 := none) hs hp hm' h0 hN hm hF hi (j := 2) (by decide) (by simp)
  obtain ⟨y3, t3⟩ := swap_turn (P := P) (s := s) (xs := [] ++ [qD ((F.fresh i).at 0)] ++ [qD ((F.fresh i).at 1)] ++ [qD ((F.fresh i).at 2)]) (x3 := some (.int (2 : Nat))) (x4 := y2) (x5 := none) hs hp hm' h0 hN hm hF hi (j := 3) (by decide) (by simp)
  have s2 : evS P (callD P k) (.for [3] .range1 [.int 4] (swapB lsum minus plus)) [some (fourD F), some (.int (i : Nat)), some (.ref s.length), none, none, none] (s ++ [.lst []]) = .nx [some (fourD F), some (.int (i : Nat)), some (.ref s.length), some (.int (3 : Nat)), y3, none] (s ++ [.lst [qD ((F.fresh i).at 0), qD ((F.fresh i).at 1), qD ((F.fresh i).at 2), qD ((F.fresh i).at 3)]]) := by
    rw [evS_for]
    have : ∀ ρ s, evEs P (callD P k) [.int 4] ρ s = .ok [.int 4] s := fun ρ s => by simp [evEs, evE, R.bind]
    rw [this, rbind_ok, srcF_range (by decide) (by decide), of_some, st_ok]
    show loopF _ [.int (0 : Nat), .int (1 : Nat), .int (2 : Nat), .int (3 : Nat)] _ _ = _
    rw [loopF, t0]
    show loopF _ _ _ _ = _
    rw [loopF, t1]
    show loopF _ _ _ _ = _
    rw [loopF, t2]
    show loopF _ _ _ _ = _
    rw [loopF, t3]
    rfl
  rw [B_swap, evSs_cons, s1, seq_nx, evSs_cons, s2, seq_nx]
  have tp : biF .tuple (s ++ [.lst [qD ((F.fresh i).at 0), qD ((F.fresh i).at 1), qD ((F.fresh i).at 2), qD ((F.fresh i).at 3)]]) (.ref s.length) = some (discD (F.fresh i)) := by
    simp only [biF, listF, get_at, Option.map_some, d5]
  generalize s ++ [.lst [qD ((F.fresh i).at 0), qD ((F.fresh i).at 1), qD ((F.fresh i).at 2), qD ((F.fresh i).at 3)]] = s' at tp
  have ad : ∀ (a b : List D), a.length + b.length ≤ 100 → binF .add (.lst a) (.lst b) = some (.lst (a ++ b)) := fun a b h => by
    simp only [binF]
    exact if_pos (Nat.le_trans h (by decide))
  obtain ⟨lo, hi', q1, q2, q3, q4⟩ := four_cut F i hi
  have a1 := ad lo [discD (F.fresh i)] (by simp; omega)
  have a2 := ad (lo ++ [discD (F.fresh i)]) hi' (by simp; omega)
  have q5 : D.lst (lo ++ [discD (F.fresh i)] ++ hi') = fourD (F.swap i) := congrArg D.lst q4
  rw [q5] at a2
  simp only [evSs, evS, evE, evEs, evO, R.of, R.bind, R.st, RS.seq, List.getElem?_cons_zero, List.getElem?_cons_succ, Option.join_some, q1, bin_add, q2, tp, List.length_cons, List.length_nil, Nat.zero_add, le1, if_true, a1, a2]
end
end G

set_option Elab.async false
set_option linter.all false
set_option maxRecDepth 100000
set_option exponentiation.threshold 300
namespace G
open PySem L2
def Four.after (F : Four) (w : T) : Four := w.foldl (fun F c => F.swap (c - 97)) F
theorem Four.after_cons {F : Four} {c : Nat} {w : T} : F.after (c :: w) = (F.swap (c - 97)).after w := by
  unfold Four.after
  rw [List.foldl_cons]
theorem Four.after_nil {F : Four} : F.after [] = F := by
  unfold Four.after
  rw [List.foldl_nil]
theorem Four.after_app {F : Four} {u w : T} : F.after (u ++ w) = (F.after u).after w := by
  unfold Four.after
  rw [List.foldl_append]
theorem SizedF.after {N : Nat} (h0 : N ≠ 0) (w : T) : ∀ (m : Nat) (F : Four), SizedF N m F → SizedF N (m + 5 * w.length) (F.after w) := by
  induction w with
  | nil =>
    intro m F h
    rw [Four.after_nil]
    exact h.mono (Nat.le_add_right _ _)
  | cons c w ih =>
    intro m F h
    rw [Four.after_cons]
    exact (ih _ _ (h.swap h0 (c - 97))).mono (by rw [List.length_cons]; omega)
theorem seat_lt {c : Nat} (h : c ∈ abcd) : c - 97 < 4 := by
  rcases abcd_cases h with e | e | e | e <;> subst e <;> decide
theorem index_seat {c : Nat} (h : c ∈ abcd) {s : Stt} : meF .index s (.str abcd) [.str [c]] = .ok (.int ((c - 97 : Nat) : Int)) s := by
  rcases abcd_cases h with e | e | e | e <;> subst e <;> simp only [meF]
  · rw [show Builtin.Str.occurrences (tS abcd) (tS [97]) 0 (tS abcd).length 1 = [0] by decide +kernel]
  · rw [show Builtin.Str.occurrences (tS abcd) (tS [98]) 0 (tS abcd).length 1 = [1] by decide +kernel]
  · rw [show Builtin.Str.occurrences (tS abcd) (tS [99]) 0 (tS abcd).length 1 = [2] by decide +kernel]
  · rw [show Builtin.Str.occurrences (tS abcd) (tS [100]) 0 (tS abcd).length 1 = [3] by decide +kernel]
theorem index_great_seat {c : Nat} (h : c ∈ abcd) {s : Stt} : meF .index s (.str great) [.str [c - 32]] = .ok (.int ((c - 97 : Nat) : Int)) s := by
  rcases abcd_cases h with e | e | e | e <;> subst e <;> simp only [meF]
  · rw [show Builtin.Str.occurrences (tS great) (tS [97 - 32]) 0 (tS great).length 1 = [0] by decide +kernel]
  · rw [show Builtin.Str.occurrences (tS great) (tS [98 - 32]) 0 (tS great).length 1 = [1] by decide +kernel]
  · rw [show Builtin.Str.occurrences (tS great) (tS [99 - 32]) 0 (tS great).length 1 = [2] by decide +kernel]
  · rw [show Builtin.Str.occurrences (tS great) (tS [100 - 32]) 0 (tS great).length 1 = [3] by decide +kernel]
/-- a call of any letters -/
structure CallA (p : T) (l : Nat) : Prop where
  a : Abc p
  m : l ∈ abcd
  e : p = [] ∨ p.getLast? = some l
theorem CallOk.toA {p : T} {l : Nat} (h : CallOk p l) : CallA p l := ⟨h.w.1, h.m, h.e⟩
theorem CallA.tx {p : T} {l : Nat} (h : CallA p l) (hl : p.length ≤ 900) : Tx (ct p l) := by
  unfold ct
  split
  · rcases abcd_cases h.m with e | e | e | e <;> subst e <;> exact tx_one (by decide)
  · exact h.a.tx (by omega)
theorem CallA.one {p : T} {l : Nat} (h : CallA p l) : oneGreat (ct p l) = decide (p = []) := by
  unfold ct
  split
  · rename_i e
    rcases abcd_cases h.m with q | q | q | q <;> subst q <;> simp [e] <;> rfl
  · rename_i e
    have : oneGreat p = false := by
      rw [Bool.eq_false_iff]
      intro q
      have l1 := one_great_len q
      rw [← one_great l1] at q
      rw [occ_great h.a e] at q
      cases q
    simp [this, e]
theorem CallA.pre {l : Nat} {t : T} (h : Abc t) (hl : l ∈ abcd) : CallA (pre l t) l := by
  obtain ⟨r, h1, h2⟩ := pre_rest l _ t rfl
  exact ⟨fun c hc => h c (by rw [h1]; simp [hc]), hl, pre_end⟩
section
variable {P : Prog} {k f : Nat}
def afterB (swap : Nat) : List S := [.set 2 (.call swap [.var 2, .met .index (.str [97, 98, 99, 100]) [.var 3]])]
def B_after (swap : Nat) : List S := [.set 2 (.bi .list (.var 0)), .for [3] .seq [.var 1] (afterB swap), .ret (.var 2)]
def AfterOk (call : CallS) (f : Nat) : Prop := ∀ (N m : Nat) (F : Four) (w : T) (s : Stt), RestOk s → N ≠ 0 → N < 2 ^ m → m + 5 * w.length ≤ 4000 → SizedF N m F → Abc w → call f [fourD F, .str w] s = .ok (fourD (F.after w)) s
theorem afterOk {swap : Nat} (hf : Is P f 2 4 (B_after swap)) (hs : SwapOk (callD P k) swap) : AfterOk (callD P (k + 1)) f := fun N m F w s rs h0 hN hm hF hw => by
  refine hf.rt rfl ?_ rfl
  have loop : ∀ (u : T) (m : Nat) (F' : Four) (o : Option D), N < 2 ^ m → m + 5 * u.length ≤ 4000 → SizedF N m F' → Abc u → ∃ o', loopF (forB P (callD P k) [3] (afterB swap)) (u.map fun c => .str [c]) [some (fourD F), some (.str w), some (fourD F'), o] s = .nx [some (fourD F), some (.str w), some (fourD (F'.after u)), o'] s := by
    intro u
    induction u with
    | nil =>
      intro m F' o _ _ _ _
      rw [Four.after_nil]
      exact ⟨o, rfl⟩
    | cons c u ih =>
      intro m F' o hN hm hF hw
      rw [List.length_cons] at hm
      have hc := hw c (by simp)
      have e := hs N m (c - 97) F' s rs h0 hN (by omega) hF (seat_lt hc)
      obtain ⟨o', e2⟩ := ih (m + 5) (F'.swap (c - 97)) (some (.str [c])) (Nat.lt_of_lt_of_le hN (Nat.pow_le_pow_right (by decide) (by omega))) (by omega) (hF.swap h0 _) (fun d hd => hw d (List.mem_cons_of_mem _ hd))
      refine ⟨o', ?_⟩
      have ix := index_seat (s := s) hc
      have ok : meOk .index s (.str [97, 98, 99, 100]) = true := rfl
      simp only [abcd] at ix
      have st : forB P (callD P k) [3] (afterB swap) (.str [c]) [some (fourD F), some (.str w), some (fourD F'), o] s = .nx [some (fourD F), some (.str w), some (fourD (F'.swap (c - 97))), some (.str [c])] s := by
        rw [forB_one]
        simp only [List.set_cons_succ, List.set_cons_zero, afterB, evSs, evS, evE, evEs, R.of, R.bind, R.st, RS.seq, List.getElem?_cons_zero, List.getElem?_cons_succ, Option.join_some, ok, if_true, ix, e]
      rw [List.map_cons, loopF, st, Four.after_cons]
      exact e2
  obtain ⟨o', e⟩ := loop w m F none hN hm hF hw
  have e0 : ([fourD F, D.str w] : List D).map some ++ List.replicate (4 - 2) none = [some (fourD F), some (.str w), none, none] := rfl
  rw [e0]
  have ls : biF .list s (fourD F) = some (fourD F) := rfl
  have s1 : evS P (callD P k) (.set 2 (.bi .list (.var 0))) [some (fourD F), some (.str w), none, none] s = .nx [some (fourD F), some (.str w), some (fourD F), none] s := by
    simp [evS, evE, R.of, R.bind, R.st, ls]
  have s2 : evS P (callD P k) (.for [3] .seq [.var 1] (afterB swap)) [some (fourD F), some (.str w), some (fourD F), none] s = .nx [some (fourD F), some (.str w), some (fourD (F.after w)), o'] s := by
    rw [evS_for]
    have : evEs P (callD P k) [.var 1] [some (fourD F), some (.str w), some (fourD F), none] s = .ok [.str w] s := by simp [evEs, evE, R.of, R.bind]
    rw [this, rbind_ok]
    simp only [srcF, of_some, st_ok]
    exact e
  rw [B_after, evSs_cons, s1, seq_nx, evSs_cons, s2, seq_nx]
  simp [evSs, evS, evE, R.of, R.st, RS.seq]
def B_stone (after : Nat) : List S := [.ite (.cmp .in_ (.var 1) (.tup [.str [65], .str [66], .str [67], .str [68]])) [.ret (.ix (.var 0) (.met .index (.str [65, 66, 67, 68]) [.var 1]))] [], .ret (.ix (.call after [.var 0, .var 1]) (.met .index (.str [97, 98, 99, 100]) [.ix (.var 1) (.neg (.int 1))]))]
/-- the stone of a call -/
def Four.stone (F : Four) (p : T) (l : Nat) : Disc := (F.after p).get (l - 97)
def StoneOk (call : CallS) (f : Nat) : Prop := ∀ (N m : Nat) (F : Four) (p : T) (l : Nat) (s : Stt), RestOk s → N ≠ 0 → N < 2 ^ m → m + 5 * p.length ≤ 4000 → SizedF N m F → CallA p l → call f [fourD F, .str (ct p l)] s = .ok (discD (F.stone p l)) s
theorem stoneOk {after : Nat} (hf : Is P f 2 2 (B_stone after)) (ha : AfterOk (callD P k) after) : StoneOk (callD P (k + 1)) f := fun N m F p l s rs h0 hN hm hF h => by
  refine hf.rt rfl ?_ rfl
  have e0 : ([fourD F, D.str (ct p l)] : List D).map some ++ List.replicate (2 - 2) none = [some (fourD F), some (.str (ct p l))] := rfl
  rw [e0]
  have tx := h.tx (by omega)
  have ing : inD (.str (ct p l)) (.tup [.str [65], .str [66], .str [67], .str [68]]) = some (decide (p = [])) := by
    rw [← h.one]; rfl
  by_cases e : p = []
  · subst e
    have e1 : ct [] l = [l - 32] := rfl
    have ix := index_great_seat (s := s) h.m
    have ok : meOk .index s (.str [65, 66, 67, 68]) = true := rfl
    simp only [great] at ix
    have i4 := ix_four (s := s) (F := F) (seat_lt h.m)
    rw [e1] at ing ⊢
    have st : F.stone [] l = F.get (l - 97) := by unfold Four.stone; rw [Four.after_nil]
    rw [st]
    simp [B_stone, evSs, evS, evT, evE, evEs, R.of, R.bind, R.st, RS.seq, cmpF, ing, ok, ix, i4, le4]
  · have e1 : ct p l = p := by simp [ct, e]
    rw [e1] at tx ing ⊢
    have i3 : ixF s (.str p) (.int (-1)) = some (.str [l]) := ix_text tx (atI_last (h.e.resolve_left e))
    have ix := index_seat (s := s) h.m
    have ok : meOk .index s (.str [97, 98, 99, 100]) = true := rfl
    simp only [abcd] at ix
    have e2 := ha N m F p s rs h0 hN hm hF h.a
    have i4 := ix_four (s := s) (F := F.after p) (seat_lt h.m)
    have st : F.stone p l = (F.after p).get (l - 97) := rfl
    rw [st]
    simp [B_stone, evSs, evS, evT, evE, evEs, R.of, R.bind, R.st, RS.seq, cmpF, ing, e, ok, ix, i3, e2, i4, le4]
/-! the first four -/
def baseF : Four := ⟨⟨1, -1, 0, 0⟩, ⟨0, 2, 1, 0⟩, ⟨0, 2, -1, 0⟩, ⟨1, 3, 0, 2⟩⟩
def B_base : List S := [.set 0 (.lst false [.lst false [.int 1, .neg (.int 1), .int 0, .int 0], .lst false [.int 0, .int 2, .int 1, .int 0], .lst false [.int 0, .int 2, .neg (.int 1), .int 0], .lst false [.int 1, .int 3, .int 0, .int 2]]), .ret (.comp false (.bi .tuple (.comp false (.tup [.var 1, .int 1]) [1] [1] .seq [.var 2] none)) [2] [2] .seq [.var 0] none)]
def oneF : D → D := fun d => .tup [d, .int 1]
def rowF : D → D
  | .lst xs => .tup (xs.map oneF)
  | _ => .non
def baseR : List D := [.lst [.int 1, .int (-1), .int 0, .int 0], .lst [.int 0, .int 2, .int 1, .int 0], .lst [.int 0, .int 2, .int (-1), .int 0], .lst [.int 1, .int 3, .int 0, .int 2]]
theorem base_rows : baseR.map rowF = baseF.L := rfl
theorem baseOk (hf : Is P f 0 3 B_base) (s : Stt) : callD P (k + 1) f [] s = .ok (fourD baseF) s := by
  refine hf.rt rfl ?_ rfl
  have e0 : ([] : List D).map some ++ List.replicate (3 - 0) none = ([none, none, none] : Env) := rfl
  rw [e0]
  have s1 : evS P (callD P k) (.set 0 (.lst false [.lst false [.int 1, .neg (.int 1), .int 0, .int 0], .lst false [.int 0, .int 2, .int 1, .int 0], .lst false [.int 0, .int 2, .neg (.int 1), .int 0], .lst false [.int 1, .int 3, .int 0, .int 2]])) [none, none, none] s = .nx [some (.lst baseR), none, none] s := by
    simp [evS, evE, evEs, R.bind, R.st, le4, baseR]
  have c := comp_map (P := P) (call := callD P k) (e := .bi .tuple (.comp false (.tup [.var 1, .int 1]) [1] [1] .seq [.var 2] none)) (v := 2) (k := .seq) (src := [.var 0]) (ρ := [some (.lst baseR), none, none]) (s := s) (ds := [.lst baseR]) (xs := baseR) rowF (by simp [evEs, evE, R.of, R.bind]) rfl le4 (fun x hx => by
    obtain ⟨ys, rfl, hl⟩ : ∃ ys, x = .lst ys ∧ ys.length = 4 := by
      simp only [baseR, List.mem_cons, List.not_mem_nil, or_false] at hx
      rcases hx with q | q | q | q <;> subst q <;> exact ⟨_, rfl, rfl⟩
    have c2 := comp_map (P := P) (call := callD P k) (e := .tup [.var 1, .int 1]) (v := 1) (k := .seq) (src := [.var 2]) (ρ := [some (.lst baseR), none, some (.lst ys)]) (s := s) (ds := [.lst ys]) (xs := ys) oneF (by simp [evEs, evE, R.of, R.bind]) rfl (by rw [hl]; exact le4) (fun y _ => by
      simp [evE, evEs, R.of, R.bind, le2, oneF])
    show evE P (callD P k) _ [some (.lst baseR), none, some (.lst ys)] s = _
    rw [evE, c2, rbind_ok]
    rfl)
  rw [base_rows] at c
  rw [B_base, evSs_cons, s1, seq_nx, evSs_cons, evS, c, st_ok]
  rfl
end
end G

set_option Elab.async false
set_option linter.all false
set_option maxRecDepth 100000
set_option exponentiation.threshold 300
namespace G
open PySem L2
theorem perm_erase : ∀ (l : List D) (i : Nat) (h : i < l.length), (l[i] :: l.eraseIdx i).Perm l
  | x :: l, 0, _ => .refl _
  | x :: l, i + 1, h => by
    have h' : i < l.length := by simpa using h
    have ih := perm_erase l i h'
    rw [List.eraseIdx_cons_succ, List.getElem_cons_succ]
    exact (List.Perm.swap x l[i] (l.eraseIdx i)).trans (ih.cons x)
section
variable {P : Prog} {k f : Nat}
/-! drawn orders -/
def shufE (pull : Nat) : E := .met .popAt (.var 2) [.call pull [.var 0, .bi .len (.var 2)]]
def B_shuf (pull : Nat) : List S := [.set 2 (.mk (.var 1)), .ret (.comp false (shufE pull) [3] [3] .range1 [.bi .len (.var 1)] none)]
def Still (x : D) : Prop := ∀ n s, x.freeze n s = some x
def ShufOk (call : CallS) (f : Nat) : Prop := ∀ (b : Cell) (rest : Stt) (xs : List D), BagOK b → RestOk rest → xs.length ≤ 1000 → (∀ x ∈ xs, Still x) → Draw (call f [.ref 0, .lst xs] (b :: rest)) rest fun d => ∃ ys, d = .lst ys ∧ ys.Perm xs
theorem still_all {s : Stt} {n : Nat} : ∀ {xs : List D}, (∀ x ∈ xs, Still x) → D.freezes n s xs = some xs
  | [], _ => rfl
  | x :: xs, h => by
    rw [D.freezes, h x (List.mem_cons_self ..), still_all fun y hy => h y (List.mem_cons_of_mem _ hy)]
theorem shufOk {pull : Nat} {df : Def} (hf : P.defs[f]? = some df) (h1 : df.ps.length = 2) (h2 : df.N.length = 4) (hb : df.body = B_shuf pull) (hk : df.keep = false) (hp : PullOk (callD P k) pull) : ShufOk (callD P (k + 1)) f := fun b rest xs ob hr hl hx => by
  obtain ⟨acc, s', e2, b', left, rfl, ob', hperm, hlen⟩ := loopC_inv (body := compB P (callD P k) (shufE pull) [3] [3] none [some (.ref 0), some (.lst xs), some (.ref (rest.length + 1)), none])
    (fun n acc s => ∃ (b : Cell) (left : List D), s = b :: (rest ++ [.lst left]) ∧ BagOK b ∧ (acc ++ left).Perm xs ∧ acc.length = n) ((List.range xs.length).map fun i => .int (i : Nat)) 0 [] (b :: (rest ++ [.lst xs])) ⟨b, xs, rfl, ob, by simp, rfl⟩
    fun i d acc s hi ⟨b, left, e, ob, hperm, hlen⟩ => by
      subst e
      have hi' := (List.getElem?_eq_some_iff.mp hi).1
      rw [List.length_map, List.length_range] at hi'
      have hpl := hperm.length_eq
      rw [List.length_append] at hpl
      have l0 : 0 < left.length := by omega
      obtain ⟨v, b', e1, o1, g1, l1⟩ := hp b (rest ++ [.lst left]) left.length 11 ob (by omega) (by rw [show (2 : Nat) ^ 11 = 2048 by decide]; omega) (by decide)
      have hv : v.toNat < left.length := by omega
      have hy : left[v.toNat]? = some left[v.toNat] := List.getElem?_eq_getElem hv
      have hpe : (left[v.toNat] :: left.eraseIdx v.toNat).Perm left := perm_erase left v.toNat hv
      generalize left[v.toNat] = y at hy hpe
      refine ⟨acc ++ [y], b' :: (rest ++ [.lst (left.eraseIdx v.toNat)]), ?_, b', left.eraseIdx v.toNat, rfl, o1, ?_, by simp [hlen]⟩
      · refine compB_of tg_own ?_ (Nat.lt_of_lt_of_le (show acc.length < 1001 by omega) (by decide))
        have c1 : meOk .popAt (b :: (rest ++ [.lst left])) (.ref (rest.length + 1)) = true := by
          simp only [meOk, isCell, get_last]
        have ln : biF .len (b :: (rest ++ [.lst left])) (.ref (rest.length + 1)) = some (.int left.length) := by
          simp only [biF, itemsF, get_last, Option.map_some]
        have ixv : ixN left.length v = some v.toNat := by
          unfold ixN
          rw [if_pos g1, if_pos (by omega)]
        have c2 : meF .popAt (b' :: (rest ++ [.lst left])) (.ref (rest.length + 1)) [.int v] = .ok y (b' :: (rest ++ [.lst (left.eraseIdx v.toNat)])) := by
          have cond : -(2 ^ 63) ≤ v ∧ v < 2 ^ 63 := ⟨by omega, by omega⟩
          simp only [meF, get_last, lmF]
          rw [if_pos cond, ixv]
          simp only [hy, set_last]
        simp only [List.set_cons_succ, List.set_cons_zero, shufE, evE, evEs, R.of, R.bind, List.getElem?_cons_zero, List.getElem?_cons_succ, Option.join_some, c1, if_true, ln, e1, c2]
      · have : (acc ++ [y] ++ left.eraseIdx v.toNat).Perm (acc ++ left) := by
          rw [List.append_assoc]
          exact List.Perm.append_left acc hpe
        exact this.trans hperm
  rw [List.length_map, List.length_range, Nat.zero_add] at hlen
  have hpl := hperm.length_eq
  rw [List.length_append] at hpl
  have l0 : left = [] := List.eq_nil_of_length_eq_zero (by omega)
  subst l0
  rw [List.append_nil] at hperm
  have st : ∀ x ∈ acc, Still x := fun x hx' => hx x (hperm.mem_iff.mp hx')
  refine ⟨.lst acc, b', callD_new (s1 := b' :: rest) (s2 := [.lst []]) (d := .lst acc) hf h1.symm hk ?_ (by simp) (by simp) (by rw [D.freeze, still_all st]; rfl) (bag_under ob' hr _), ob', acc, rfl, hperm⟩
  rw [hb, h2]
  have e0 : ([D.ref 0, D.lst xs] : List D).map some ++ List.replicate (4 - ([D.ref 0, D.lst xs] : List D).length) none = [some (.ref 0), some (.lst xs), none, none] := rfl
  rw [e0]
  have s1 : evS P (callD P k) (.set 2 (.mk (.var 1))) [some (.ref 0), some (.lst xs), none, none] (b :: rest) = .nx [some (.ref 0), some (.lst xs), some (.ref (rest.length + 1)), none] (b :: (rest ++ [.lst xs])) := by
    simp [evS, evE, R.of, R.bind, R.st, itemsF]
  have ln : biF .len (b :: (rest ++ [.lst xs])) (.lst xs) = some (.int xs.length) := rfl
  have s2 : evE P (callD P k) (.comp false (shufE pull) [3] [3] .range1 [.bi .len (.var 1)] none) [some (.ref 0), some (.lst xs), some (.ref (rest.length + 1)), none] (b :: (rest ++ [.lst xs])) = .ok (.lst acc) (b' :: (rest ++ [.lst []])) := by
    rw [evE_comp]
    have : evEs P (callD P k) [.bi .len (.var 1)] [some (.ref 0), some (.lst xs), some (.ref (rest.length + 1)), none] (b :: (rest ++ [.lst xs])) = .ok [.int xs.length] (b :: (rest ++ [.lst xs])) := by
      simp [evEs, evE, R.of, R.bind, ln]
    rw [this, rbind_ok, srcF_range (by omega) (by omega), of_some, rbind_ok]
    simp only [Int.toNat_natCast]
    rw [e2, rbind_ok]
    rfl
  rw [B_shuf, evSs_cons, s1, seq_nx, evSs_cons, evS, s2, st_ok, seq_rt]
  rfl
/-! discs moved, turned, grown, turned inside out -/
def CenterOk (call : CallS) (f : Nat) : Prop := ∀ (d : Disc) (n : Nat) (s : Stt), SzD n d → n ≤ 900 → d.bend ≠ 0 → call f [discD d] s = .ok (placeD (centerQ d)) s
def MadeOk (call : CallS) (f : Nat) : Prop := ∀ (c : Rat × Rat) (b : Rat) (n : Nat) (s : Stt), Sz n c.1 → Sz n c.2 → Sz n b → n ≤ 900 → b ≠ 0 → call f [placeD c, qD b] s = .ok (discD (madeQ c b)) s
def movedQ (d : Disc) (p : Rat × Rat) : Disc := madeQ ((centerQ d).1 + p.1, (centerQ d).2 + p.2) d.bend
def B_moved (center made plus : Nat) : List S := [.set 2 (.call center [.var 0]), .ret (.call made [.tup [.call plus [.ix (.var 2) (.int 0), .ix (.var 1) (.int 0)], .call plus [.ix (.var 2) (.int 1), .ix (.var 1) (.int 1)]], .ix (.var 0) (.int 1)])]
def MovedOk (call : CallS) (f : Nat) : Prop := ∀ (d : Disc) (p : Rat × Rat) (n m : Nat) (s : Stt), SzD n d → SzP m p → n + n + m + 1 ≤ 900 → d.bend ≠ 0 → call f [discD d, placeD p] s = .ok (discD (movedQ d p)) s
theorem movedOk {center made plus : Nat} (hf : Is P f 2 3 (B_moved center made plus)) (hc : CenterOk (callD P k) center) (hm : MadeOk (callD P k) made) (hp : OpOk (· + ·) (callD P k) plus) : MovedOk (callD P (k + 1)) f := fun d p n m s hd hpp hn h0 => by
  refine hf.rt rfl ?_ rfl
  have e0 : ([discD d, placeD p] : List D).map some ++ List.replicate (3 - 2) none = [some (discD d), some (placeD p), none] := rfl
  rw [e0]
  have x1 := hc d n s hd (by omega) h0
  haveI := hd
  haveI := hpp
  have x2 := hp.run (p := (centerQ d).1) (q := p.1) (s := s) (by omega)
  have x3 := hp.run (p := (centerQ d).2) (q := p.2) (s := s) (by omega)
  have y1 : Sz (n + n + m + 1) ((centerQ d).1 + p.1) := SzC.sz
  have y2 : Sz (n + n + m + 1) ((centerQ d).2 + p.2) := SzC.sz
  have x4 := hm ((centerQ d).1 + p.1, (centerQ d).2 + p.2) d.bend (n + n + m + 1) s y1 y2 (hd.bend.mono (by omega)) hn h0
  have t2 : D.tup [qD ((centerQ d).1 + p.1), qD ((centerQ d).2 + p.2)] = placeD ((centerQ d).1 + p.1, (centerQ d).2 + p.2) := rfl
  simp only [B_moved, evSs, evS, evE, evEs, R.of, R.bind, R.st, RS.seq, List.getElem?_cons_zero, List.getElem?_cons_succ, Option.join_some, List.set_cons_succ, List.set_cons_zero, x1, ix_p0, ix_p1, ix_d1, x2, x3, List.length_cons, List.length_nil, Nat.zero_add, Nat.reduceAdd, le2, if_true, t2, x4, movedQ]
def turnedQ (d : Disc) (t : Rat × Rat) : Disc := madeQ (t.1 * (centerQ d).1 - t.2 * (centerQ d).2, t.2 * (centerQ d).1 + t.1 * (centerQ d).2) d.bend
def B_turnedD (center made plus minus by_ : Nat) : List S := [.unp [2, 3] (.call center [.var 0]), .unp [4, 5] (.var 1), .set 6 (.call minus [.call by_ [.var 4, .var 2], .call by_ [.var 5, .var 3]]), .ret (.call made [.tup [.var 6, .call plus [.call by_ [.var 5, .var 2], .call by_ [.var 4, .var 3]]], .ix (.var 0) (.int 1)])]
def TurnedDOk (call : CallS) (f : Nat) : Prop := ∀ (d : Disc) (p : Rat × Rat) (n m : Nat) (s : Stt), SzD n d → SzP m p → 2 * (n + n + m) + 1 ≤ 900 → d.bend ≠ 0 → call f [discD d, placeD p] s = .ok (discD (turnedQ d p)) s
theorem turnedDOk {center made plus minus by_ : Nat} (hf : Is P f 2 7 (B_turnedD center made plus minus by_)) (hc : CenterOk (callD P k) center) (hm : MadeOk (callD P k) made) (hp : OpOk (· + ·) (callD P k) plus) (hmi : OpOk (· - ·) (callD P k) minus) (hby : OpOk (· * ·) (callD P k) by_) : TurnedDOk (callD P (k + 1)) f := fun d t n m s hd hpp hn h0 => by
  refine hf.rt rfl ?_ rfl
  have e0 : ([discD d, placeD t] : List D).map some ++ List.replicate (7 - 2) none = [some (discD d), some (placeD t), none, none, none, none, none] := rfl
  rw [e0]
  have x1 := hc d n s hd (by omega) h0
  haveI := hd
  haveI := hpp
  have x2 := hby.run (p := t.1) (q := (centerQ d).1) (s := s) (by omega)
  have x3 := hby.run (p := t.2) (q := (centerQ d).2) (s := s) (by omega)
  have x4 := hby.run (p := t.2) (q := (centerQ d).1) (s := s) (by omega)
  have x5 := hby.run (p := t.1) (q := (centerQ d).2) (s := s) (by omega)
  have x6 := hmi.run (p := t.1 * (centerQ d).1) (q := t.2 * (centerQ d).2) (s := s) (by omega)
  have x7 := hp.run (p := t.2 * (centerQ d).1) (q := t.1 * (centerQ d).2) (s := s) (by omega)
  have y1 : Sz (m + (n + n) + (m + (n + n)) + 1) (t.1 * (centerQ d).1 - t.2 * (centerQ d).2) := SzC.sz
  have y2 : Sz (m + (n + n) + (m + (n + n)) + 1) (t.2 * (centerQ d).1 + t.1 * (centerQ d).2) := SzC.sz
  have x8 := hm (t.1 * (centerQ d).1 - t.2 * (centerQ d).2, t.2 * (centerQ d).1 + t.1 * (centerQ d).2) d.bend (m + (n + n) + (m + (n + n)) + 1) s y1 y2 (hd.bend.mono (by omega)) (by omega) h0
  have t2 : D.tup [qD (t.1 * (centerQ d).1 - t.2 * (centerQ d).2), qD (t.2 * (centerQ d).1 + t.1 * (centerQ d).2)] = placeD (t.1 * (centerQ d).1 - t.2 * (centerQ d).2, t.2 * (centerQ d).1 + t.1 * (centerQ d).2) := rfl
  have pl : ∀ p : Rat × Rat, placeD p = .tup [qD p.1, qD p.2] := fun _ => rfl
  have u1 : evS P (callD P k) (.unp [2, 3] (.call center [.var 0])) [some (discD d), some (placeD t), none, none, none, none, none] s = .nx [some (discD d), some (placeD t), some (qD (centerQ d).1), some (qD (centerQ d).2), none, none, none] s := by
    simp only [evS, evE, evEs, R.of, R.bind, R.st, List.getElem?_cons_zero, Option.join_some, x1, pl (centerQ d)]
    rfl
  have u2 : evS P (callD P k) (.unp [4, 5] (.var 1)) [some (discD d), some (placeD t), some (qD (centerQ d).1), some (qD (centerQ d).2), none, none, none] s = .nx [some (discD d), some (placeD t), some (qD (centerQ d).1), some (qD (centerQ d).2), some (qD t.1), some (qD t.2), none] s := by
    simp only [evS, evE, R.of, R.st, List.getElem?_cons_zero, List.getElem?_cons_succ, Option.join_some, pl t]
    rfl
  rw [B_turnedD, evSs_cons, u1, seq_nx, evSs_cons, u2, seq_nx]
  simp only [evSs, evS, evE, evEs, R.of, R.bind, R.st, RS.seq, List.getElem?_cons_zero, List.getElem?_cons_succ, Option.join_some, List.set_cons_succ, List.set_cons_zero, ix_d1, x2, x3, x4, x5, x6, x7, List.length_cons, List.length_nil, Nat.zero_add, Nat.reduceAdd, le2, if_true, t2, x8, turnedQ]
def grownQ (d : Disc) (q : Rat) : Disc := madeQ ((centerQ d).1 * q, (centerQ d).2 * q) (d.bend / q)
def B_grown (center made by_ per : Nat) : List S := [.set 2 (.call center [.var 0]), .ret (.call made [.tup [.call by_ [.ix (.var 2) (.int 0), .var 1], .call by_ [.ix (.var 2) (.int 1), .var 1]], .call per [.ix (.var 0) (.int 1), .var 1]])]
def GrownOk (call : CallS) (f : Nat) : Prop := ∀ (d : Disc) (q : Rat) (n m : Nat) (s : Stt), SzD n d → SzC m q → n + n + m ≤ 900 → d.bend ≠ 0 → q ≠ 0 → call f [discD d, qD q] s = .ok (discD (grownQ d q)) s
theorem div_ne {a b : Rat} (h1 : a ≠ 0) (h2 : b ≠ 0) : a / b ≠ 0 := by
  intro h
  apply h1
  have : a = a / b * b := by grind
  rw [this, h]
  grind
theorem grownOk {center made by_ per : Nat} (hf : Is P f 2 3 (B_grown center made by_ per)) (hc : CenterOk (callD P k) center) (hm : MadeOk (callD P k) made) (hby : OpOk (· * ·) (callD P k) by_) (hpe : PerOk (callD P k) per) : GrownOk (callD P (k + 1)) f := fun d q n m s hd hq hn h0 q0 => by
  refine hf.rt rfl ?_ rfl
  have e0 : ([discD d, qD q] : List D).map some ++ List.replicate (3 - 2) none = [some (discD d), some (qD q), none] := rfl
  rw [e0]
  have x1 := hc d n s hd (by omega) h0
  haveI := hd
  haveI := hq
  have x2 := hby.run (p := (centerQ d).1) (q := q) (s := s) (by omega)
  have x3 := hby.run (p := (centerQ d).2) (q := q) (s := s) (by omega)
  have x4 := hpe.run (p := d.bend) (q := q) (s := s) q0 (by omega)
  have y1 : Sz (n + n + m) ((centerQ d).1 * q) := SzC.sz
  have y2 : Sz (n + n + m) ((centerQ d).2 * q) := SzC.sz
  have y3 : Sz (n + m) (d.bend / q) := SzC.sz
  have x5 := hm ((centerQ d).1 * q, (centerQ d).2 * q) (d.bend / q) (n + n + m) s y1 y2 (y3.mono (by omega)) hn (div_ne h0 q0)
  have t2 : D.tup [qD ((centerQ d).1 * q), qD ((centerQ d).2 * q)] = placeD ((centerQ d).1 * q, (centerQ d).2 * q) := rfl
  simp only [B_grown, evSs, evS, evE, evEs, R.of, R.bind, R.st, RS.seq, List.getElem?_cons_zero, List.getElem?_cons_succ, Option.join_some, List.set_cons_succ, List.set_cons_zero, x1, ix_p0, ix_p1, ix_d1, x2, x3, x4, List.length_cons, List.length_nil, Nat.zero_add, Nat.reduceAdd, le2, if_true, t2, x5, grownQ]
def inwardQ (d : Disc) (p : Rat × Rat) : Disc := ⟨(movedQ d (0 - p.1, 0 - p.2)).bend, (movedQ d (0 - p.1, 0 - p.2)).back, (movedQ d (0 - p.1, 0 - p.2)).x, (movedQ d (0 - p.1, 0 - p.2)).y⟩
def B_inward (moved minus : Nat) : List S := [.set 2 (.call moved [.var 0, .tup [.call minus [.tup [.int 0, .int 1], .ix (.var 1) (.int 0)], .call minus [.tup [.int 0, .int 1], .ix (.var 1) (.int 1)]]]), .ret (.tup [.ix (.var 2) (.int 1), .ix (.var 2) (.int 0), .ix (.var 2) (.int 2), .ix (.var 2) (.int 3)])]
def InwardOk (call : CallS) (f : Nat) : Prop := ∀ (d : Disc) (p : Rat × Rat) (n m : Nat) (s : Stt), SzD n d → SzP m p → n + n + m + 3 ≤ 900 → d.bend ≠ 0 → call f [discD d, placeD p] s = .ok (discD (inwardQ d p)) s
theorem inwardOk {moved minus : Nat} (hf : Is P f 2 3 (B_inward moved minus)) (hm : MovedOk (callD P k) moved) (hmi : OpOk (· - ·) (callD P k) minus) : InwardOk (callD P (k + 1)) f := fun d p n m s hd hpp hn h0 => by
  refine hf.rt rfl ?_ rfl
  have e0 : ([discD d, placeD p] : List D).map some ++ List.replicate (3 - 2) none = [some (discD d), some (placeD p), none] := rfl
  rw [e0]
  haveI := hpp
  have x1 := hmi.run (p := 0) (q := p.1) (s := s) (by omega)
  have x2 := hmi.run (p := 0) (q := p.2) (s := s) (by omega)
  have y : SzP (m + 2) (0 - p.1, 0 - p.2) := ⟨Sz.mono (SzC.sz (q := 0 - p.1)) (by omega), Sz.mono (SzC.sz (q := 0 - p.2)) (by omega)⟩
  have x3 := hm d (0 - p.1, 0 - p.2) n (m + 2) s hd y (by omega) h0
  have t2 : D.tup [qD (0 - p.1), qD (0 - p.2)] = placeD (0 - p.1, 0 - p.2) := rfl
  have e1 : inwardQ d p = ⟨(movedQ d (0 - p.1, 0 - p.2)).bend, (movedQ d (0 - p.1, 0 - p.2)).back, (movedQ d (0 - p.1, 0 - p.2)).x, (movedQ d (0 - p.1, 0 - p.2)).y⟩ := by unfold inwardQ; rfl
  rw [e1]
  generalize movedQ d (0 - p.1, 0 - p.2) = w at x3
  have t4 : D.tup [qD w.bend, qD w.back, qD w.x, qD w.y] = discD ⟨w.bend, w.back, w.x, w.y⟩ := rfl
  simp only [B_inward, evSs, evS, evE, evEs, R.of, R.bind, R.st, RS.seq, List.getElem?_cons_zero, List.getElem?_cons_succ, Option.join_some, List.set_cons_succ, List.set_cons_zero, ix_p0, ix_p1, ix_d0, ix_d1, ix_d2, ix_d3, List.length_cons, List.length_nil, Nat.zero_add, Nat.reduceAdd, le2, le4, if_true, qD_0, x1, x2, t2, x3, t4]
end
end G

set_option Elab.async false
set_option linter.all false
set_option maxRecDepth 100000
set_option exponentiation.threshold 300
namespace G
open PySem L2
/-- the first place of the greatest of four -/
def top4 (q : Nat → Rat) : Nat :=
  let i1 := if q 0 < q 1 then 1 else 0
  let i2 := if q i1 < q 2 then 2 else i1
  if q i2 < q 3 then 3 else i2
theorem top4_lt (q : Nat → Rat) : top4 q < 4 := by
  unfold top4
  simp only
  repeat' (first | decide | split)
theorem top4_max (q : Nat → Rat) : ∀ j, j < 4 → q j ≤ q (top4 q) := by
  have key : ∀ a b : Rat, ¬ a < b → b ≤ a := fun a b h => Rat.not_lt.mp h
  intro j hj
  unfold top4
  simp only
  by_cases c1 : q 0 < q 1
  · simp only [c1, if_true]
    by_cases c2 : q 1 < q 2
    · simp only [c2, if_true]
      by_cases c3 : q 2 < q 3
      · simp only [c3, if_true]
        match j, hj with
        | 0, _ => grind
        | 1, _ => grind
        | 2, _ => grind
        | 3, _ => grind
      · simp only [c3, if_false]
        match j, hj with
        | 0, _ => grind
        | 1, _ => grind
        | 2, _ => grind
        | 3, _ => grind
    · simp only [c2, if_false]
      by_cases c3 : q 1 < q 3
      · simp only [c3, if_true]
        match j, hj with
        | 0, _ => grind
        | 1, _ => grind
        | 2, _ => grind
        | 3, _ => grind
      · simp only [c3, if_false]
        match j, hj with
        | 0, _ => grind
        | 1, _ => grind
        | 2, _ => grind
        | 3, _ => grind
  · simp only [c1, if_false]
    by_cases c2 : q 0 < q 2
    · simp only [c2, if_true]
      by_cases c3 : q 2 < q 3
      · simp only [c3, if_true]
        match j, hj with
        | 0, _ => grind
        | 1, _ => grind
        | 2, _ => grind
        | 3, _ => grind
      · simp only [c3, if_false]
        match j, hj with
        | 0, _ => grind
        | 1, _ => grind
        | 2, _ => grind
        | 3, _ => grind
    · simp only [c2, if_false]
      by_cases c3 : q 0 < q 3
      · simp only [c3, if_true]
        match j, hj with
        | 0, _ => grind
        | 1, _ => grind
        | 2, _ => grind
        | 3, _ => grind
      · simp only [c3, if_false]
        match j, hj with
        | 0, _ => grind
        | 1, _ => grind
        | 2, _ => grind
        | 3, _ => grind
def rowD (q : Nat → Rat) : D := .lst [qD (q 0), qD (q 1), qD (q 2), qD (q 3)]
theorem ix_row {s : Stt} {q : Nat → Rat} {i : Nat} (h : i < 4) : ixF s (rowD q) (.int (i : Nat)) = some (qD (q i)) := by
  match i, h with
  | 0, _ => rfl
  | 1, _ => rfl
  | 2, _ => rfl
  | 3, _ => rfl
section
variable {P : Prog} {k f : Nat}
def topB (under : Nat) : List S := [.ite (.call under [.ix (.var 0) (.var 1), .ix (.var 0) (.var 2)]) [.set 1 (.var 2)] []]
def B_top (under : Nat) : List S := [.set 1 (.int 0), .for [2] .range1 [.bi .len (.var 0)] (topB under), .ret (.var 1)]
def TopOk (call : CallS) (f : Nat) : Prop := ∀ (q : Nat → Rat) (n : Nat) (s : Stt), (∀ i, i < 4 → Sz n (q i)) → n + n + 1 < 9000 → call f [rowD q] s = .ok (.int ((top4 q : Nat) : Int)) s
theorem topOk {under : Nat} (hf : Is P f 1 3 (B_top under)) (hu : UnderOk (callD P k) under) : TopOk (callD P (k + 1)) f := fun q n s hq hn => by
  refine hf.rt rfl ?_ rfl
  have e0 : ([rowD q] : List D).map some ++ List.replicate (3 - 1) none = [some (rowD q), none, none] := rfl
  rw [e0]
  have st : ∀ (i j : Nat) (o : Option D), i < 4 → j < 4 → forB P (callD P k) [2] (topB under) (.int (j : Nat)) [some (rowD q), some (.int (i : Nat)), o] s = .nx [some (rowD q), some (.int ((if q i < q j then j else i : Nat) : Int)), some (.int (j : Nat))] s := fun i j o hi hj => by
    have e := hu (q i) (q j) n n s (hq i hi) (hq j hj) hn
    have i1 := ix_row (s := s) (q := q) hi
    have i2 := ix_row (s := s) (q := q) hj
    rw [forB_one]
    by_cases c : q i < q j
    · rw [decide_eq_true c] at e
      simp only [List.set_cons_succ, List.set_cons_zero, topB, evSs, evS, evT, evE, evEs, R.of, R.bind, R.st, RS.seq, List.getElem?_cons_zero, List.getElem?_cons_succ, Option.join_some, i1, i2, e, truF, if_true, c]
    · rw [decide_eq_false c] at e
      simp only [List.set_cons_succ, List.set_cons_zero, topB, evSs, evS, evT, evE, evEs, R.of, R.bind, R.st, RS.seq, List.getElem?_cons_zero, List.getElem?_cons_succ, Option.join_some, i1, i2, e, truF, if_false, c, Bool.false_eq_true]
  have irr : ¬ q 0 < q 0 := Rat.lt_irrefl
  have j1 : (if q 0 < q 1 then 1 else 0) < 4 := by split <;> decide
  have j2 : (if q (if q 0 < q 1 then 1 else 0) < q 2 then 2 else (if q 0 < q 1 then 1 else 0)) < 4 := by
    repeat' (first | decide | split)
  have l0 : evS P (callD P k) (.for [2] .range1 [.bi .len (.var 0)] (topB under)) [some (rowD q), some (.int 0), none] s = .nx [some (rowD q), some (.int ((top4 q : Nat) : Int)), some (.int (3 : Nat))] s := by
    rw [evS_for]
    have : evEs P (callD P k) [.bi .len (.var 0)] [some (rowD q), some (.int 0), none] s = .ok [.int 4] s := by
      have : biF .len s (rowD q) = some (.int 4) := rfl
      simp [evEs, evE, R.of, R.bind, this]
    rw [this, rbind_ok, srcF_range (by decide) (by decide), of_some, st_ok]
    have e1 : ((List.range (4 : Int).toNat).map fun i => D.int (i : Nat)) = [.int (0 : Nat), .int (1 : Nat), .int (2 : Nat), .int (3 : Nat)] := rfl
    have z0 : (.int 0 : D) = .int ((0 : Nat) : Int) := rfl
    rw [e1, z0, loopF, st 0 0 none (by decide) (by decide), if_neg irr]
    simp only
    rw [loopF, st 0 1 _ (by decide) (by decide)]
    simp only
    rw [loopF, st _ 2 _ j1 (by decide)]
    simp only
    rw [loopF, st _ 3 _ j2 (by decide)]
    rfl
  have s1 : evS P (callD P k) (.set 1 (.int 0)) [some (rowD q), none, none] s = .nx [some (rowD q), some (.int 0), none] s := by
    simp [evS, evE, R.st]
  rw [B_top, evSs_cons, s1, seq_nx, evSs_cons, l0, seq_nx]
  simp [evSs, evS, evE, R.of, R.st, RS.seq]
end
end G

set_option Elab.async false
set_option linter.all false
set_option maxRecDepth 100000
set_option exponentiation.threshold 300
namespace G
open PySem L2
/-! ### the descent to a place -/
def depths (F : Four) (p : Rat × Rat) (j : Nat) : Rat := depthQ (F.get j) p
def inside (F : Four) (p : Rat × Rat) : Prop := ∃ j, j < 4 ∧ depths F p j ≤ 0
/-- the word behind n swaps -/
def descW (F : Four) (p : Rat × Rat) : Nat → T
  | 0 => []
  | n + 1 => descW F p n ++ [97 + top4 (depths (F.after (descW F p n)) p)]
def descR (F : Four) (p : Rat × Rat) (n : Nat) : List D := (List.range (n + 1)).map fun t => rowD (depths (F.after (descW F p t)) p)
theorem descR_succ (F : Four) (p : Rat × Rat) (n : Nat) : descR F p (n + 1) = descR F p n ++ [rowD (depths (F.after (descW F p (n + 1))) p)] := by
  unfold descR
  rw [List.range_succ, List.map_append]
  rfl
theorem descW_len (F : Four) (p : Rat × Rat) : ∀ n, (descW F p n).length = n
  | 0 => rfl
  | n + 1 => by rw [descW, List.length_append, descW_len F p n]; rfl
theorem descW_abc (F : Four) (p : Rat × Rat) : ∀ n, Abc (descW F p n)
  | 0 => fun _ h => nomatch h
  | n + 1 => by
    rw [descW]
    refine (descW_abc F p n).app fun c hc => ?_
    rw [List.mem_singleton.mp hc]
    have h := top4_lt (depths (F.after (descW F p n)) p)
    generalize top4 (depths (F.after (descW F p n)) p) = i at h
    match i, h with
    | 0, _ => decide
    | 1, _ => decide
    | 2, _ => decide
    | 3, _ => decide
theorem descW_step (F : Four) (p : Rat × Rat) (n : Nat) : F.after (descW F p (n + 1)) = (F.after (descW F p n)).swap (top4 (depths (F.after (descW F p n)) p)) := by
  rw [descW, Four.after_app, Four.after_cons, Four.after_nil]
  congr 1
  omega
def DepthOk (call : CallS) (f : Nat) : Prop := ∀ (d : Disc) (p : Rat × Rat) (n m : Nat) (s : Stt), SzD n d → SzP m p → n ≤ 400 → m ≤ 600 → d.bend ≠ 0 → call f [discD d, placeD p] s = .ok (qD (depthQ d p)) s
theorem depth_sz {d : Disc} {p : Rat × Rat} {n m : Nat} (hd : SzD n d) (hp : SzP m p) : Sz (11 * n + 4 * m + 10) (depthQ d p) := by
  haveI := hd
  haveI := hp
  have h : Sz _ (d.bend * (apartQ (centerQ d) p - 1 / (d.bend * d.bend))) := SzC.sz
  exact h.mono (by omega)
theorem SizedF.szD {N m : Nat} {F : Four} (h : SizedF N m F) (h0 : N ≠ 0) (hN : N < 2 ^ m) (j : Nat) : SzD m (F.get j) := by
  have := h.get j
  exact ⟨this.back.sz h0 hN, this.bend.sz h0 hN, this.x.sz h0 hN, this.y.sz h0 hN⟩
theorem four_items (F : Four) : F.L = [discD (F.get 0), discD (F.get 1), discD (F.get 2), discD (F.get 3)] := rfl
theorem bends_of {F : Four} (h : ∀ j, j < 4 → (F.get j).bend ≠ 0) : True := trivial
section
variable {P : Prog} {k f : Nat}
/-- the four numbers of a place -/
theorem row_run {call : CallS} {depth N m n : Nat} {F : Four} {p : Rat × Rat} {ρ : Env} {s : Stt} (hd : DepthOk call depth) (h0 : N ≠ 0) (hN : N < 2 ^ m) (hm : m ≤ 400) (hF : SizedF N m F) (hp : SzP n p) (hn : n ≤ 600) (hb : ∀ j, j < 4 → (F.get j).bend ≠ 0) (h3 : ρ[3]?.join = some (fourD F)) (h1 : ρ[1]?.join = some (placeD p)) (h6 : 6 < ρ.length) :
    evE P call (.comp false (.call depth [.var 6, .var 1]) [6] [6] .seq [.var 3] none) ρ s = .ok (rowD (depths F p)) s := by
  rw [evE_comp]
  have e1 : evEs P call [.var 3] ρ s = .ok [fourD F] s := by simp only [evEs, evE, R.of, R.bind, h3]
  have e2 : srcF .seq s [fourD F] = some [discD (F.get 0), discD (F.get 1), discD (F.get 2), discD (F.get 3)] := by
    show some F.L = _
    rw [four_items]
  rw [e1, rbind_ok, e2, of_some, rbind_ok]
  have st : ∀ (j : Nat) (acc : List D), j < 4 → acc.length < 100 → compB P call (.call depth [.var 6, .var 1]) [6] [6] none ρ (discD (F.get j)) acc s = .ok (acc ++ [qD (depths F p j)]) s := fun j acc hj ha => by
    refine compB_of tg_own ?_ (Nat.lt_of_lt_of_le ha (by decide))
    have e := hd (F.get j) p m n s (hF.szD h0 hN j) hp hm hn (hb j hj)
    have g1 : (ρ.set 6 (some (discD (F.get j))))[1]?.join = some (placeD p) := by rw [List.getElem?_set_ne (by decide)]; exact h1
    have g6 : (ρ.set 6 (some (discD (F.get j))))[6]?.join = some (discD (F.get j)) := by rw [List.getElem?_set_self h6]; rfl
    simp only [evE, evEs, R.of, R.bind, g1, g6, e]
    rfl
  rw [loopC, st 0 _ (by decide) (by simp)]
  simp only
  rw [loopC, st 1 _ (by decide) (by simp)]
  simp only
  rw [loopC, st 2 _ (by decide) (by simp)]
  simp only
  rw [loopC, st 3 _ (by decide) (by simp)]
  rfl
def minE : E := .bi .min (.comp false (.ix (.var 6) (.int 0)) [6] [6] .seq [.ix (.var 5) (.neg (.int 1))] none)
def lastE : E := .ix (.var 5) (.neg (.int 1))
/-- one of the last row is nought or below -/
theorem min_run {call : CallS} {q : Nat → Rat} {ρ : Env} {s : Stt} (h5 : evE P call lastE ρ s = .ok (rowD q) s) (h6 : 6 < ρ.length) : ∃ v : Int, evE P call minE ρ s = .ok (.int v) s ∧ (v ≤ 0 ↔ ∃ j, j < 4 ∧ q j ≤ 0) := by
  have c : evE P call (.comp false (.ix (.var 6) (.int 0)) [6] [6] .seq [lastE] none) ρ s = .ok (.lst [.int (q 0).num, .int (q 1).num, .int (q 2).num, .int (q 3).num]) s := by
    rw [evE_comp]
    have e1 : evEs P call [lastE] ρ s = .ok [rowD q] s := by simp only [evEs, h5, R.bind]
    have e2 : srcF .seq s [rowD q] = some [qD (q 0), qD (q 1), qD (q 2), qD (q 3)] := rfl
    rw [e1, rbind_ok, e2, of_some, rbind_ok]
    have st : ∀ (x : Rat) (acc : List D), acc.length < 100 → compB P call (.ix (.var 6) (.int 0)) [6] [6] none ρ (qD x) acc s = .ok (acc ++ [.int x.num]) s := fun x acc ha => by
      refine compB_of tg_own ?_ (Nat.lt_of_lt_of_le ha (by decide))
      have g6 : (ρ.set 6 (some (qD x)))[6]?.join = some (qD x) := by rw [List.getElem?_set_self h6]; rfl
      simp only [evE, R.of, R.bind, g6, ix_q0]
    rw [loopC, st _ _ (by simp)]
    simp only
    rw [loopC, st _ _ (by simp)]
    simp only
    rw [loopC, st _ _ (by simp)]
    simp only
    rw [loopC, st _ _ (by simp)]
    rfl
  refine ⟨min (min (min (q 0).num (q 1).num) (q 2).num) (q 3).num, ?_, ?_⟩
  · rw [minE, evE]
    rw [show (E.comp false (.ix (.var 6) (.int 0)) [6] [6] .seq [.ix (.var 5) (.neg (.int 1))] none) = .comp false (.ix (.var 6) (.int 0)) [6] [6] .seq [lastE] none from rfl, c, rbind_ok]
    rfl
  · have np : ∀ x : Rat, x.num ≤ 0 ↔ x ≤ 0 := fun x => by
      have h1 := num_pos_iff (q := x)
      constructor
      · intro h
        exact Rat.not_lt.mp fun z => by have := h1.mpr z; omega
      · intro h
        have : ¬ 0 < x := Rat.not_lt.mpr h
        have : ¬ 0 < x.num := fun z => this (h1.mp z)
        omega
    constructor
    · intro h
      have : (q 0).num ≤ 0 ∨ (q 1).num ≤ 0 ∨ (q 2).num ≤ 0 ∨ (q 3).num ≤ 0 := by omega
      rcases this with z | z | z | z
      · exact ⟨0, by decide, (np _).mp z⟩
      · exact ⟨1, by decide, (np _).mp z⟩
      · exact ⟨2, by decide, (np _).mp z⟩
      · exact ⟨3, by decide, (np _).mp z⟩
    · rintro ⟨j, hj, hq⟩
      have hq := (np _).mpr hq
      match j, hj with
      | 0, _ => omega
      | 1, _ => omega
      | 2, _ => omega
      | 3, _ => omega
def descB (depth swap top : Nat) : List S := [.ite (.cmp .le minE (.int 0)) [.ret (.tup [.var 4, .var 5])] [], .set 8 (.call top [lastE]), .set 3 (.call swap [.var 3, .var 8]), .set 4 (.bin .add (.var 4) (.ix (.str [97, 98, 99, 100]) (.var 8))), .expr (.met .append (.var 5) [.comp false (.call depth [.var 6, .var 1]) [6] [6] .seq [.var 3] none])]
def B_desc (depth swap top : Nat) : List S := [.par [3, 4] [.bi .list (.var 0), .str []], .set 5 (.lst true [.comp false (.call depth [.var 6, .var 1]) [6] [6] .seq [.var 3] none]), .for [7] .range1 [.bin .add (.var 2) (.int 1)] (descB depth swap top), .ret (.non)]
/-- what the descent tells -/
def DescOk (call : CallS) (f : Nat) : Prop := ∀ (N m n most : Nat) (F : Four) (p : Rat × Rat) (s : Stt), RestOk s → N ≠ 0 → N < 2 ^ m → m + 5 * (most + 1) ≤ 360 → SizedF N m F → SzP n p → n ≤ 100 → (∀ w, Abc w → ∀ j, j < 4 → ((F.after w).get j).bend ≠ 0) →
  (∃ t, t ≤ most ∧ inside (F.after (descW F p t)) p ∧ (∀ u, u < t → ¬ inside (F.after (descW F p u)) p) ∧ call f [fourD F, placeD p, .int (most : Nat)] s = .ok (.tup [.str (descW F p t), .lst (descR F p t)]) s) ∨
  ((∀ u, u ≤ most → ¬ inside (F.after (descW F p u)) p) ∧ call f [fourD F, placeD p, .int (most : Nat)] s = .ok .non s)
theorem last_row {F : Four} {p : Rat × Rat} {n : Nat} : atI (descR F p n) (-1) = some (rowD (depths (F.after (descW F p n)) p)) := by
  have hl : (descR F p n).length = n + 1 := by unfold descR; rw [List.length_map, List.length_range]
  unfold atI ixN
  rw [if_neg (by decide), if_pos (by rw [hl]; omega)]
  have e : ((-1 : Int) + ((descR F p n).length : Nat)).toNat = n := by rw [hl]; omega
  show (descR F p n)[((-1 : Int) + ((descR F p n).length : Nat)).toNat]? = _
  rw [e]
  unfold descR
  rw [List.getElem?_map, List.getElem?_range (by omega)]
  rfl
/-- one turn -/
theorem desc_turn {call : CallS} {depth swap top N m n i : Nat} {F : Four} {p : Rat × Rat} {s : Stt} {x2 x6 x7 x8 : Option D} (hd : DepthOk call depth) (hs : SwapOk call swap) (ht : TopOk call top) (rs : ∀ rows, RestOk (s ++ [.lst rows]) ∨ True) (h0 : N ≠ 0) (hN : N < 2 ^ m) (hm : m + 5 * (i + 1) ≤ 360) (hF : SizedF N m F) (hp : SzP n p) (hn : n ≤ 100) (hb : ∀ w, Abc w → ∀ j, j < 4 → ((F.after w).get j).bend ≠ 0)
    (rs' : RestOk (s ++ [.lst (descR F p i)])) :
    (inside (F.after (descW F p i)) p → evSs P call (descB depth swap top) [some (fourD F), some (placeD p), x2, some (fourD (F.after (descW F p i))), some (.str (descW F p i)), some (.ref s.length), x6, x7, x8] (s ++ [.lst (descR F p i)]) = .rt (.tup [.str (descW F p i), .ref s.length]) (s ++ [.lst (descR F p i)])) ∧
    (¬ inside (F.after (descW F p i)) p → ∃ y8, evSs P call (descB depth swap top) [some (fourD F), some (placeD p), x2, some (fourD (F.after (descW F p i))), some (.str (descW F p i)), some (.ref s.length), x6, x7, x8] (s ++ [.lst (descR F p i)]) = .nx [some (fourD F), some (placeD p), x2, some (fourD (F.after (descW F p (i + 1)))), some (.str (descW F p (i + 1))), some (.ref s.length), x6, x7, y8] (s ++ [.lst (descR F p (i + 1))])) := by
  have hw := descW_abc F p i
  have lw := descW_len F p i
  have hFi := SizedF.after h0 (descW F p i) m F hF
  rw [lw] at hFi
  have up : ∀ a, N < 2 ^ (m + a) := fun a => Nat.lt_of_lt_of_le hN (Nat.pow_le_pow_right (by decide) (by omega))
  have stp := descW_step F p i
  have hr := descR_succ F p i
  have wsuc : descW F p (i + 1) = descW F p i ++ [97 + top4 (depths (F.after (descW F p i)) p)] := rfl
  have l0 : ixF (s ++ [.lst (descR F p i)]) (.ref s.length) (.int (-1)) = some (rowD (depths (F.after (descW F p i)) p)) := by
    simp only [ixF, get_at]
    exact last_row
  have lst : ∀ x3 x4 x8, evE P call lastE [some (fourD F), some (placeD p), x2, x3, x4, some (.ref s.length), x6, x7, x8] (s ++ [.lst (descR F p i)]) = .ok (rowD (depths (F.after (descW F p i)) p)) (s ++ [.lst (descR F p i)]) := fun x3 x4 x8 => by
    simp only [lastE, evE, R.of, R.bind, List.getElem?_cons_zero, List.getElem?_cons_succ, Option.join_some, l0]
  obtain ⟨v, e1, e2⟩ := min_run (P := P) (lst (some (fourD (F.after (descW F p i)))) (some (.str (descW F p i))) x8) (by simp)
  have bb := hb (descW F p i) hw
  have bb' := hb (descW F p (i + 1)) (descW_abc F p (i + 1))
  refine ⟨fun hin => ?_, fun hin => ?_⟩
  · have v0 : v ≤ 0 := e2.mpr hin
    have t0 : evT P call (.cmp .le minE (.int 0)) [some (fourD F), some (placeD p), x2, some (fourD (F.after (descW F p i))), some (.str (descW F p i)), some (.ref s.length), x6, x7, x8] (s ++ [.lst (descR F p i)]) = .ok true (s ++ [.lst (descR F p i)]) := by
      rw [evT, e1, rbind_ok, evE, rbind_ok]
      simp [cmpF, v0, R.of, R.bind]
    rw [descB, evSs_cons, evS, t0, st_ok, if_pos rfl]
    simp only [evSs, evS, evE, evEs, R.of, R.bind, R.st, RS.seq, List.getElem?_cons_zero, List.getElem?_cons_succ, Option.join_some, List.length_cons, List.length_nil, Nat.zero_add, Nat.reduceAdd, le2, if_true]
  · have v0 : ¬ v ≤ 0 := fun z => hin (e2.mp z)
    have t0 : evT P call (.cmp .le minE (.int 0)) [some (fourD F), some (placeD p), x2, some (fourD (F.after (descW F p i))), some (.str (descW F p i)), some (.ref s.length), x6, x7, x8] (s ++ [.lst (descR F p i)]) = .ok false (s ++ [.lst (descR F p i)]) := by
      rw [evT, e1, rbind_ok, evE, rbind_ok]
      simp [cmpF, v0, R.of, R.bind]
    have tp := ht (depths (F.after (descW F p i)) p) (11 * (m + 5 * i) + 4 * n + 10) (s ++ [.lst (descR F p i)]) (fun j hj => depth_sz (hFi.szD h0 (up _) j) hp) (by omega)
    have tl := top4_lt (depths (F.after (descW F p i)) p)
    have sw := hs N (m + 5 * i) (top4 (depths (F.after (descW F p i)) p)) (F.after (descW F p i)) (s ++ [.lst (descR F p i)]) rs' h0 (up _) (by omega) hFi tl
    rw [← stp] at sw
    have hFs := SizedF.after h0 (descW F p (i + 1)) m F hF
    rw [descW_len] at hFs
    have ltr : ixF (s ++ [.lst (descR F p i)]) (.str [97, 98, 99, 100]) (.int ((top4 (depths (F.after (descW F p i)) p) : Nat) : Int)) = some (.str [97 + top4 (depths (F.after (descW F p i)) p)]) := by
      refine ix_at tx_abcd ?_
      generalize top4 (depths (F.after (descW F p i)) p) = j at tl
      match j, tl with
      | 0, _ => rfl
      | 1, _ => rfl
      | 2, _ => rfl
      | 3, _ => rfl
    generalize top4 (depths (F.after (descW F p i)) p) = j at *
    have ad := add_str (a := descW F p i) (b := [97 + j]) (by rw [lw]; simp; omega)
    rw [← wsuc] at ad
    have rr := row_run (P := P) (call := call) (depth := depth) (F := F.after (descW F p (i + 1))) (p := p) (ρ := [some (fourD F), some (placeD p), x2, some (fourD (F.after (descW F p (i + 1)))), some (.str (descW F p (i + 1))), some (.ref s.length), x6, x7, some (.int (j : Nat))]) (s := s ++ [.lst (descR F p i)]) hd h0 (up _) (by omega) hFs hp (by omega) bb' rfl rfl (by simp)
    refine ⟨some (.int (j : Nat)), ?_⟩
    have c1 : meOk .append (s ++ [.lst (descR F p i)]) (.ref s.length) = true := by
      simp only [meOk, isCell, get_at]
    have lx : (descR F p i).length < sizeLine := by
      unfold descR
      rw [List.length_map, List.length_range]
      exact Nat.lt_of_lt_of_le (show i + 1 < 500 by omega) (by decide)
    have c2 : meF .append (s ++ [.lst (descR F p i)]) (.ref s.length) [rowD (depths (F.after (descW F p (i + 1))) p)] = .ok .non (s ++ [.lst (descR F p (i + 1))]) := by
      rw [hr]
      simp only [meF, get_at, lmF, lx, if_true, set_at]
    have s2 : evS P call (.set 8 (.call top [lastE])) [some (fourD F), some (placeD p), x2, some (fourD (F.after (descW F p i))), some (.str (descW F p i)), some (.ref s.length), x6, x7, x8] (s ++ [.lst (descR F p i)]) = .nx [some (fourD F), some (placeD p), x2, some (fourD (F.after (descW F p i))), some (.str (descW F p i)), some (.ref s.length), x6, x7, some (.int (j : Nat))] (s ++ [.lst (descR F p i)]) := by
      simp only [evS, evE, evEs, lst, R.bind, R.st, tp, List.set_cons_succ, List.set_cons_zero]
    have s3 : evS P call (.set 3 (.call swap [.var 3, .var 8])) [some (fourD F), some (placeD p), x2, some (fourD (F.after (descW F p i))), some (.str (descW F p i)), some (.ref s.length), x6, x7, some (.int (j : Nat))] (s ++ [.lst (descR F p i)]) = .nx [some (fourD F), some (placeD p), x2, some (fourD (F.after (descW F p (i + 1)))), some (.str (descW F p i)), some (.ref s.length), x6, x7, some (.int (j : Nat))] (s ++ [.lst (descR F p i)]) := by
      simp only [evS, evE, evEs, R.of, R.bind, R.st, List.getElem?_cons_zero, List.getElem?_cons_succ, Option.join_some, sw, List.set_cons_succ, List.set_cons_zero]
    have s4 : evS P call (.set 4 (.bin .add (.var 4) (.ix (.str [97, 98, 99, 100]) (.var 8)))) [some (fourD F), some (placeD p), x2, some (fourD (F.after (descW F p (i + 1)))), some (.str (descW F p i)), some (.ref s.length), x6, x7, some (.int (j : Nat))] (s ++ [.lst (descR F p i)]) = .nx [some (fourD F), some (placeD p), x2, some (fourD (F.after (descW F p (i + 1)))), some (.str (descW F p (i + 1))), some (.ref s.length), x6, x7, some (.int (j : Nat))] (s ++ [.lst (descR F p i)]) := by
      simp only [evS, evE, R.of, R.bind, R.st, List.getElem?_cons_zero, List.getElem?_cons_succ, Option.join_some, ltr, ad, List.set_cons_succ, List.set_cons_zero]
    have s5 : evS P call (.expr (.met .append (.var 5) [.comp false (.call depth [.var 6, .var 1]) [6] [6] .seq [.var 3] none])) [some (fourD F), some (placeD p), x2, some (fourD (F.after (descW F p (i + 1)))), some (.str (descW F p (i + 1))), some (.ref s.length), x6, x7, some (.int (j : Nat))] (s ++ [.lst (descR F p i)]) = .nx [some (fourD F), some (placeD p), x2, some (fourD (F.after (descW F p (i + 1)))), some (.str (descW F p (i + 1))), some (.ref s.length), x6, x7, some (.int (j : Nat))] (s ++ [.lst (descR F p (i + 1))]) := by
      have v5 : evE P call (.var 5) [some (fourD F), some (placeD p), x2, some (fourD (F.after (descW F p (i + 1)))), some (.str (descW F p (i + 1))), some (.ref s.length), x6, x7, some (.int (j : Nat))] (s ++ [.lst (descR F p i)]) = .ok (.ref s.length) (s ++ [.lst (descR F p i)]) := by simp only [evE, R.of, List.getElem?_cons_zero, List.getElem?_cons_succ, Option.join_some]
      rw [evS, evE, v5, rbind_ok, if_pos c1, evEs, rr, rbind_ok, evEs, rbind_ok, rbind_ok, c2, st_ok]
    rw [descB, evSs_cons, evS, t0, st_ok, if_neg (by decide), evSs_nil, seq_nx, evSs_cons, s2, seq_nx, evSs_cons, s3, seq_nx, evSs_cons, s4, seq_nx, evSs_cons, s5, seq_nx, evSs_nil]
end
end G

set_option Elab.async false
set_option linter.all false
set_option maxRecDepth 100000
set_option exponentiation.threshold 300
namespace G
open PySem L2
theorem row_under (n : Nat) (q : Nat → Rat) : (rowD q).under n = true := rfl
theorem descR_under (F : Four) (p : Rat × Rat) (i n : Nat) : D.unders n (descR F p i) = true := by
  unfold descR
  generalize List.range (i + 1) = l
  induction l with
  | nil => rfl
  | cons t l ih => rw [List.map_cons, D.unders, row_under, ih]; rfl
theorem restOk_rows {s : Stt} (rs : RestOk s) (F : Four) (p : Rat × Rat) (i : Nat) : RestOk (s ++ [.lst (descR F p i)]) := fun n => by
  rw [List.all_append, rs n]
  show (true && ((D.unders n (descR F p i)) && true)) = true
  rw [descR_under]
  rfl
theorem range_split (i r : Nat) : ((List.range' i (r + 1)).map fun j => D.int ((j : Nat) : Int)) = .int ((i : Nat) : Int) :: ((List.range' (i + 1) r).map fun j => D.int ((j : Nat) : Int)) := by
  rw [List.range'_succ]
  rfl
section
variable {P : Prog} {k f : Nat}
theorem desc_loop {call : CallS} {depth swap top N m n most : Nat} {F : Four} {p : Rat × Rat} {s : Stt} {x2 : Option D} (hd : DepthOk call depth) (hs : SwapOk call swap) (ht : TopOk call top) (rs : RestOk s) (h0 : N ≠ 0) (hN : N < 2 ^ m) (hm : m + 5 * (most + 1) ≤ 360) (hF : SizedF N m F) (hp : SzP n p) (hn : n ≤ 100) (hb : ∀ w, Abc w → ∀ j, j < 4 → ((F.after w).get j).bend ≠ 0) :
    ∀ (r i : Nat) (x6 x7 x8 : Option D), i + r = most + 1 → (∀ u, u < i → ¬ inside (F.after (descW F p u)) p) →
    (∃ t, t ≤ most ∧ inside (F.after (descW F p t)) p ∧ (∀ u, u < t → ¬ inside (F.after (descW F p u)) p) ∧ loopF (forB P call [7] (descB depth swap top)) ((List.range' i r).map fun j => .int ((j : Nat) : Int)) [some (fourD F), some (placeD p), x2, some (fourD (F.after (descW F p i))), some (.str (descW F p i)), some (.ref s.length), x6, x7, x8] (s ++ [.lst (descR F p i)]) = .rt (.tup [.str (descW F p t), .ref s.length]) (s ++ [.lst (descR F p t)])) ∨
    ((∀ u, u ≤ most → ¬ inside (F.after (descW F p u)) p) ∧ ∃ ρ', loopF (forB P call [7] (descB depth swap top)) ((List.range' i r).map fun j => .int ((j : Nat) : Int)) [some (fourD F), some (placeD p), x2, some (fourD (F.after (descW F p i))), some (.str (descW F p i)), some (.ref s.length), x6, x7, x8] (s ++ [.lst (descR F p i)]) = .nx ρ' (s ++ [.lst (descR F p (most + 1))])) := by
  intro r
  induction r with
  | zero =>
    intro i x6 x7 x8 hi hu
    right
    have : i = most + 1 := by omega
    subst this
    exact ⟨fun u h => hu u (by omega), _, rfl⟩
  | succ r ih =>
    intro i x6 x7 x8 hi hu
    obtain ⟨t1, t2⟩ := desc_turn (P := P) (s := s) (x2 := x2) (x6 := x6) (x7 := some (.int ((i : Nat) : Int))) (x8 := x8) (i := i) hd hs ht (fun _ => .inr trivial) h0 hN (by omega) hF hp hn hb (restOk_rows rs F p i)
    rw [range_split, loopF, forB_one]
    simp only [List.set_cons_succ, List.set_cons_zero]
    by_cases c : inside (F.after (descW F p i)) p
    · left
      rw [t1 c]
      exact ⟨i, by omega, c, hu, rfl⟩
    · obtain ⟨y8, t3⟩ := t2 c
      rw [t3]
      simp only
      exact ih (i + 1) x6 (some (.int ((i : Nat) : Int))) y8 (by omega) fun u h => by
        by_cases e : u = i
        · rw [e]; exact c
        · exact hu u (by omega)
theorem descOk {depth swap top : Nat} {df : Def} (hf : P.defs[f]? = some df) (h1 : df.ps.length = 3) (h2 : df.N.length = 9) (hb' : df.body = B_desc depth swap top) (hk : df.keep = false) (hd : DepthOk (callD P k) depth) (hs : SwapOk (callD P k) swap) (ht : TopOk (callD P k) top) : DescOk (callD P (k + 1)) f := fun N m n most F p s rs h0 hN hm hF hp hn hb => by
  have e0 : ([fourD F, placeD p, D.int (most : Nat)] : List D).map some ++ List.replicate (9 - ([fourD F, placeD p, D.int (most : Nat)] : List D).length) none = [some (fourD F), some (placeD p), some (.int (most : Nat)), none, none, none, none, none, none] := rfl
  have d0 : descW F p 0 = [] := rfl
  have s1 : evS P (callD P k) (.par [3, 4] [.bi .list (.var 0), .str []]) [some (fourD F), some (placeD p), some (.int (most : Nat)), none, none, none, none, none, none] s = .nx [some (fourD F), some (placeD p), some (.int (most : Nat)), some (fourD F), some (.str []), none, none, none, none] s := by
    have ls : biF .list s (fourD F) = some (fourD F) := rfl
    simp [evS, evE, evEs, R.of, R.bind, R.st, ls]
  have b0 := hb [] (fun _ h => nomatch h)
  rw [Four.after_nil] at b0
  have rr := row_run (P := P) (call := callD P k) (depth := depth) (F := F) (p := p) (ρ := [some (fourD F), some (placeD p), some (.int (most : Nat)), some (fourD F), some (.str []), none, none, none, none]) (s := s) hd h0 hN (by omega) hF hp (by omega) b0 rfl rfl (by simp)
  have r0 : descR F p 0 = [rowD (depths F p)] := by
    unfold descR
    show [rowD (depths (F.after (descW F p 0)) p)] = _
    rw [d0, Four.after_nil]
  have s2 : evS P (callD P k) (.set 5 (.lst true [.comp false (.call depth [.var 6, .var 1]) [6] [6] .seq [.var 3] none])) [some (fourD F), some (placeD p), some (.int (most : Nat)), some (fourD F), some (.str []), none, none, none, none] s = .nx [some (fourD F), some (placeD p), some (.int (most : Nat)), some (fourD F), some (.str []), some (.ref s.length), none, none, none] (s ++ [.lst (descR F p 0)]) := by
    rw [evS, evE, evEs, rr, rbind_ok, evEs, rbind_ok, rbind_ok, if_pos (show [rowD (depths F p)].length ≤ sizeLine from le1), st_ok, r0]
    simp only [List.set_cons_succ, List.set_cons_zero]
  have key := desc_loop (P := P) (s := s) (x2 := some (.int (most : Nat))) hd hs ht rs h0 hN hm hF hp hn hb (most + 1) 0 none none none (by omega) (fun u h => by omega)
  rw [d0, Four.after_nil] at key
  have lf : evS P (callD P k) (.for [7] .range1 [.bin .add (.var 2) (.int 1)] (descB depth swap top)) [some (fourD F), some (placeD p), some (.int (most : Nat)), some (fourD F), some (.str []), some (.ref s.length), none, none, none] (s ++ [.lst (descR F p 0)]) = loopF (forB P (callD P k) [7] (descB depth swap top)) ((List.range' 0 (most + 1)).map fun j => .int ((j : Nat) : Int)) [some (fourD F), some (placeD p), some (.int (most : Nat)), some (fourD F), some (.str []), some (.ref s.length), none, none, none] (s ++ [.lst (descR F p 0)]) := by
    rw [evS_for]
    have : evEs P (callD P k) [.bin .add (.var 2) (.int 1)] [some (fourD F), some (placeD p), some (.int (most : Nat)), some (fourD F), some (.str []), some (.ref s.length), none, none, none] (s ++ [.lst (descR F p 0)]) = .ok [.int ((most + 1 : Nat) : Int)] (s ++ [.lst (descR F p 0)]) := by
      simp [evEs, evE, R.of, R.bind, bin_add]
    rw [this, rbind_ok, srcF_range (by omega) (by omega), of_some, st_ok, Int.toNat_natCast, List.range_eq_range']
  rcases key with ⟨t, ht1, ht2, ht3, ht4⟩ | ⟨hno, ρ', hl⟩
  · left
    refine ⟨t, ht1, ht2, ht3, ?_⟩
    have fz : (D.tup [.str (descW F p t), .ref s.length]).freeze s.length (s ++ [.lst (descR F p t)]) = some (.tup [.str (descW F p t), .lst (descR F p t)]) := by
      have fr : (D.ref s.length).freeze s.length (s ++ [.lst (descR F p t)]) = some (.lst (descR F p t)) := by
        rw [D.freeze, if_neg (by omega), get_at]
        simp only
        rw [if_pos (descR_under F p t s.length)]
      have fs : (D.str (descW F p t)).freeze s.length (s ++ [.lst (descR F p t)]) = some (.str (descW F p t)) := rfl
      rw [D.freeze, D.freezes, fs, D.freezes, fr, D.freezes]
      rfl
    refine callD_new (s1 := s) (s2 := [.lst (descR F p t)]) (d := .tup [.str (descW F p t), .ref s.length]) hf h1.symm hk ?_ rfl (by simp) fz (rs _)
    rw [hb', h2, e0, B_desc, evSs_cons, s1, seq_nx, evSs_cons, s2, seq_nx, evSs_cons, lf, ht4, seq_rt]
  · right
    refine ⟨hno, ?_⟩
    refine callD_new (s1 := s) (s2 := [.lst (descR F p (most + 1))]) (d := .non) hf h1.symm hk ?_ rfl (by simp) rfl (rs _)
    rw [hb', h2, e0, B_desc, evSs_cons, s1, seq_nx, evSs_cons, s2, seq_nx, evSs_cons, lf, hl, seq_nx]
    simp [evSs, evS, evE, R.st, RS.seq]
end
end G

set_option Elab.async false
set_option linter.all false
set_option maxRecDepth 100000
set_option exponentiation.threshold 300
namespace G
open PySem L2
/-- the first of four that is nought or below -/
def low4 (q : Nat → Rat) : Nat := if q 0 ≤ 0 then 0 else if q 1 ≤ 0 then 1 else if q 2 ≤ 0 then 2 else 3
theorem low4_lt (q : Nat → Rat) : low4 q < 4 := by
  unfold low4
  repeat' (first | decide | split)
theorem low4_le {q : Nat → Rat} (h : ∃ j, j < 4 ∧ q j ≤ 0) : q (low4 q) ≤ 0 := by
  unfold low4
  by_cases c0 : q 0 ≤ 0
  · rw [if_pos c0]; exact c0
  · rw [if_neg c0]
    by_cases c1 : q 1 ≤ 0
    · rw [if_pos c1]; exact c1
    · rw [if_neg c1]
      by_cases c2 : q 2 ≤ 0
      · rw [if_pos c2]; exact c2
      · rw [if_neg c2]
        obtain ⟨j, hj, hq⟩ := h
        match j, hj with
        | 0, _ => exact absurd hq c0
        | 1, _ => exact absurd hq c1
        | 2, _ => exact absurd hq c2
        | 3, _ => exact hq
theorem swap_other (F : Four) : ∀ i j : Nat, i < 4 → j < 4 → i ≠ j → (F.swap i).get j = F.get j
  | 0, 0, _, _, h => absurd rfl h
  | 0, 1, _, _, _ => rfl
  | 0, 2, _, _, _ => rfl
  | 0, 3, _, _, _ => rfl
  | 1, 0, _, _, _ => rfl
  | 1, 1, _, _, h => absurd rfl h
  | 1, 2, _, _, _ => rfl
  | 1, 3, _, _, _ => rfl
  | 2, 0, _, _, _ => rfl
  | 2, 1, _, _, _ => rfl
  | 2, 2, _, _, h => absurd rfl h
  | 2, 3, _, _, _ => rfl
  | 3, 0, _, _, _ => rfl
  | 3, 1, _, _, _ => rfl
  | 3, 2, _, _, _ => rfl
  | 3, 3, _, _, h => absurd rfl h
theorem after_other {l : Nat} (hl : l ∈ abcd) (r : T) : ∀ F : Four, Abc r → l ∉ r → (F.after r).get (l - 97) = F.get (l - 97) := by
  induction r with
  | nil => intro F _ _; rw [Four.after_nil]
  | cons c r ih =>
    intro F hr hn
    have hc := hr c (by simp)
    have ne : c ≠ l := fun e => hn (by simp [e])
    rw [Four.after_cons, ih _ (fun d hd => hr d (List.mem_cons_of_mem _ hd)) (fun h => hn (List.mem_cons_of_mem _ h))]
    refine swap_other F _ _ (seat_lt hc) (seat_lt hl) ?_
    have h1 := abcd_cases hc
    have h2 := abcd_cases hl
    omega
/-- the stone on a seat is the one that its call names -/
theorem after_pre {l : Nat} (hl : l ∈ abcd) {w : T} (hw : Abc w) (F : Four) : F.stone (pre l w) l = (F.after w).get (l - 97) := by
  obtain ⟨r, h1, h2⟩ := pre_rest l _ w rfl
  have hr : Abc r := fun c hc => hw c (by rw [h1]; simp [hc])
  have e : F.after w = (F.after (pre l w)).after r := by
    conv => lhs; rw [h1]
    rw [Four.after_app]
  unfold Four.stone
  rw [e, after_other hl r _ hr h2]
theorem seat_mem {j : Nat} (h : j < 4) : 97 + j ∈ abcd := by
  match j, h with
  | 0, _ => decide
  | 1, _ => decide
  | 2, _ => decide
  | 3, _ => decide
section
variable {P : Prog} {k f : Nat}
def signE : E := .comp false (.cmp .gt (.ix (.var 5) (.int 0)) (.int 0)) [5] [5] .seq [.ix (.ix (.var 3) (.int 1)) (.neg (.int 1))] none
def B_found (desc lcall : Nat) : List S := [.set 3 (.call desc [.var 0, .var 1, .var 2]), .ite (.cmp .isN (.var 3) (.non)) [.ret (.non)] [], .set 4 (.met .lindex signE [.bl false]), .ret (.call lcall [.ix (.var 3) (.int 0), .ix (.str [97, 98, 99, 100]) (.var 4)])]
/-- the call that is found behind t swaps -/
def foundL (F : Four) (p : Rat × Rat) (t : Nat) : Nat := 97 + low4 (depths (F.after (descW F p t)) p)
def FoundOk (call : CallS) (f : Nat) : Prop := ∀ (N m n most : Nat) (F : Four) (p : Rat × Rat) (s : Stt), RestOk s → N ≠ 0 → N < 2 ^ m → m + 5 * (most + 1) ≤ 360 → SizedF N m F → SzP n p → n ≤ 100 → (∀ w, Abc w → ∀ j, j < 4 → ((F.after w).get j).bend ≠ 0) →
  (∃ t, t ≤ most ∧ inside (F.after (descW F p t)) p ∧ (∀ u, u < t → ¬ inside (F.after (descW F p u)) p) ∧ call f [fourD F, placeD p, .int (most : Nat)] s = .ok (.str (ct (pre (foundL F p t) (descW F p t)) (foundL F p t))) s) ∨
  ((∀ u, u ≤ most → ¬ inside (F.after (descW F p u)) p) ∧ call f [fourD F, placeD p, .int (most : Nat)] s = .ok .non s)
theorem lindex4 {s : Stt} (q : Nat → Rat) (h : ∃ j, j < 4 ∧ q j ≤ 0) : meF .lindex s (.lst [.bl (decide (0 < (q 0).num)), .bl (decide (0 < (q 1).num)), .bl (decide (0 < (q 2).num)), .bl (decide (0 < (q 3).num))]) [.bl false] = .ok (.int ((low4 q : Nat) : Int)) s := by
  have np : ∀ x : Rat, decide (0 < x.num) = !decide (x ≤ 0) := fun x => by
    by_cases c : x ≤ 0
    · have : ¬ 0 < x.num := fun z => Rat.not_lt.mpr c (num_pos_iff.mp z)
      rw [decide_eq_true c, decide_eq_false this]
      rfl
    · have : 0 < x.num := num_pos_iff.mpr (Rat.not_le.mp c)
      rw [decide_eq_false c, decide_eq_true this]
      rfl
  rw [np, np, np, np]
  have h3 : ¬ q 0 ≤ 0 → ¬ q 1 ≤ 0 → ¬ q 2 ≤ 0 → q 3 ≤ 0 := fun c0 c1 c2 => by
    obtain ⟨j, hj, hq⟩ := h
    match j, hj with
    | 0, _ => exact absurd hq c0
    | 1, _ => exact absurd hq c1
    | 2, _ => exact absurd hq c2
    | 3, _ => exact hq
  by_cases c0 : q 0 ≤ 0
  · rw [show low4 q = 0 by unfold low4; rw [if_pos c0], decide_eq_true c0]
    simp [meF, bools, List.findIdx?_cons]
  · by_cases c1 : q 1 ≤ 0
    · rw [show low4 q = 1 by unfold low4; rw [if_neg c0, if_pos c1], decide_eq_false c0, decide_eq_true c1]
      simp [meF, bools, List.findIdx?_cons]
    · by_cases c2 : q 2 ≤ 0
      · rw [show low4 q = 2 by unfold low4; rw [if_neg c0, if_neg c1, if_pos c2], decide_eq_false c0, decide_eq_false c1, decide_eq_true c2]
        simp [meF, bools, List.findIdx?_cons]
      · rw [show low4 q = 3 by unfold low4; rw [if_neg c0, if_neg c1, if_neg c2], decide_eq_false c0, decide_eq_false c1, decide_eq_false c2, decide_eq_true (h3 c0 c1 c2)]
        simp [meF, bools, List.findIdx?_cons]
theorem foundOk {desc lcall : Nat} (hf : Is P f 3 6 (B_found desc lcall)) (hd : DescOk (callD P k) desc) (hl : NameOk (callD P k) lcall) : FoundOk (callD P (k + 1)) f := fun N m n most F p s rs h0 hN hm hF hp hn hb => by
  have e0 : ([fourD F, placeD p, D.int (most : Nat)] : List D).map some ++ List.replicate (6 - 3) none = [some (fourD F), some (placeD p), some (.int (most : Nat)), none, none, none] := rfl
  rcases hd N m n most F p s rs h0 hN hm hF hp hn hb with ⟨t, t1, t2, t3, e⟩ | ⟨hno, e⟩
  · left
    refine ⟨t, t1, t2, t3, hf.rt rfl ?_ rfl⟩
    rw [e0]
    have ll := low4_lt (depths (F.after (descW F p t)) p)
    have li := lindex4 (s := s) (depths (F.after (descW F p t)) p) t2
    have lr := last_row (F := F) (p := p) (n := t)
    have tw : Tx (descW F p t) := (descW_abc F p t).tx (by rw [descW_len]; omega)
    have na := hl (descW F p t) (foundL F p t) s tw (seat_mem ll)
    have ltr : ixF s (.str [97, 98, 99, 100]) (.int ((low4 (depths (F.after (descW F p t)) p) : Nat) : Int)) = some (.str [foundL F p t]) := by
      refine ix_at tx_abcd ?_
      unfold foundL
      generalize low4 (depths (F.after (descW F p t)) p) = j at ll
      match j, ll with
      | 0, _ => rfl
      | 1, _ => rfl
      | 2, _ => rfl
      | 3, _ => rfl
    generalize descW F p t = w at *
    generalize descR F p t = rows at *
    generalize depths (F.after w) p = q at *
    have i1 : ixF s (.tup [.str w, .lst rows]) (.int 1) = some (.lst rows) := rfl
    have i0 : ixF s (.tup [.str w, .lst rows]) (.int 0) = some (.str w) := rfl
    have i2 : ixF s (.lst rows) (.int (-1)) = some (rowD q) := lr
    have s1 : evS P (callD P k) (.set 3 (.call desc [.var 0, .var 1, .var 2])) [some (fourD F), some (placeD p), some (.int (most : Nat)), none, none, none] s = .nx [some (fourD F), some (placeD p), some (.int (most : Nat)), some (.tup [.str w, .lst rows]), none, none] s := by
      simp only [evS, evE, evEs, R.of, R.bind, R.st, List.getElem?_cons_zero, List.getElem?_cons_succ, Option.join_some, e, List.set_cons_succ, List.set_cons_zero]
    have s2 : evS P (callD P k) (.ite (.cmp .isN (.var 3) (.non)) [.ret (.non)] []) [some (fourD F), some (placeD p), some (.int (most : Nat)), some (.tup [.str w, .lst rows]), none, none] s = .nx [some (fourD F), some (placeD p), some (.int (most : Nat)), some (.tup [.str w, .lst rows]), none, none] s := by
      simp [evS, evSs, evT, evE, R.of, R.bind, R.st, cmpF]
    have c : evE P (callD P k) signE [some (fourD F), some (placeD p), some (.int (most : Nat)), some (.tup [.str w, .lst rows]), none, none] s = .ok (.lst [.bl (decide (0 < (q 0).num)), .bl (decide (0 < (q 1).num)), .bl (decide (0 < (q 2).num)), .bl (decide (0 < (q 3).num))]) s := by
      rw [signE, evE_comp]
      have e1 : evEs P (callD P k) [.ix (.ix (.var 3) (.int 1)) (.neg (.int 1))] [some (fourD F), some (placeD p), some (.int (most : Nat)), some (.tup [.str w, .lst rows]), none, none] s = .ok [rowD q] s := by
        simp only [evEs, evE, R.of, R.bind, List.getElem?_cons_zero, List.getElem?_cons_succ, Option.join_some, i1, i2]
      have e2 : srcF .seq s [rowD q] = some [qD (q 0), qD (q 1), qD (q 2), qD (q 3)] := rfl
      rw [e1, rbind_ok, e2, of_some, rbind_ok]
      have st : ∀ (x : Rat) (acc : List D), acc.length < 100 → compB P (callD P k) (.cmp .gt (.ix (.var 5) (.int 0)) (.int 0)) [5] [5] none [some (fourD F), some (placeD p), some (.int (most : Nat)), some (.tup [.str w, .lst rows]), none, none] (qD x) acc s = .ok (acc ++ [.bl (decide (0 < x.num))]) s := fun x acc ha => by
        refine compB_of tg_own ?_ (Nat.lt_of_lt_of_le ha (by decide))
        simp only [evE, R.of, R.bind, List.set_cons_succ, List.set_cons_zero, List.getElem?_cons_zero, List.getElem?_cons_succ, Option.join_some, ix_q0, cmpF]
      rw [loopC, st _ _ (by simp)]
      simp only
      rw [loopC, st _ _ (by simp)]
      simp only
      rw [loopC, st _ _ (by simp)]
      simp only
      rw [loopC, st _ _ (by simp)]
      rfl
    have s3 : evS P (callD P k) (.set 4 (.met .lindex signE [.bl false])) [some (fourD F), some (placeD p), some (.int (most : Nat)), some (.tup [.str w, .lst rows]), none, none] s = .nx [some (fourD F), some (placeD p), some (.int (most : Nat)), some (.tup [.str w, .lst rows]), some (.int ((low4 q : Nat) : Int)), none] s := by
      have ok : ∀ L, meOk .lindex s (.lst L) = true := fun _ => rfl
      rw [evS, evE, c, rbind_ok, if_pos (ok _)]
      simp only [evEs, evE, R.bind, li, st_ok, List.set_cons_succ, List.set_cons_zero]
    rw [B_found, evSs_cons, s1, seq_nx, evSs_cons, s2, seq_nx, evSs_cons, s3, seq_nx]
    simp only [evSs, evS, evE, evEs, R.of, R.bind, R.st, RS.seq, List.getElem?_cons_zero, List.getElem?_cons_succ, Option.join_some, i0, ltr, na]
  · right
    refine ⟨hno, hf.rt rfl ?_ rfl⟩
    rw [e0]
    simp [B_found, evSs, evS, evT, evE, evEs, R.of, R.bind, R.st, RS.seq, e, cmpF]
end
end G

set_option Elab.async false
set_option linter.all false
set_option maxRecDepth 100000
set_option exponentiation.threshold 300
namespace G
open PySem L2
def Four.map (F : Four) (g : Disc → Disc) : Four := ⟨g F.a, g F.b, g F.c, g F.d⟩
theorem map_get (F : Four) (g : Disc → Disc) : ∀ j, (F.map g).get j = g (F.get j)
  | 0 => rfl
  | 1 => rfl
  | 2 => rfl
  | _ + 3 => rfl
theorem map_items (F : Four) (g : Disc → Disc) : (F.map g).L = [discD (g (F.get 0)), discD (g (F.get 1)), discD (g (F.get 2)), discD (g (F.get 3))] := rfl
section
variable {P : Prog} {k f : Nat}
/-- [e for v in four] -/
theorem map_run {call : CallS} {e src : E} {v : Nat} {ρ : Env} {s : Stt} {F : Four} (g : Disc → Disc) (h0 : evE P call src ρ s = .ok (fourD F) s) (he : ∀ j, j < 4 → evE P call e (ρ.set v (some (discD (F.get j)))) s = .ok (discD (g (F.get j))) s) :
    evE P call (.comp false e [v] [v] .seq [src] none) ρ s = .ok (fourD (F.map g)) s := by
  rw [evE_comp]
  have e1 : evEs P call [src] ρ s = .ok [fourD F] s := by simp only [evEs, h0, R.bind]
  have e2 : srcF .seq s [fourD F] = some [discD (F.get 0), discD (F.get 1), discD (F.get 2), discD (F.get 3)] := by
    show some F.L = _
    rw [four_items]
  rw [e1, rbind_ok, e2, of_some, rbind_ok]
  have st : ∀ (j : Nat) (acc : List D), j < 4 → acc.length < 100 → compB P call e [v] [v] none ρ (discD (F.get j)) acc s = .ok (acc ++ [discD (g (F.get j))]) s := fun j acc hj ha =>
    compB_of tg_own (he j hj) (Nat.lt_of_lt_of_le ha (by decide))
  rw [loopC, st 0 _ (by decide) (by simp)]
  simp only
  rw [loopC, st 1 _ (by decide) (by simp)]
  simp only
  rw [loopC, st 2 _ (by decide) (by simp)]
  simp only
  rw [loopC, st 3 _ (by decide) (by simp)]
  have : fourD (F.map g) = .lst [discD (g (F.get 0)), discD (g (F.get 1)), discD (g (F.get 2)), discD (g (F.get 3))] := by
    unfold fourD
    rw [map_items]
  rw [this]
  rfl
def B_seen (found depth stone inward : Nat) : List S := [.set 2 (.call found [.var 0, .var 1, .int 60]), .ite (.or [.cmp .isN (.var 2) (.non), .cmp .eq (.ix (.call depth [.call stone [.var 0, .var 2], .var 1]) (.int 0)) (.int 0)]) [.ret (.var 0)] [], .ret (.comp false (.call inward [.var 3, .var 1]) [3] [3] .seq [.var 0] none)]
def SeenOk (call : CallS) (f : Nat) : Prop := ∀ (N m n : Nat) (F : Four) (p : Rat × Rat) (s : Stt), RestOk s → N ≠ 0 → N < 2 ^ m → m ≤ 55 → SizedF N m F → SzP n p → n ≤ 100 → (∀ w, Abc w → ∀ j, j < 4 → ((F.after w).get j).bend ≠ 0) →
  ∃ G, call f [fourD F, placeD p] s = .ok (fourD G) s ∧ (G = F ∨ (G = F.map (inwardQ · p) ∧ ∃ w j, Abc w ∧ j < 4 ∧ depths (F.after w) p j < 0))
theorem seenOk {found depth stone inward : Nat} (hf : Is P f 2 4 (B_seen found depth stone inward)) (h1 : FoundOk (callD P k) found) (h2 : DepthOk (callD P k) depth) (h3 : StoneOk (callD P k) stone) (h4 : InwardOk (callD P k) inward) : SeenOk (callD P (k + 1)) f := fun N m n F p s rs h0 hN hm hF hp hn hb => by
  have e0 : ([fourD F, placeD p] : List D).map some ++ List.replicate (4 - 2) none = [some (fourD F), some (placeD p), none, none] := rfl
  rcases h1 N m n 60 F p s rs h0 hN (by omega) hF hp hn hb with ⟨t, t1, t2, t3, e⟩ | ⟨hno, e⟩
  · have ll := low4_lt (depths (F.after (descW F p t)) p)
    have le := low4_le t2
    have wa := descW_abc F p t
    have wl := descW_len F p t
    have sm := seat_mem ll
    have ca := CallA.pre wa sm
    have pl : (pre (97 + low4 (depths (F.after (descW F p t)) p)) (descW F p t)).length ≤ 60 := Nat.le_trans pre_len (by omega)
    have so := h3 N m F _ _ s rs h0 hN (by omega) hF ca
    have st := after_pre sm wa F
    rw [st] at so
    have sub : 97 + low4 (depths (F.after (descW F p t)) p) - 97 = low4 (depths (F.after (descW F p t)) p) := by omega
    rw [sub] at so
    have hFa := SizedF.after h0 (descW F p t) m F hF
    rw [wl] at hFa
    have sz := (hFa.mono (show m + 5 * t ≤ 355 by omega)).szD h0 (Nat.lt_of_lt_of_le hN (Nat.pow_le_pow_right (by decide) (by omega))) (low4 (depths (F.after (descW F p t)) p))
    have de := h2 _ p 355 n s sz hp (by decide) (by omega) (hb _ wa _ ll)
    have dd : depthQ ((F.after (descW F p t)).get (low4 (depths (F.after (descW F p t)) p))) p = depths (F.after (descW F p t)) p (low4 (depths (F.after (descW F p t)) p)) := rfl
    have fl : foundL F p t = 97 + low4 (depths (F.after (descW F p t)) p) := rfl
    rw [fl] at e
    have e60 : ((60 : Nat) : Int) = 60 := rfl
    rw [e60] at e
    generalize ct (pre (97 + low4 (depths (F.after (descW F p t)) p)) (descW F p t)) (97 + low4 (depths (F.after (descW F p t)) p)) = c at *
    by_cases z : depths (F.after (descW F p t)) p (low4 (depths (F.after (descW F p t)) p)) = 0
    · refine ⟨F, hf.rt rfl ?_ rfl, .inl rfl⟩
      rw [e0]
      rw [dd, z] at de
      have n0 : eqF (.int (0 : Rat).num) (.int 0) = some true := by rw [eqF_int]; rfl
      simp only [B_seen, evSs, evS, evT, evTOr, evE, evEs, R.of, R.bind, R.st, RS.seq, List.getElem?_cons_zero, List.getElem?_cons_succ, Option.join_some, e, List.set_cons_succ, List.set_cons_zero, cmpF, so, de, ix_q0, n0, Option.map_some, if_true, if_false, Bool.false_eq_true]
    · have lt0 : depths (F.after (descW F p t)) p (low4 (depths (F.after (descW F p t)) p)) < 0 := Rat.not_le.mp fun h => z (Rat.le_antisymm le h)
      refine ⟨F.map (inwardQ · p), hf.rt rfl ?_ rfl, .inr ⟨rfl, _, _, wa, ll, lt0⟩⟩
      rw [e0]
      rw [dd] at de
      have n0 : ∀ q : Rat, q ≠ 0 → eqF (.int q.num) (.int 0) = some false := fun q hq => by rw [eqF_int, decide_eq_false (num_ne hq)]
      have n1 := n0 _ z
      have b0 := hb [] (fun _ h => nomatch h)
      rw [Four.after_nil] at b0
      have mp := map_run (P := P) (call := callD P k) (e := .call inward [.var 3, .var 1]) (src := .var 0) (v := 3) (ρ := [some (fourD F), some (placeD p), some (.str c), none]) (s := s) (F := F) (inwardQ · p) (by simp only [evE, R.of, List.getElem?_cons_zero, Option.join_some]) (fun j hj => by
        have := h4 (F.get j) p m n s (hF.szD h0 hN j) hp (by omega) (b0 j hj)
        simp only [evE, evEs, R.of, R.bind, List.set_cons_succ, List.set_cons_zero, List.getElem?_cons_zero, List.getElem?_cons_succ, Option.join_some, this])
      generalize depths (F.after (descW F p t)) p (low4 (depths (F.after (descW F p t)) p)) = q at *
      have s1 : evS P (callD P k) (.set 2 (.call found [.var 0, .var 1, .int 60])) [some (fourD F), some (placeD p), none, none] s = .nx [some (fourD F), some (placeD p), some (.str c), none] s := by
        simp only [evS, evE, evEs, R.of, R.bind, R.st, List.getElem?_cons_zero, List.getElem?_cons_succ, Option.join_some, e, List.set_cons_succ, List.set_cons_zero]
      have s2 : evS P (callD P k) (.ite (.or [.cmp .isN (.var 2) (.non), .cmp .eq (.ix (.call depth [.call stone [.var 0, .var 2], .var 1]) (.int 0)) (.int 0)]) [.ret (.var 0)] []) [some (fourD F), some (placeD p), some (.str c), none] s = .nx [some (fourD F), some (placeD p), some (.str c), none] s := by
        simp only [evSs, evS, evT, evTOr, evE, evEs, R.of, R.bind, R.st, List.getElem?_cons_zero, List.getElem?_cons_succ, Option.join_some, cmpF, so, de, ix_q0, n1, Option.map_some, if_false, Bool.false_eq_true]
      rw [B_seen, evSs_cons, s1, seq_nx, evSs_cons, s2, seq_nx, evSs_cons, evS, mp, st_ok, seq_rt]
  · refine ⟨F, hf.rt rfl ?_ rfl, .inl rfl⟩
    rw [e0]
    have e60 : ((60 : Nat) : Int) = 60 := rfl
    rw [e60] at e
    simp only [B_seen, evSs, evS, evT, evTOr, evE, evEs, R.of, R.bind, R.st, RS.seq, List.getElem?_cons_zero, List.getElem?_cons_succ, Option.join_some, e, List.set_cons_succ, List.set_cons_zero, cmpF, if_true]
end
end G

set_option Elab.async false
set_option linter.all false
set_option maxRecDepth 100000
set_option exponentiation.threshold 300
namespace G
open PySem L2
/-! ### bends that are never nought: odd ones stay odd, even ones are 2 by 4 -/
def oddish (a : Int) : Prop := a % 2 = 1 ∨ a % 4 = 2
def I4 (F : Four) : Prop := ∃ a b c d : Int, F.a.bend = (a : Rat) ∧ F.b.bend = (b : Rat) ∧ F.c.bend = (c : Rat) ∧ F.d.bend = (d : Rat) ∧ oddish a ∧ oddish b ∧ oddish c ∧ oddish d ∧ (a + b + c + d) % 2 = 0
theorem nw_int (p q r o : Int) : nwQ (p : Rat) (q : Rat) (r : Rat) (o : Rat) = ((2 * (p + q + r) - o : Int) : Rat) := by
  unfold nwQ
  push_cast
  grind
theorem oddish_new {p q r o : Int} (ho : oddish o) (h : (p + q + r + o) % 2 = 0) : oddish (2 * (p + q + r) - o) ∧ (2 * (p + q + r) - o) % 2 = o % 2 := by
  unfold oddish at *
  omega
theorem I4.swap {F : Four} (h : I4 F) : ∀ i, I4 (F.swap i)
  | 0 => by
    obtain ⟨a, b, c, d, ha, hb, hc, hd, oa, ob, oc, od, s⟩ := h
    obtain ⟨o1, o2⟩ := oddish_new (p := b) (q := c) (r := d) oa (by omega)
    refine ⟨2 * (b + c + d) - a, b, c, d, ?_, hb, hc, hd, o1, ob, oc, od, by omega⟩
    have : (F.swap 0).a.bend = nwQ F.b.bend F.c.bend F.d.bend F.a.bend := rfl
    rw [this, ha, hb, hc, hd, nw_int]
  | 1 => by
    obtain ⟨a, b, c, d, ha, hb, hc, hd, oa, ob, oc, od, s⟩ := h
    obtain ⟨o1, o2⟩ := oddish_new (p := a) (q := c) (r := d) ob (by omega)
    refine ⟨a, 2 * (a + c + d) - b, c, d, ha, ?_, hc, hd, oa, o1, oc, od, by omega⟩
    have : (F.swap 1).b.bend = nwQ F.a.bend F.c.bend F.d.bend F.b.bend := rfl
    rw [this, ha, hb, hc, hd, nw_int]
  | 2 => by
    obtain ⟨a, b, c, d, ha, hb, hc, hd, oa, ob, oc, od, s⟩ := h
    obtain ⟨o1, o2⟩ := oddish_new (p := a) (q := b) (r := d) oc (by omega)
    refine ⟨a, b, 2 * (a + b + d) - c, d, ha, hb, ?_, hd, oa, ob, o1, od, by omega⟩
    have : (F.swap 2).c.bend = nwQ F.a.bend F.b.bend F.d.bend F.c.bend := rfl
    rw [this, ha, hb, hc, hd, nw_int]
  | n + 3 => by
    obtain ⟨a, b, c, d, ha, hb, hc, hd, oa, ob, oc, od, s⟩ := h
    obtain ⟨o1, o2⟩ := oddish_new (p := a) (q := b) (r := c) od (by omega)
    refine ⟨a, b, c, 2 * (a + b + c) - d, ha, hb, hc, ?_, oa, ob, oc, o1, by omega⟩
    have : (F.swap (n + 3)).d.bend = nwQ F.a.bend F.b.bend F.c.bend F.d.bend := rfl
    rw [this, ha, hb, hc, hd, nw_int]
theorem I4.after (w : T) : ∀ {F : Four}, I4 F → I4 (F.after w) := by
  induction w with
  | nil => intro F h; rw [Four.after_nil]; exact h
  | cons c w ih => intro F h; rw [Four.after_cons]; exact ih (h.swap _)
theorem oddish_ne {a : Int} (h : oddish a) : (a : Rat) ≠ 0 := by
  intro e
  have : a = 0 := by exact_mod_cast e
  subst this
  unfold oddish at h
  omega
theorem I4.ne {F : Four} (h : I4 F) : ∀ j, j < 4 → (F.get j).bend ≠ 0
  | 0, _ => by
    obtain ⟨a, b, c, d, ha, hb, hc, hd, oa, ob, oc, od, s⟩ := h
    have : (F.get 0).bend = F.a.bend := rfl
    rw [this, ha]
    exact oddish_ne oa
  | 1, _ => by
    obtain ⟨a, b, c, d, ha, hb, hc, hd, oa, ob, oc, od, s⟩ := h
    have : (F.get 1).bend = F.b.bend := rfl
    rw [this, hb]
    exact oddish_ne ob
  | 2, _ => by
    obtain ⟨a, b, c, d, ha, hb, hc, hd, oa, ob, oc, od, s⟩ := h
    have : (F.get 2).bend = F.c.bend := rfl
    rw [this, hc]
    exact oddish_ne oc
  | 3, _ => by
    obtain ⟨a, b, c, d, ha, hb, hc, hd, oa, ob, oc, od, s⟩ := h
    have : (F.get 3).bend = F.d.bend := rfl
    rw [this, hd]
    exact oddish_ne od
/-- no bend behind any word is nought -/
theorem I4.all {F : Four} (h : I4 F) : ∀ w, Abc w → ∀ j, j < 4 → ((F.after w).get j).bend ≠ 0 := fun w _ => (h.after w).ne
/-! the first four, in a drawn order -/
def Four.discs (F : Four) : List Disc := [F.a, F.b, F.c, F.d]
theorem discs_L (F : Four) : F.L = F.discs.map discD := rfl
theorem base_mem {o : Disc} (h : o ∈ baseF.discs) : (∃ a : Int, o.bend = (a : Rat) ∧ oddish a) ∧ SizedD 1 2 o := by
  have z : ∀ i : Int, i.natAbs < 4 → Sized 1 2 (i : Rat) := fun i hi => ⟨i, by rw [Rat.divInt_eq_div]; simp; grind, hi⟩
  have z0 : Sized 1 2 0 := by simpa using z 0 (by decide)
  have z1 : Sized 1 2 1 := by simpa using z 1 (by decide)
  have z2 : Sized 1 2 2 := by simpa using z 2 (by decide)
  have z3 : Sized 1 2 3 := by simpa using z 3 (by decide)
  have zm : Sized 1 2 (-1) := by simpa using z (-1) (by decide)
  simp only [Four.discs, baseF, List.mem_cons, List.not_mem_nil, or_false] at h
  rcases h with e | e | e | e <;> subst e
  · exact ⟨⟨-1, by simp, .inl (by decide)⟩, z1, zm, z0, z0⟩
  · exact ⟨⟨2, by simp, .inr (by decide)⟩, z0, z2, z1, z0⟩
  · exact ⟨⟨2, by simp, .inr (by decide)⟩, z0, z2, zm, z0⟩
  · exact ⟨⟨3, by simp, .inl (by decide)⟩, z1, z3, z0, z2⟩
theorem sum_perm {l m : List Rat} (h : l.Perm m) : l.sum = m.sum := by
  induction h with
  | nil => rfl
  | cons x _ ih => rw [List.sum_cons, List.sum_cons, ih]
  | swap x y l =>
    simp only [List.sum_cons]
    grind
  | trans _ _ a b => exact a.trans b
theorem base_sum {F : Four} (h : F.discs.Perm baseF.discs) : F.a.bend + F.b.bend + F.c.bend + F.d.bend = 6 := by
  have h1 := sum_perm (h.map Disc.bend)
  have h2 : (baseF.discs.map Disc.bend).sum = 6 := by decide +kernel
  have h3 : (F.discs.map Disc.bend).sum = F.a.bend + (F.b.bend + (F.c.bend + (F.d.bend + 0))) := rfl
  rw [h2, h3] at h1
  grind
theorem base_I4 {F : Four} (h : F.discs.Perm baseF.discs) : I4 F ∧ SizedF 1 2 F := by
  have m : ∀ o ∈ F.discs, (∃ a : Int, o.bend = (a : Rat) ∧ oddish a) ∧ SizedD 1 2 o := fun o ho => base_mem (h.mem_iff.mp ho)
  obtain ⟨⟨a, ha, oa⟩, sa⟩ := m F.a (by simp [Four.discs])
  obtain ⟨⟨b, hb, ob⟩, sb⟩ := m F.b (by simp [Four.discs])
  obtain ⟨⟨c, hc, oc⟩, sc⟩ := m F.c (by simp [Four.discs])
  obtain ⟨⟨d, hd, od⟩, sd⟩ := m F.d (by simp [Four.discs])
  have hs := base_sum h
  rw [ha, hb, hc, hd] at hs
  have hs' : a + b + c + d = 6 := by exact_mod_cast hs
  exact ⟨⟨a, b, c, d, ha, hb, hc, hd, oa, ob, oc, od, by omega⟩, sa, sb, sc, sd⟩
theorem shuffled_base {ys : List D} (h : ys.Perm baseF.L) : ∃ F : Four, ys = F.L ∧ F.discs.Perm baseF.discs := by
  obtain ⟨l, hl, e⟩ := L2.perm_lift discD h baseF.discs (discs_L baseF).symm
  have h4 : l.length = 4 := hl.length_eq
  match l, h4 with
  | [a, b, c, d], _ => exact ⟨⟨a, b, c, d⟩, e.symm, hl⟩
theorem still_disc (o : Disc) : Still (discD o) := fun _ _ => rfl
end G

set_option Elab.async false
set_option linter.all false
set_option maxRecDepth 100000
set_option exponentiation.threshold 300
namespace G
open PySem L2
/-- what is drawn: the base in some order, behind a word, looked at from elsewhere -/
def SceneG (most : Nat) (G : Four) : Prop := ∃ (B : Four) (w : T), B.discs.Perm baseF.discs ∧ Word w ∧ w.length ≤ most ∧
  (G = B.after w ∨ (∃ p, SzP 14 p ∧ G = (B.after w).map (inwardQ · p) ∧ ∃ u j, Abc u ∧ j < 4 ∧ depths ((B.after w).after u) p j < 0) ∨ (∃ p, SzP 14 p ∧ G = (B.after w).map (movedQ · p)) ∨ (∃ t, SzP 5 t ∧ t.1 * t.1 + t.2 * t.2 = 1 ∧ G = (B.after w).map (turnedQ · t)) ∨ (∃ q : Rat, SzC 5 q ∧ 0 < q ∧ G = (B.after w).map (grownQ · q)))
theorem ne_zero {c : Nat} (h : 0 < c) (n : Nat) : ((c : Int)) ≠ 0 := by omega
section
variable {P : Prog} {k f : Nat}
def B_scene (after shuf base word pull seen spot moved turn turned low grown : Nat) : List S := [.set 2 (.call after [.call shuf [.var 0, .call base []], .call word [.var 0, .var 1]]), .set 3 (.call pull [.var 0, .int 7]), .ite (.cmp .lt (.var 3) (.int 2)) [.ret (.call seen [.var 2, .call spot [.var 0, .int 4, .int 2]])] [], .ite (.cmp .eq (.var 3) (.int 2)) [.set 4 (.call spot [.var 0, .int 5, .int 3]), .ret (.comp false (.call moved [.var 5, .var 4]) [5] [5] .seq [.var 2] none)] [], .ite (.cmp .eq (.var 3) (.int 3)) [.set 4 (.call turn [.var 0]), .ret (.comp false (.call turned [.var 5, .var 4]) [5] [5] .seq [.var 2] none)] [], .ite (.cmp .eq (.var 3) (.int 4)) [.set 6 (.call low [.bin .add (.int 1) (.call pull [.var 0, .int 9]), .bin .add (.int 1) (.call pull [.var 0, .int 9])]), .ret (.comp false (.call grown [.var 5, .var 6]) [5] [5] .seq [.var 2] none)] [], .ret (.var 2)]
def SceneOk (call : CallS) (f : Nat) : Prop := ∀ (b : Cell) (rest : Stt) (most : Nat), BagOK b → RestOk rest → most ≤ 10 → Draw (call f [.ref 0, .int (most : Nat)] (b :: rest)) rest fun d => ∃ G, d = fourD G ∧ SceneG most G
theorem sceneOk {after shuf base word pull seen spot moved turn turned low grown : Nat} (hf : Is P f 2 7 (B_scene after shuf base word pull seen spot moved turn turned low grown)) (h1 : AfterOk (callD P k) after) (h2 : ShufOk (callD P k) shuf) (h3 : ∀ s, callD P k base [] s = .ok (fourD baseF) s) (h4 : WordOk (callD P k) word) (h5 : PullOk (callD P k) pull) (h6 : SeenOk (callD P k) seen) (h7 : SpotOk (callD P k) spot) (h8 : MovedOk (callD P k) moved) (h9 : TurnOk (callD P k) turn) (h10 : TurnedDOk (callD P k) turned) (h11 : LowOk (callD P k) low) (h12 : GrownOk (callD P k) grown) : SceneOk (callD P (k + 1)) f := fun b rest most ob hr hm => by
  obtain ⟨_, b1, e1, o1, ys, rfl, hp⟩ := h2 b rest baseF.L ob hr (by simp [Four.L]) (fun x hx => by
    rw [discs_L] at hx
    obtain ⟨o, _, rfl⟩ := List.mem_map.mp hx
    exact still_disc o)
  obtain ⟨B, rfl, hB⟩ := shuffled_base hp
  obtain ⟨i4, sB⟩ := base_I4 hB
  obtain ⟨_, b2, e2, o2, w, rfl, hw, lw⟩ := h4 b1 rest (most : Nat) o1 (by omega) (by omega)
  have lw' : w.length ≤ most := by omega
  have rs2 : RestOk (b2 :: rest) := fun n => bag_under o2 hr n
  have e3 := h1 1 2 B w (b2 :: rest) rs2 (by decide) (by decide) (by omega) sB hw.1
  have iF := i4.after w
  have sF := (SizedF.after (by decide) w 2 B sB).mono (show 2 + 5 * w.length ≤ 52 by omega)
  have szd := sF.szD (by decide) (by decide)
  have bn := iF.ne
  have hF : ∃ F, F = B.after w := ⟨_, rfl⟩
  obtain ⟨F, eF⟩ := hF
  rw [← eF] at e3 iF sF szd bn
  obtain ⟨v, b3, e4, o3, gv, lv⟩ := h5 b2 rest 7 3 o2 (by decide) (by decide) (by decide)
  have e0 : ([D.ref 0, D.int (most : Nat)] : List D).map some ++ List.replicate (7 - 2) none = [some (.ref 0), some (.int (most : Nat)), none, none, none, none, none] := rfl
  have pre : ∀ r : List S, evSs P (callD P k) (.set 2 (.call after [.call shuf [.var 0, .call base []], .call word [.var 0, .var 1]]) :: .set 3 (.call pull [.var 0, .int 7]) :: r) [some (.ref 0), some (.int (most : Nat)), none, none, none, none, none] (b :: rest) = evSs P (callD P k) r [some (.ref 0), some (.int (most : Nat)), some (fourD F), some (.int v), none, none, none] (b3 :: rest) := fun r => by
    have e1' : callD P k shuf [.ref 0, fourD baseF] (b :: rest) = .ok (.lst B.L) (b1 :: rest) := e1
    have e3' : callD P k after [.lst B.L, .str w] (b2 :: rest) = .ok (fourD F) (b2 :: rest) := e3
    have a1 : evS P (callD P k) (.set 2 (.call after [.call shuf [.var 0, .call base []], .call word [.var 0, .var 1]])) [some (.ref 0), some (.int (most : Nat)), none, none, none, none, none] (b :: rest) = .nx [some (.ref 0), some (.int (most : Nat)), some (fourD F), none, none, none, none] (b2 :: rest) := by
      simp only [evS, evE, evEs, R.of, R.bind, R.st, List.getElem?_cons_zero, List.getElem?_cons_succ, Option.join_some, h3, e1', e2, e3', List.set_cons_succ, List.set_cons_zero]
    have a2 : evS P (callD P k) (.set 3 (.call pull [.var 0, .int 7])) [some (.ref 0), some (.int (most : Nat)), some (fourD F), none, none, none, none] (b2 :: rest) = .nx [some (.ref 0), some (.int (most : Nat)), some (fourD F), some (.int v), none, none, none] (b3 :: rest) := by
      simp only [evS, evE, evEs, R.of, R.bind, R.st, List.getElem?_cons_zero, Option.join_some, e4, List.set_cons_succ, List.set_cons_zero]
    rw [evSs_cons, a1, seq_nx, evSs_cons, a2, seq_nx]
  have no : ∀ (i : Int) (a r : List S) (ρ : Env) (s : Stt), ρ[3]?.join = some (.int v) → v ≠ i → evSs P (callD P k) (.ite (.cmp .eq (.var 3) (.int i)) a [] :: r) ρ s = evSs P (callD P k) r ρ s := fun i a r ρ s h h' => by
    rw [evSs_cons, evS]
    have : evT P (callD P k) (.cmp .eq (.var 3) (.int i)) ρ s = .ok false s := by
      simp only [evT, evE, R.of, R.bind, h, cmpF, eqF_int, decide_eq_false h', Option.map_some]
    rw [this, st_ok, if_neg (by decide), evSs_nil, seq_nx]
  have lt2 : ¬ v < 2 → ∀ (a r : List S), evSs P (callD P k) (.ite (.cmp .lt (.var 3) (.int 2)) a [] :: r) [some (.ref 0), some (.int (most : Nat)), some (fourD F), some (.int v), none, none, none] (b3 :: rest) = evSs P (callD P k) r [some (.ref 0), some (.int (most : Nat)), some (fourD F), some (.int v), none, none, none] (b3 :: rest) := fun h a r => by
    rw [evSs_cons, evS]
    have : evT P (callD P k) (.cmp .lt (.var 3) (.int 2)) [some (.ref 0), some (.int (most : Nat)), some (fourD F), some (.int v), none, none, none] (b3 :: rest) = .ok false (b3 :: rest) := by
      simp only [evT, evE, R.of, R.bind, List.getElem?_cons_zero, List.getElem?_cons_succ, Option.join_some, cmpF, decide_eq_false h]
    rw [this, st_ok, if_neg (by decide), evSs_nil, seq_nx]
  have wrap : ∀ G, SceneG most G ↔ SceneG most G := fun _ => Iff.rfl
  by_cases c2 : v < 2
  · obtain ⟨_, b4, e5, o4, p, rfl, sp⟩ := h7 b3 rest 4 2 o3 hr (by decide) (by decide) (by decide) (by decide)
    have rs4 : RestOk (b4 :: rest) := fun n => bag_under o4 hr n
    obtain ⟨G, e6, hG⟩ := h6 1 52 14 F p (b4 :: rest) rs4 (by decide) (by decide) (by decide) sF sp (by decide) iF.all
    refine ⟨fourD G, b4, hf.rt rfl ?_ rfl, o4, G, rfl, B, w, hB, hw, lw', ?_⟩
    · rw [e0, B_scene, pre, evSs_cons, evS]
      have : evT P (callD P k) (.cmp .lt (.var 3) (.int 2)) [some (.ref 0), some (.int (most : Nat)), some (fourD F), some (.int v), none, none, none] (b3 :: rest) = .ok true (b3 :: rest) := by
        simp only [evT, evE, R.of, R.bind, List.getElem?_cons_zero, List.getElem?_cons_succ, Option.join_some, cmpF, decide_eq_true c2]
      rw [this, st_ok, if_pos rfl]
      simp only [evSs, evS, evE, evEs, R.of, R.bind, R.st, RS.seq, List.getElem?_cons_zero, List.getElem?_cons_succ, Option.join_some, e5, e6]
    · rw [← eF]
      rcases hG with h | ⟨h, u⟩
      · exact .inl h
      · exact .inr (.inl ⟨p, sp, h, u⟩)
  · by_cases c3 : v = 2
    · obtain ⟨_, b4, e5, o4, p, rfl, sp⟩ := h7 b3 rest 5 3 o3 hr (by decide) (by decide) (by decide) (by decide)
      have mp := map_run (P := P) (call := callD P k) (e := .call moved [.var 5, .var 4]) (src := .var 2) (v := 5) (ρ := [some (.ref 0), some (.int (most : Nat)), some (fourD F), some (.int v), some (placeD p), none, none]) (s := b4 :: rest) (F := F) (movedQ · p) (by simp only [evE, R.of, List.getElem?_cons_zero, List.getElem?_cons_succ, Option.join_some]) (fun j hj => by
        have := h8 (F.get j) p 52 14 (b4 :: rest) (szd j) sp (by decide) (bn j hj)
        simp only [evE, evEs, R.of, R.bind, List.set_cons_succ, List.set_cons_zero, List.getElem?_cons_zero, List.getElem?_cons_succ, Option.join_some, this])
      refine ⟨fourD (F.map (movedQ · p)), b4, hf.rt rfl ?_ rfl, o4, _, rfl, B, w, hB, hw, lw', .inr (.inr (.inl ⟨p, sp, by rw [eF]⟩))⟩
      rw [e0, B_scene, pre, lt2 c2, evSs_cons, evS]
      have : evT P (callD P k) (.cmp .eq (.var 3) (.int 2)) [some (.ref 0), some (.int (most : Nat)), some (fourD F), some (.int v), none, none, none] (b3 :: rest) = .ok true (b3 :: rest) := by
        simp only [evT, evE, R.of, R.bind, List.getElem?_cons_zero, List.getElem?_cons_succ, Option.join_some, cmpF, eqF_int, decide_eq_true c3, Option.map_some]
      have s4 : evS P (callD P k) (.set 4 (.call spot [.var 0, .int 5, .int 3])) [some (.ref 0), some (.int (most : Nat)), some (fourD F), some (.int v), none, none, none] (b3 :: rest) = .nx [some (.ref 0), some (.int (most : Nat)), some (fourD F), some (.int v), some (placeD p), none, none] (b4 :: rest) := by
        simp only [evS, evE, evEs, R.of, R.bind, R.st, List.getElem?_cons_zero, Option.join_some, e5, List.set_cons_succ, List.set_cons_zero]
      rw [this, st_ok, if_pos rfl, evSs_cons, s4, seq_nx, evSs_cons, evS, mp, st_ok, seq_rt, seq_rt]
    · by_cases c4 : v = 3
      · obtain ⟨_, b4, e5, o4, p, rfl, sp, un⟩ := h9 b3 rest o3
        have mp := map_run (P := P) (call := callD P k) (e := .call turned [.var 5, .var 4]) (src := .var 2) (v := 5) (ρ := [some (.ref 0), some (.int (most : Nat)), some (fourD F), some (.int v), some (placeD p), none, none]) (s := b4 :: rest) (F := F) (turnedQ · p) (by simp only [evE, R.of, List.getElem?_cons_zero, List.getElem?_cons_succ, Option.join_some]) (fun j hj => by
          have := h10 (F.get j) p 52 5 (b4 :: rest) (szd j) sp (by decide) (bn j hj)
          simp only [evE, evEs, R.of, R.bind, List.set_cons_succ, List.set_cons_zero, List.getElem?_cons_zero, List.getElem?_cons_succ, Option.join_some, this])
        refine ⟨fourD (F.map (turnedQ · p)), b4, hf.rt rfl ?_ rfl, o4, _, rfl, B, w, hB, hw, lw', .inr (.inr (.inr (.inl ⟨p, sp, un, by rw [eF]⟩)))⟩
        rw [e0, B_scene, pre, lt2 c2, no 2 _ _ _ _ rfl c3, evSs_cons, evS]
        have : evT P (callD P k) (.cmp .eq (.var 3) (.int 3)) [some (.ref 0), some (.int (most : Nat)), some (fourD F), some (.int v), none, none, none] (b3 :: rest) = .ok true (b3 :: rest) := by
          simp only [evT, evE, R.of, R.bind, List.getElem?_cons_zero, List.getElem?_cons_succ, Option.join_some, cmpF, eqF_int, decide_eq_true c4, Option.map_some]
        have s4 : evS P (callD P k) (.set 4 (.call turn [.var 0])) [some (.ref 0), some (.int (most : Nat)), some (fourD F), some (.int v), none, none, none] (b3 :: rest) = .nx [some (.ref 0), some (.int (most : Nat)), some (fourD F), some (.int v), some (placeD p), none, none] (b4 :: rest) := by
          simp only [evS, evE, evEs, R.of, R.bind, R.st, List.getElem?_cons_zero, Option.join_some, e5, List.set_cons_succ, List.set_cons_zero]
        rw [this, st_ok, if_pos rfl, evSs_cons, s4, seq_nx, evSs_cons, evS, mp, st_ok, seq_rt, seq_rt]
      · by_cases c5 : v = 4
        · obtain ⟨x, b4, e5, o4, gx, lx⟩ := h5 b3 rest 9 4 o3 (by decide) (by decide) (by decide)
          obtain ⟨y, b5, e6, o5, gy, ly⟩ := h5 b4 rest 9 4 o4 (by decide) (by decide) (by decide)
          have z5 : (2 : Nat) ^ 5 = 32 := by decide
          have n0 : 1 + y ≠ 0 := by omega
          have nx : (1 + x).natAbs < 2 ^ 5 := by omega
          have ny : (1 + y).natAbs < 2 ^ 5 := by omega
          have lo := h11 (1 + x) (1 + y) 5 (b5 :: rest) n0 nx ny (by decide)
          have sq := Sz.divInt n0 nx ny
          have q0 : 0 < Rat.divInt (1 + x) (1 + y) := by
            have : 0 < (Rat.divInt (1 + x) (1 + y)).num := by
              rw [Rat.num_divInt]
              have h1 : (1 + y).sign = 1 := Int.sign_eq_one_of_pos (by omega)
              rw [h1, Int.one_mul]
              have hg : 0 < (Int.gcd (1 + x) (1 + y) : Int) := by
                have := Int.gcd_pos_of_ne_zero_left (1 + y) (show (1 + x) ≠ 0 by omega)
                omega
              rcases Int.lt_trichotomy ((1 + x) / (Int.gcd (1 + x) (1 + y) : Int)) 0 with h | h | h
              · have := Int.ediv_nonneg (show 0 ≤ 1 + x by omega) (Int.le_of_lt hg)
                omega
              · have hd : (Int.gcd (1 + x) (1 + y) : Int) ∣ 1 + x := Int.gcd_dvd_left ..
                have := Int.ediv_mul_cancel hd
                rw [h] at this
                omega
              · first | exact h | (rw [Int.gcd_comm]; exact h)
            exact num_pos_iff.mp this
          generalize Rat.divInt (1 + x) (1 + y) = q at lo sq q0
          have mp := map_run (P := P) (call := callD P k) (e := .call grown [.var 5, .var 6]) (src := .var 2) (v := 5) (ρ := [some (.ref 0), some (.int (most : Nat)), some (fourD F), some (.int v), none, none, some (qD q)]) (s := b5 :: rest) (F := F) (grownQ · q) (by simp only [evE, R.of, List.getElem?_cons_zero, List.getElem?_cons_succ, Option.join_some]) (fun j hj => by
            have := h12 (F.get j) q 52 5 (b5 :: rest) (szd j) (SzC.mk' sq) (by decide) (bn j hj) (fun e => by rw [e] at q0; exact Rat.lt_irrefl q0)
            simp only [evE, evEs, R.of, R.bind, List.set_cons_succ, List.set_cons_zero, List.getElem?_cons_zero, List.getElem?_cons_succ, Option.join_some, this])
          refine ⟨fourD (F.map (grownQ · q)), b5, hf.rt rfl ?_ rfl, o5, _, rfl, B, w, hB, hw, lw', .inr (.inr (.inr (.inr ⟨q, SzC.mk' sq, q0, by rw [eF]⟩)))⟩
          rw [e0, B_scene, pre, lt2 c2, no 2 _ _ _ _ rfl c3, no 3 _ _ _ _ rfl c4, evSs_cons, evS]
          have : evT P (callD P k) (.cmp .eq (.var 3) (.int 4)) [some (.ref 0), some (.int (most : Nat)), some (fourD F), some (.int v), none, none, none] (b3 :: rest) = .ok true (b3 :: rest) := by
            simp only [evT, evE, R.of, R.bind, List.getElem?_cons_zero, List.getElem?_cons_succ, Option.join_some, cmpF, eqF_int, decide_eq_true c5, Option.map_some]
          have s4 : evS P (callD P k) (.set 6 (.call low [.bin .add (.int 1) (.call pull [.var 0, .int 9]), .bin .add (.int 1) (.call pull [.var 0, .int 9])])) [some (.ref 0), some (.int (most : Nat)), some (fourD F), some (.int v), none, none, none] (b3 :: rest) = .nx [some (.ref 0), some (.int (most : Nat)), some (fourD F), some (.int v), none, none, some (qD q)] (b5 :: rest) := by
            simp only [evS, evE, evEs, R.of, R.bind, R.st, List.getElem?_cons_zero, Option.join_some, e5, e6, bin_add, lo, List.set_cons_succ, List.set_cons_zero]
          rw [this, st_ok, if_pos rfl, evSs_cons, s4, seq_nx, evSs_cons, evS, mp, st_ok, seq_rt, seq_rt]
        · refine ⟨fourD F, b3, hf.rt rfl ?_ rfl, o3, F, rfl, B, w, hB, hw, lw', .inl eF⟩
          rw [e0, B_scene, pre, lt2 c2, no 2 _ _ _ _ rfl c3, no 3 _ _ _ _ rfl c4, no 4 _ _ _ _ rfl c5]
          simp only [evSs, evS, evE, R.of, R.st, RS.seq, List.getElem?_cons_zero, List.getElem?_cons_succ, Option.join_some]
end
end G

set_option Elab.async false
set_option linter.all false
set_option maxRecDepth 100000
namespace G
/-! ### swaps of four numbers: from (-1, 1, 1, 1) on, the newest is the greatest -/
structure V4 where
  a : Rat
  b : Rat
  c : Rat
  d : Rat
def V4.get (V : V4) : Nat → Rat
  | 0 => V.a
  | 1 => V.b
  | 2 => V.c
  | _ => V.d
def V4.swap (V : V4) : Nat → V4
  | 0 => { V with a := nwQ V.b V.c V.d V.a }
  | 1 => { V with b := nwQ V.a V.c V.d V.b }
  | 2 => { V with c := nwQ V.a V.b V.d V.c }
  | _ => { V with d := nwQ V.a V.b V.c V.d }
/-- each two together are nought or more -/
structure Pairs (V : V4) : Prop where
  ab : 0 ≤ V.a + V.b
  ac : 0 ≤ V.a + V.c
  ad : 0 ≤ V.a + V.d
  bc : 0 ≤ V.b + V.c
  bd : 0 ≤ V.b + V.d
  cd : 0 ≤ V.c + V.d
/-- m is no less than each of the four -/
structure Below (V : V4) (m : Rat) : Prop where
  a : V.a ≤ m
  b : V.b ≤ m
  c : V.c ≤ m
  d : V.d ≤ m
theorem nw_ge {p q r o m : Rat} (h1 : 0 ≤ p + q) (h2 : 0 ≤ p + r) (h3 : 0 ≤ q + r) (ho : o ≤ m) (hm : m = p ∨ m = q ∨ m = r) (hp : p ≤ m) (hq : q ≤ m) (hr : r ≤ m) : m ≤ nwQ p q r o := by
  unfold nwQ
  rcases hm with e | e | e <;> subst e <;> grind
/-- a swap of another seat than the greatest one's -/
theorem swap_keeps {V : V4} {i j : Nat} (hi : i < 4) (hj : j < 4) (hij : i ≠ j) (hp : Pairs V) (hb : Below V (V.get i)) : V.get i ≤ (V.swap j).get j ∧ Pairs (V.swap j) ∧ Below (V.swap j) ((V.swap j).get j) := by
  obtain ⟨ab, ac, ad, bc, bd, cd⟩ := hp
  obtain ⟨ba, b2, b3, b4⟩ := hb
  have sw0 : V.swap 0 = ⟨nwQ V.b V.c V.d V.a, V.b, V.c, V.d⟩ := rfl
  have sw1 : V.swap 1 = ⟨V.a, nwQ V.a V.c V.d V.b, V.c, V.d⟩ := rfl
  have sw2 : V.swap 2 = ⟨V.a, V.b, nwQ V.a V.b V.d V.c, V.d⟩ := rfl
  have sw3 : V.swap 3 = ⟨V.a, V.b, V.c, nwQ V.a V.b V.c V.d⟩ := rfl
  match j, hj with
  | 0, _ =>
    have mm : V.get i = V.b ∨ V.get i = V.c ∨ V.get i = V.d := by
      match i, hi with
      | 0, _ => exact absurd rfl hij
      | 1, _ => exact .inl rfl
      | 2, _ => exact .inr (.inl rfl)
      | 3, _ => exact .inr (.inr rfl)
    have g := nw_ge (o := V.a) bc bd cd ba mm b2 b3 b4
    rw [sw0]
    generalize nwQ V.b V.c V.d V.a = x at g
    exact ⟨g, ⟨by show 0 ≤ x + V.b; grind, by show 0 ≤ x + V.c; grind, by show 0 ≤ x + V.d; grind, bc, bd, cd⟩, ⟨by show x ≤ x; grind, by show V.b ≤ x; grind, by show V.c ≤ x; grind, by show V.d ≤ x; grind⟩⟩
  | 1, _ =>
    have mm : V.get i = V.a ∨ V.get i = V.c ∨ V.get i = V.d := by
      match i, hi with
      | 0, _ => exact .inl rfl
      | 1, _ => exact absurd rfl hij
      | 2, _ => exact .inr (.inl rfl)
      | 3, _ => exact .inr (.inr rfl)
    have g := nw_ge (o := V.b) ac ad cd b2 mm ba b3 b4
    rw [sw1]
    generalize nwQ V.a V.c V.d V.b = x at g
    exact ⟨g, ⟨by show 0 ≤ V.a + x; grind, ac, ad, by show 0 ≤ x + V.c; grind, by show 0 ≤ x + V.d; grind, cd⟩, ⟨by show V.a ≤ x; grind, by show x ≤ x; grind, by show V.c ≤ x; grind, by show V.d ≤ x; grind⟩⟩
  | 2, _ =>
    have mm : V.get i = V.a ∨ V.get i = V.b ∨ V.get i = V.d := by
      match i, hi with
      | 0, _ => exact .inl rfl
      | 1, _ => exact .inr (.inl rfl)
      | 2, _ => exact absurd rfl hij
      | 3, _ => exact .inr (.inr rfl)
    have g := nw_ge (o := V.c) ab ad bd b3 mm ba b2 b4
    rw [sw2]
    generalize nwQ V.a V.b V.d V.c = x at g
    exact ⟨g, ⟨ab, by show 0 ≤ V.a + x; grind, ad, by show 0 ≤ V.b + x; grind, bd, by show 0 ≤ x + V.d; grind⟩, ⟨by show V.a ≤ x; grind, by show V.b ≤ x; grind, by show x ≤ x; grind, by show V.d ≤ x; grind⟩⟩
  | 3, _ =>
    have mm : V.get i = V.a ∨ V.get i = V.b ∨ V.get i = V.c := by
      match i, hi with
      | 0, _ => exact .inl rfl
      | 1, _ => exact .inr (.inl rfl)
      | 2, _ => exact .inr (.inr rfl)
      | 3, _ => exact absurd rfl hij
    have g := nw_ge (o := V.d) ab ac bc b4 mm ba b2 b3
    rw [sw3]
    generalize nwQ V.a V.b V.c V.d = x at g
    exact ⟨g, ⟨ab, ac, by show 0 ≤ V.a + x; grind, bc, by show 0 ≤ V.b + x; grind, by show 0 ≤ V.c + x; grind⟩, ⟨by show V.a ≤ x; grind, by show V.b ≤ x; grind, by show V.c ≤ x; grind, by show x ≤ x; grind⟩⟩
/-- how a disc is looked at -/
def lookQ (d e : Disc) : Rat := d.x * e.x + d.y * e.y - (d.bend * e.back + d.back * e.bend) / 2
theorem look_new (p q r o e : Disc) : lookQ (nwD p q r o) e = nwQ (lookQ p e) (lookQ q e) (lookQ r e) (lookQ o e) := by
  unfold lookQ nwD nwQ
  simp only
  grind
theorem look_comm (d e : Disc) : lookQ d e = lookQ e d := by
  unfold lookQ
  grind
end G

set_option Elab.async false
set_option linter.all false
set_option maxRecDepth 100000
namespace G
/-- the four's looks at a disc, turned about -/
def lk (F : Four) (e : Disc) : V4 := ⟨-lookQ F.a e, -lookQ F.b e, -lookQ F.c e, -lookQ F.d e⟩
theorem nw_neg (p q r o : Rat) : -nwQ p q r o = nwQ (-p) (-q) (-r) (-o) := by
  unfold nwQ
  grind
theorem lk_get (F : Four) (e : Disc) : ∀ j, (lk F e).get j = -lookQ (F.get j) e
  | 0 => rfl
  | 1 => rfl
  | 2 => rfl
  | _ + 3 => rfl
theorem lk_swap (F : Four) (e : Disc) : ∀ i, lk (F.swap i) e = (lk F e).swap i
  | 0 => by
    have h : lk (F.swap 0) e = ⟨-lookQ (nwD F.b F.c F.d F.a) e, -lookQ F.b e, -lookQ F.c e, -lookQ F.d e⟩ := rfl
    rw [h, look_new, nw_neg]
    rfl
  | 1 => by
    have h : lk (F.swap 1) e = ⟨-lookQ F.a e, -lookQ (nwD F.a F.c F.d F.b) e, -lookQ F.c e, -lookQ F.d e⟩ := rfl
    rw [h, look_new, nw_neg]
    rfl
  | 2 => by
    have h : lk (F.swap 2) e = ⟨-lookQ F.a e, -lookQ F.b e, -lookQ (nwD F.a F.b F.d F.c) e, -lookQ F.d e⟩ := rfl
    rw [h, look_new, nw_neg]
    rfl
  | n + 3 => by
    have h : lk (F.swap (n + 3)) e = ⟨-lookQ F.a e, -lookQ F.b e, -lookQ F.c e, -lookQ (nwD F.a F.b F.c F.d) e⟩ := rfl
    rw [h, look_new, nw_neg]
    rfl
theorem v_other (V : V4) : ∀ i j : Nat, i < 4 → j < 4 → i ≠ j → (V.swap i).get j = V.get j
  | 0, 0, _, _, h => absurd rfl h
  | 0, 1, _, _, _ => rfl
  | 0, 2, _, _, _ => rfl
  | 0, 3, _, _, _ => rfl
  | 1, 0, _, _, _ => rfl
  | 1, 1, _, _, h => absurd rfl h
  | 1, 2, _, _, _ => rfl
  | 1, 3, _, _, _ => rfl
  | 2, 0, _, _, _ => rfl
  | 2, 1, _, _, _ => rfl
  | 2, 2, _, _, h => absurd rfl h
  | 2, 3, _, _, _ => rfl
  | 3, 0, _, _, _ => rfl
  | 3, 1, _, _, _ => rfl
  | 3, 2, _, _, _ => rfl
  | 3, 3, _, _, h => absurd rfl h
/-- what a first four is: each two look at one another by -1, each at itself by 1 -/
structure Rooty (B : Four) : Prop where
  self : ∀ j, j < 4 → lookQ (B.get j) (B.get j) = 1
  two : ∀ i j, i < 4 → j < 4 → i ≠ j → lookQ (B.get i) (B.get j) = -1
def unitV (k : Nat) : V4 := ⟨if k = 0 then -1 else 1, if k = 1 then -1 else 1, if k = 2 then -1 else 1, if k = 3 then -1 else 1⟩
theorem lk_root {B : Four} (h : Rooty B) {k : Nat} (hk : k < 4) : lk B (B.get k) = unitV k := by
  have key : ∀ j, j < 4 → -lookQ (B.get j) (B.get k) = if k = j then -1 else 1 := fun j hj => by
    by_cases e : k = j
    · rw [if_pos e, ← e, h.self k hk]
    · rw [if_neg e, h.two j k hj hk (Ne.symm e)]
      grind
  have e : lk B (B.get k) = ⟨-lookQ (B.get 0) (B.get k), -lookQ (B.get 1) (B.get k), -lookQ (B.get 2) (B.get k), -lookQ (B.get 3) (B.get k)⟩ := rfl
  rw [e, key 0 (by decide), key 1 (by decide), key 2 (by decide), key 3 (by decide)]
  rfl
theorem first_swap : ∀ k i : Nat, k < 4 → i < 4 → 1 ≤ ((unitV k).swap i).get i ∧ Pairs ((unitV k).swap i) ∧ Below ((unitV k).swap i) (((unitV k).swap i).get i) := by
  have mk : ∀ (V : V4) (m : Rat), (1 ≤ m ∧ 0 ≤ V.a + V.b ∧ 0 ≤ V.a + V.c ∧ 0 ≤ V.a + V.d ∧ 0 ≤ V.b + V.c ∧ 0 ≤ V.b + V.d ∧ 0 ≤ V.c + V.d ∧ V.a ≤ m ∧ V.b ≤ m ∧ V.c ≤ m ∧ V.d ≤ m) → 1 ≤ m ∧ Pairs V ∧ Below V m := fun V m ⟨h, a, b, c, d, e, f, x, y, z, w⟩ => ⟨h, ⟨a, b, c, d, e, f⟩, ⟨x, y, z, w⟩⟩
  intro k i hk hi
  apply mk
  match k, i, hk, hi with
  | 0, 0, _, _ => decide +kernel
  | 0, 1, _, _ => decide +kernel
  | 0, 2, _, _ => decide +kernel
  | 0, 3, _, _ => decide +kernel
  | 1, 0, _, _ => decide +kernel
  | 1, 1, _, _ => decide +kernel
  | 1, 2, _, _ => decide +kernel
  | 1, 3, _, _ => decide +kernel
  | 2, 0, _, _ => decide +kernel
  | 2, 1, _, _ => decide +kernel
  | 2, 2, _, _ => decide +kernel
  | 2, 3, _, _ => decide +kernel
  | 3, 0, _, _ => decide +kernel
  | 3, 1, _, _ => decide +kernel
  | 3, 2, _, _ => decide +kernel
  | 3, 3, _, _ => decide +kernel
/-- behind a word that is not empty: the newest looks least at each of the first four -/
theorem looks_after {B : Four} (h : Rooty B) {k : Nat} (hk : k < 4) : ∀ (n : Nat) (w : T), w.length = n → Word w → w ≠ [] → ∃ i, i < 4 ∧ w.getLast? = some (97 + i) ∧ Pairs (lk (B.after w) (B.get k)) ∧ Below (lk (B.after w) (B.get k)) ((lk (B.after w) (B.get k)).get i) ∧ 1 ≤ (lk (B.after w) (B.get k)).get i ∧ ∀ j, j < 4 → (B.after w).get j = B.get j ∨ 1 ≤ (lk (B.after w) (B.get k)).get j := by
  intro n
  induction n with
  | zero =>
    intro w hl _ hn
    exact absurd (List.eq_nil_of_length_eq_zero hl) hn
  | succ n ih =>
    intro w hl hw hn
    obtain ⟨v, c, rfl⟩ := (snoc_cases w).resolve_left hn
    have hc : c ∈ abcd := hw.1 c (by simp)
    have hs := seat_lt hc
    have cs : c = 97 + (c - 97) := by
      rcases abcd_cases hc with e | e | e | e <;> subst e <;> rfl
    obtain ⟨hr1, hr2⟩ := red_app_one.mp hw.2
    have hv : Word v := ⟨fun d hd => hw.1 d (by simp [hd]), hr1⟩
    have af : B.after (v ++ [c]) = (B.after v).swap (c - 97) := by
      rw [Four.after_app, Four.after_cons, Four.after_nil]
    have gl : (v ++ [c]).getLast? = some (97 + (c - 97)) := by
      rw [← cs]
      simp
    refine ⟨c - 97, hs, gl, ?_⟩
    rw [af, lk_swap]
    generalize c - 97 = i at *
    by_cases ve : v = []
    · subst ve
      rw [Four.after_nil, lk_root h hk]
      obtain ⟨f1, f2, f3⟩ := first_swap k i hk hs
      refine ⟨f2, f3, f1, fun j hj => ?_⟩
      by_cases e : i = j
      · right
        rw [← e]
        exact f1
      · left
        exact swap_other B i j hs hj e
    · obtain ⟨i0, hi0, hl0, p0, b0, o0, u0⟩ := ih v (by simpa using hl) hv ve
      have ne : i0 ≠ i := fun e => hr2 (by rw [hl0, e, cs])
      obtain ⟨g1, g2, g3⟩ := swap_keeps hi0 hs ne p0 b0
      have g0 : 1 ≤ ((lk (B.after v) (B.get k)).swap i).get i := Rat.le_trans o0 g1
      refine ⟨g2, g3, g0, fun j hj => ?_⟩
      by_cases e : i = j
      · right
        rw [← e]
        exact g0
      · rw [swap_other _ i j hs hj e, v_other _ i j hs hj e]
        exact u0 j hj
/-- unlike stones look at one another by -1 or less -/
theorem look_le {B : Four} (h : Rooty B) {w : T} (hw : Word w) {j k : Nat} (hj : j < 4) (hk : k < 4) : (B.after w).get j = B.get j ∨ lookQ ((B.after w).get j) (B.get k) ≤ -1 := by
  by_cases e : w = []
  · subst e
    rw [Four.after_nil]
    exact .inl rfl
  · obtain ⟨_, _, _, _, _, _, u⟩ := looks_after h hk w.length w rfl hw e
    rcases u j hj with z | z
    · exact .inl z
    · right
      rw [lk_get] at z
      grind
end G

set_option Elab.async false
set_option linter.all false
set_option maxRecDepth 100000
namespace G
theorem base_looks : ∀ d ∈ baseF.discs, lookQ d d = 1 ∧ ∀ e ∈ baseF.discs, d = e ∨ lookQ d e = -1 := by
  intro d hd
  simp only [Four.discs, baseF, List.mem_cons, List.not_mem_nil, or_false] at hd
  have key : ∀ d : Disc, (lookQ d d = 1 ∧ (d = ⟨1, -1, 0, 0⟩ ∨ lookQ d ⟨1, -1, 0, 0⟩ = -1) ∧ (d = ⟨0, 2, 1, 0⟩ ∨ lookQ d ⟨0, 2, 1, 0⟩ = -1) ∧ (d = ⟨0, 2, -1, 0⟩ ∨ lookQ d ⟨0, 2, -1, 0⟩ = -1) ∧ (d = ⟨1, 3, 0, 2⟩ ∨ lookQ d ⟨1, 3, 0, 2⟩ = -1)) → lookQ d d = 1 ∧ ∀ e ∈ baseF.discs, d = e ∨ lookQ d e = -1 := fun d ⟨h, a, b, c, e⟩ => ⟨h, fun x hx => by
    simp only [Four.discs, baseF, List.mem_cons, List.not_mem_nil, or_false] at hx
    rcases hx with q | q | q | q <;> subst q
    · exact a
    · exact b
    · exact c
    · exact e⟩
  apply key
  rcases hd with q | q | q | q <;> subst q
  · exact ⟨by decide +kernel, .inl rfl, .inr (by decide +kernel), .inr (by decide +kernel), .inr (by decide +kernel)⟩
  · exact ⟨by decide +kernel, .inr (by decide +kernel), .inl rfl, .inr (by decide +kernel), .inr (by decide +kernel)⟩
  · exact ⟨by decide +kernel, .inr (by decide +kernel), .inr (by decide +kernel), .inl rfl, .inr (by decide +kernel)⟩
  · exact ⟨by decide +kernel, .inr (by decide +kernel), .inr (by decide +kernel), .inr (by decide +kernel), .inl rfl⟩
theorem sq_nonneg (q : Rat) : 0 ≤ q * q := by
  by_cases h : 0 ≤ q
  · exact Rat.mul_nonneg h h
  · have h' : 0 ≤ -q := by grind
    have := Rat.mul_nonneg h' h'
    grind
/-- a place's number at a disc -/
def numQ (d : Disc) (p : Rat × Rat) : Rat := d.bend * (p.1 * p.1 + p.2 * p.2) - 2 * (d.x * p.1 + d.y * p.2) + d.back
theorem depth_num {d : Disc} {p : Rat × Rat} (h0 : d.bend ≠ 0) (h1 : lookQ d d = 1) : depthQ d p = numQ d p := by
  unfold lookQ at h1
  unfold depthQ apartQ centerQ numQ
  simp only
  grind
/-- two that lie apart, together finite: a place within the one lies without the other -/
theorem apart_num {d e : Disc} {p : Rat × Rat} (hd : lookQ d d = 1) (he : lookQ e e = 1) (h : lookQ d e ≤ -1) (hb : 0 < d.bend + e.bend) (hn : numQ e p < 0) : 0 < numQ d p := by
  have key : (d.bend + e.bend) * (numQ d p + numQ e p) = ((d.bend + e.bend) * p.1 - (d.x + e.x)) * ((d.bend + e.bend) * p.1 - (d.x + e.x)) + ((d.bend + e.bend) * p.2 - (d.y + e.y)) * ((d.bend + e.bend) * p.2 - (d.y + e.y)) - (lookQ d d + lookQ e e + 2 * lookQ d e) := by
    unfold numQ lookQ
    grind
  have s1 := sq_nonneg ((d.bend + e.bend) * p.1 - (d.x + e.x))
  have s2 := sq_nonneg ((d.bend + e.bend) * p.2 - (d.y + e.y))
  have n0 : 0 ≤ (d.bend + e.bend) * (numQ d p + numQ e p) := by
    rw [key, hd, he]
    grind
  by_cases c : 0 < numQ d p
  · exact c
  · exfalso
    have neg : 0 < -(numQ d p + numQ e p) := by grind
    have := Rat.mul_pos hb neg
    grind
end G

set_option Elab.async false
set_option linter.all false
set_option maxRecDepth 100000
namespace G
theorem new_two {p q r o : Disc} (pp : lookQ p p = 1) (qp : lookQ q p = -1) (rp : lookQ r p = -1) (op : lookQ o p = -1) : lookQ (nwD p q r o) p = -1 := by
  rw [look_new, pp, qp, rp, op]
  decide +kernel
theorem nwD_rot (p q r o : Disc) : nwD p q r o = nwD q r p o := by
  have h : ∀ a b c d : Rat, nwQ a b c d = nwQ b c a d := fun a b c d => by unfold nwQ; grind
  unfold nwD
  rw [h p.back, h p.bend, h p.x, h p.y]
theorem new_self {p q r o : Disc} (oo : lookQ o o = 1) (np : lookQ (nwD p q r o) p = -1) (nq : lookQ (nwD p q r o) q = -1) (nr : lookQ (nwD p q r o) r = -1) (po : lookQ p o = -1) (qo : lookQ q o = -1) (ro : lookQ r o = -1) : lookQ (nwD p q r o) (nwD p q r o) = 1 := by
  have no : lookQ (nwD p q r o) o = -7 := by
    rw [look_new, oo, po, qo, ro]
    decide +kernel
  generalize hn : nwD p q r o = n at *
  have e : lookQ n n = nwQ (lookQ p n) (lookQ q n) (lookQ r n) (lookQ o n) := by
    conv => lhs; arg 1; rw [← hn]
    rw [look_new]
  rw [e, look_comm p, look_comm q, look_comm r, look_comm o, np, nq, nr, no]
  decide +kernel
/-- four that touch, one by one -/
structure R4 (a b c d : Disc) : Prop where
  aa : lookQ a a = 1
  bb : lookQ b b = 1
  cc : lookQ c c = 1
  dd : lookQ d d = 1
  ab : lookQ a b = -1
  ac : lookQ a c = -1
  ad : lookQ a d = -1
  bc : lookQ b c = -1
  bd : lookQ b d = -1
  cd : lookQ c d = -1
theorem R4.new {a b c d : Disc} (h : R4 a b c d) : lookQ (nwD b c d a) (nwD b c d a) = 1 ∧ lookQ (nwD b c d a) b = -1 ∧ lookQ (nwD b c d a) c = -1 ∧ lookQ (nwD b c d a) d = -1 := by
  have ba : lookQ b a = -1 := by rw [look_comm]; exact h.ab
  have ca : lookQ c a = -1 := by rw [look_comm]; exact h.ac
  have da : lookQ d a = -1 := by rw [look_comm]; exact h.ad
  have cb : lookQ c b = -1 := by rw [look_comm]; exact h.bc
  have db : lookQ d b = -1 := by rw [look_comm]; exact h.bd
  have dc : lookQ d c = -1 := by rw [look_comm]; exact h.cd
  have n1 : lookQ (nwD b c d a) b = -1 := new_two h.bb cb db h.ab
  have n2 : lookQ (nwD b c d a) c = -1 := by rw [nwD_rot]; exact new_two h.cc dc h.bc h.ac
  have n3 : lookQ (nwD b c d a) d = -1 := by rw [nwD_rot, nwD_rot]; exact new_two h.dd h.bd h.cd h.ad
  exact ⟨new_self h.aa n1 n2 n3 ba ca da, n1, n2, n3⟩
theorem Rooty.r4 {F : Four} (h : Rooty F) : R4 F.a F.b F.c F.d := ⟨h.self 0 (by decide), h.self 1 (by decide), h.self 2 (by decide), h.self 3 (by decide), h.two 0 1 (by decide) (by decide) (by decide), h.two 0 2 (by decide) (by decide) (by decide), h.two 0 3 (by decide) (by decide) (by decide), h.two 1 2 (by decide) (by decide) (by decide), h.two 1 3 (by decide) (by decide) (by decide), h.two 2 3 (by decide) (by decide) (by decide)⟩
theorem R4.rooty {F : Four} (h : R4 F.a F.b F.c F.d) : Rooty F := by
  refine ⟨fun j hj => ?_, fun i j hi hj hij => ?_⟩
  · match j, hj with
    | 0, _ => exact h.aa
    | 1, _ => exact h.bb
    | 2, _ => exact h.cc
    | 3, _ => exact h.dd
  · match i, j, hi, hj with
    | 0, 0, _, _ => exact absurd rfl hij
    | 0, 1, _, _ => exact h.ab
    | 0, 2, _, _ => exact h.ac
    | 0, 3, _, _ => exact h.ad
    | 1, 0, _, _ => rw [look_comm]; exact h.ab
    | 1, 1, _, _ => exact absurd rfl hij
    | 1, 2, _, _ => exact h.bc
    | 1, 3, _, _ => exact h.bd
    | 2, 0, _, _ => rw [look_comm]; exact h.ac
    | 2, 1, _, _ => rw [look_comm]; exact h.bc
    | 2, 2, _, _ => exact absurd rfl hij
    | 2, 3, _, _ => exact h.cd
    | 3, 0, _, _ => rw [look_comm]; exact h.ad
    | 3, 1, _, _ => rw [look_comm]; exact h.bd
    | 3, 2, _, _ => rw [look_comm]; exact h.cd
    | 3, 3, _, _ => exact absurd rfl hij
theorem Rooty.swap {F : Four} (h : Rooty F) : ∀ i, Rooty (F.swap i)
  | 0 => by
    have r := h.r4
    obtain ⟨n0, n1, n2, n3⟩ := r.new
    exact R4.rooty (F := F.swap 0) ⟨n0, r.bb, r.cc, r.dd, n1, n2, n3, r.bc, r.bd, r.cd⟩
  | 1 => by
    have r := h.r4
    have ba : lookQ F.b F.a = -1 := by rw [look_comm]; exact r.ab
    obtain ⟨n0, n1, n2, n3⟩ := R4.new (a := F.b) (b := F.a) (c := F.c) (d := F.d) ⟨r.bb, r.aa, r.cc, r.dd, ba, r.bc, r.bd, r.ac, r.ad, r.cd⟩
    exact R4.rooty (F := F.swap 1) ⟨r.aa, n0, r.cc, r.dd, (look_comm _ _).trans n1, r.ac, r.ad, n2, n3, r.cd⟩
  | 2 => by
    have r := h.r4
    have ca : lookQ F.c F.a = -1 := by rw [look_comm]; exact r.ac
    have cb : lookQ F.c F.b = -1 := by rw [look_comm]; exact r.bc
    obtain ⟨n0, n1, n2, n3⟩ := R4.new (a := F.c) (b := F.a) (c := F.b) (d := F.d) ⟨r.cc, r.aa, r.bb, r.dd, ca, cb, r.cd, r.ab, r.ad, r.bd⟩
    exact R4.rooty (F := F.swap 2) ⟨r.aa, r.bb, n0, r.dd, r.ab, (look_comm _ _).trans n1, r.ad, (look_comm _ _).trans n2, r.bd, n3⟩
  | n + 3 => by
    have r := h.r4
    have da : lookQ F.d F.a = -1 := by rw [look_comm]; exact r.ad
    have db : lookQ F.d F.b = -1 := by rw [look_comm]; exact r.bd
    have dc : lookQ F.d F.c = -1 := by rw [look_comm]; exact r.cd
    obtain ⟨n0, n1, n2, n3⟩ := R4.new (a := F.d) (b := F.a) (c := F.b) (d := F.c) ⟨r.dd, r.aa, r.bb, r.cc, da, db, dc, r.ab, r.ac, r.bc⟩
    exact R4.rooty (F := F.swap (n + 3)) ⟨r.aa, r.bb, r.cc, n0, r.ab, r.ac, (look_comm _ _).trans n1, r.bc, (look_comm _ _).trans n2, (look_comm _ _).trans n3⟩
theorem Rooty.after (w : T) : ∀ {F : Four}, Rooty F → Rooty (F.after w) := by
  induction w with
  | nil => intro F h; rw [Four.after_nil]; exact h
  | cons c w ih => intro F h; rw [Four.after_cons]; exact ih (h.swap _)
theorem base_rooty {B : Four} (h : B.discs.Perm baseF.discs) : Rooty B := by
  have nd : baseF.discs.Nodup := by
    have e : ¬ (1 : Rat) = -1 := by decide +kernel
    simp [Four.discs, baseF, e]
  have nb : B.discs.Nodup := h.nodup_iff.mpr nd
  simp only [Four.discs, List.nodup_cons, List.mem_cons, List.not_mem_nil, or_false, not_or, not_false_eq_true, List.nodup_nil, and_true] at nb
  obtain ⟨⟨ab, ac, ad⟩, ⟨bc, bd⟩, cd⟩ := nb
  have m : ∀ o, o ∈ B.discs → o ∈ baseF.discs := fun o ho => h.mem_iff.mp ho
  have ma := m B.a (by simp [Four.discs])
  have mb := m B.b (by simp [Four.discs])
  have mc := m B.c (by simp [Four.discs])
  have md := m B.d (by simp [Four.discs])
  have two : ∀ x y, x ∈ baseF.discs → y ∈ baseF.discs → x ≠ y → lookQ x y = -1 := fun x y hx hy hn => ((base_looks x hx).2 y hy).resolve_left hn
  exact R4.rooty ⟨(base_looks _ ma).1, (base_looks _ mb).1, (base_looks _ mc).1, (base_looks _ md).1, two _ _ ma mb ab, two _ _ ma mc ac, two _ _ ma md ad, two _ _ mb mc bc, two _ _ mb md bd, two _ _ mc md cd⟩
end G

set_option Elab.async false
set_option linter.all false
set_option maxRecDepth 100000
namespace G
/-! there and back -/
theorem nw_back (p q r o : Rat) : nwQ p q r (nwQ p q r o) = o := by
  unfold nwQ
  grind
theorem nwD_back (p q r o : Disc) : nwD p q r (nwD p q r o) = o := by
  have e : nwD p q r (nwD p q r o) = ⟨nwQ p.back q.back r.back (nwQ p.back q.back r.back o.back), nwQ p.bend q.bend r.bend (nwQ p.bend q.bend r.bend o.bend), nwQ p.x q.x r.x (nwQ p.x q.x r.x o.x), nwQ p.y q.y r.y (nwQ p.y q.y r.y o.y)⟩ := rfl
  rw [e, nw_back, nw_back, nw_back, nw_back]
theorem swap_back (F : Four) : ∀ i, (F.swap i).swap i = F
  | 0 => by
    have e : (F.swap 0).swap 0 = ⟨nwD F.b F.c F.d (nwD F.b F.c F.d F.a), F.b, F.c, F.d⟩ := rfl
    rw [e, nwD_back]
  | 1 => by
    have e : (F.swap 1).swap 1 = ⟨F.a, nwD F.a F.c F.d (nwD F.a F.c F.d F.b), F.c, F.d⟩ := rfl
    rw [e, nwD_back]
  | 2 => by
    have e : (F.swap 2).swap 2 = ⟨F.a, F.b, nwD F.a F.b F.d (nwD F.a F.b F.d F.c), F.d⟩ := rfl
    rw [e, nwD_back]
  | n + 3 => by
    have e : (F.swap (n + 3)).swap (n + 3) = ⟨F.a, F.b, F.c, nwD F.a F.b F.c (nwD F.a F.b F.c F.d)⟩ := rfl
    rw [e, nwD_back]
theorem after_push (F : Four) (w : T) (c : Nat) : F.after (push w c) = (F.after w).swap (c - 97) := by
  unfold push
  split
  · rename_i h
    rcases snoc_cases w with e | ⟨v, d, e⟩
    · subst e
      simp at h
    · subst e
      simp at h
      subst h
      rw [List.dropLast_concat, Four.after_app, Four.after_cons, Four.after_nil, swap_back]
  · rw [Four.after_app, Four.after_cons, Four.after_nil]
theorem after_run (F : Four) (t : T) : ∀ acc : T, F.after (run acc t) = (F.after acc).after t := by
  induction t with
  | nil => intro acc; rw [run_nil, Four.after_nil]
  | cons c t ih => intro acc; rw [run_cons, ih, after_push, Four.after_cons]
/-- a word and what is left of it lead to the same four -/
theorem after_short (F : Four) (t : T) : F.after (short t) = F.after t := by
  have h := after_run F t []
  rw [Four.after_nil] at h
  exact h
theorem after_rev (F : Four) (u : T) : (F.after u).after u.reverse = F := by
  rw [← Four.after_app, ← after_short, short_back, Four.after_nil]
/-- two stones of one packing: the same one, or they look by -1 or less -/
theorem stones_look {F : Four} (h : Rooty F) {u v : T} (hu : Abc u) (hv : Abc v) {i j : Nat} (hi : i < 4) (hj : j < 4) : (F.after v).get i = (F.after u).get j ∨ lookQ ((F.after v).get i) ((F.after u).get j) ≤ -1 := by
  have r := h.after u
  have e : F.after v = (F.after u).after (short (u.reverse ++ v)) := by
    rw [after_short, Four.after_app, after_rev]
  have w := Word.short (hu.rev.app hv)
  rw [e]
  rcases look_le r w hi hj with z | z
  · by_cases q : i = j
    · subst q
      exact .inl z
    · right
      rw [z, r.two i j hi hj q]
      decide +kernel
  · exact .inr z
end G

set_option Elab.async false
set_option linter.all false
set_option maxRecDepth 100000
namespace G
/-! bends: but for the one around all, each is 2 or more -/
def outer : Disc := ⟨1, -1, 0, 0⟩
theorem base_bends : ∀ d ∈ baseF.discs, (d = outer ∨ 2 ≤ d.bend) ∧ d.bend ≤ 3 ∧ -1 ≤ d.bend ∧ ∀ e ∈ baseF.discs, d = e ∨ 0 ≤ d.bend + e.bend := by
  intro d hd
  simp only [Four.discs, baseF, List.mem_cons, List.not_mem_nil, or_false] at hd
  have key : ∀ d : Disc, ((d = outer ∨ 2 ≤ d.bend) ∧ d.bend ≤ 3 ∧ -1 ≤ d.bend ∧ (d = ⟨1, -1, 0, 0⟩ ∨ 0 ≤ d.bend + (-1)) ∧ 0 ≤ d.bend + 2 ∧ 0 ≤ d.bend + 3) → (d = outer ∨ 2 ≤ d.bend) ∧ d.bend ≤ 3 ∧ -1 ≤ d.bend ∧ ∀ e ∈ baseF.discs, d = e ∨ 0 ≤ d.bend + e.bend := fun d ⟨h1, h2, h3, a, b, c⟩ => ⟨h1, h2, h3, fun x hx => by
    simp only [Four.discs, baseF, List.mem_cons, List.not_mem_nil, or_false] at hx
    rcases hx with q | q | q | q <;> subst q
    · exact a
    · exact .inr b
    · exact .inr b
    · exact .inr c⟩
  apply key
  rcases hd with q | q | q | q <;> subst q
  · exact ⟨.inl rfl, by decide +kernel, by decide +kernel, .inl rfl, by decide +kernel, by decide +kernel⟩
  · exact ⟨.inr (by decide +kernel), by decide +kernel, by decide +kernel, .inr (by decide +kernel), by decide +kernel, by decide +kernel⟩
  · exact ⟨.inr (by decide +kernel), by decide +kernel, by decide +kernel, .inr (by decide +kernel), by decide +kernel, by decide +kernel⟩
  · exact ⟨.inr (by decide +kernel), by decide +kernel, by decide +kernel, .inr (by decide +kernel), by decide +kernel, by decide +kernel⟩
def bv (F : Four) : V4 := ⟨F.a.bend, F.b.bend, F.c.bend, F.d.bend⟩
theorem bv_get (F : Four) : ∀ j, (bv F).get j = (F.get j).bend
  | 0 => rfl
  | 1 => rfl
  | 2 => rfl
  | _ + 3 => rfl
theorem bv_swap (F : Four) : ∀ i, bv (F.swap i) = (bv F).swap i
  | 0 => rfl
  | 1 => rfl
  | 2 => rfl
  | _ + 3 => rfl
theorem first_bends {B : Four} (h : B.discs.Perm baseF.discs) (i : Nat) (hi : i < 4) : 2 ≤ ((bv B).swap i).get i ∧ Pairs ((bv B).swap i) ∧ Below ((bv B).swap i) (((bv B).swap i).get i) := by
  have hs := base_sum h
  have nd : baseF.discs.Nodup := by
    have e : ¬ (1 : Rat) = -1 := by decide +kernel
    simp [Four.discs, baseF, e]
  have nb : B.discs.Nodup := h.nodup_iff.mpr nd
  simp only [Four.discs, List.nodup_cons, List.mem_cons, List.not_mem_nil, or_false, not_or, not_false_eq_true, List.nodup_nil, and_true] at nb
  obtain ⟨⟨ab, ac, ad⟩, ⟨bc, bd⟩, cd⟩ := nb
  have m : ∀ o, o ∈ B.discs → o ∈ baseF.discs := fun o ho => h.mem_iff.mp ho
  have ma := m B.a (by simp [Four.discs])
  have mb := m B.b (by simp [Four.discs])
  have mc := m B.c (by simp [Four.discs])
  have md := m B.d (by simp [Four.discs])
  have two : ∀ x y, x ∈ baseF.discs → y ∈ baseF.discs → x ≠ y → 0 ≤ x.bend + y.bend := fun x y hx hy hn => ((base_bends x hx).2.2.2 y hy).resolve_left hn
  have pab := two _ _ ma mb ab
  have pac := two _ _ ma mc ac
  have pad := two _ _ ma md ad
  have pbc := two _ _ mb mc bc
  have pbd := two _ _ mb md bd
  have pcd := two _ _ mc md cd
  obtain ⟨_, a3, a1, _⟩ := base_bends _ ma
  obtain ⟨_, b3, b1, _⟩ := base_bends _ mb
  obtain ⟨_, c3, c1, _⟩ := base_bends _ mc
  obtain ⟨_, d3, d1, _⟩ := base_bends _ md
  have mk : ∀ (V : V4) (m : Rat), (2 ≤ m ∧ 0 ≤ V.a + V.b ∧ 0 ≤ V.a + V.c ∧ 0 ≤ V.a + V.d ∧ 0 ≤ V.b + V.c ∧ 0 ≤ V.b + V.d ∧ 0 ≤ V.c + V.d ∧ V.a ≤ m ∧ V.b ≤ m ∧ V.c ≤ m ∧ V.d ≤ m) → 2 ≤ m ∧ Pairs V ∧ Below V m := fun V m ⟨h, a, b, c, d, e, f, x, y, z, w⟩ => ⟨h, ⟨a, b, c, d, e, f⟩, ⟨x, y, z, w⟩⟩
  have hb : bv B = ⟨B.a.bend, B.b.bend, B.c.bend, B.d.bend⟩ := rfl
  rw [hb]
  generalize B.a.bend = a at *
  generalize B.b.bend = b at *
  generalize B.c.bend = c at *
  generalize B.d.bend = d at *
  apply mk
  match i, hi with
  | 0, _ =>
    show 2 ≤ nwQ b c d a ∧ 0 ≤ nwQ b c d a + b ∧ 0 ≤ nwQ b c d a + c ∧ 0 ≤ nwQ b c d a + d ∧ 0 ≤ b + c ∧ 0 ≤ b + d ∧ 0 ≤ c + d ∧ nwQ b c d a ≤ nwQ b c d a ∧ b ≤ nwQ b c d a ∧ c ≤ nwQ b c d a ∧ d ≤ nwQ b c d a
    have e : nwQ b c d a = 12 - 3 * a := by unfold nwQ; grind
    rw [e]
    grind
  | 1, _ =>
    show 2 ≤ nwQ a c d b ∧ 0 ≤ a + nwQ a c d b ∧ 0 ≤ a + c ∧ 0 ≤ a + d ∧ 0 ≤ nwQ a c d b + c ∧ 0 ≤ nwQ a c d b + d ∧ 0 ≤ c + d ∧ a ≤ nwQ a c d b ∧ nwQ a c d b ≤ nwQ a c d b ∧ c ≤ nwQ a c d b ∧ d ≤ nwQ a c d b
    have e : nwQ a c d b = 12 - 3 * b := by unfold nwQ; grind
    rw [e]
    grind
  | 2, _ =>
    show 2 ≤ nwQ a b d c ∧ 0 ≤ a + b ∧ 0 ≤ a + nwQ a b d c ∧ 0 ≤ a + d ∧ 0 ≤ b + nwQ a b d c ∧ 0 ≤ b + d ∧ 0 ≤ nwQ a b d c + d ∧ a ≤ nwQ a b d c ∧ b ≤ nwQ a b d c ∧ nwQ a b d c ≤ nwQ a b d c ∧ d ≤ nwQ a b d c
    have e : nwQ a b d c = 12 - 3 * c := by unfold nwQ; grind
    rw [e]
    grind
  | 3, _ =>
    show 2 ≤ nwQ a b c d ∧ 0 ≤ a + b ∧ 0 ≤ a + c ∧ 0 ≤ a + nwQ a b c d ∧ 0 ≤ b + c ∧ 0 ≤ b + nwQ a b c d ∧ 0 ≤ c + nwQ a b c d ∧ a ≤ nwQ a b c d ∧ b ≤ nwQ a b c d ∧ c ≤ nwQ a b c d ∧ nwQ a b c d ≤ nwQ a b c d
    have e : nwQ a b c d = 12 - 3 * d := by unfold nwQ; grind
    rw [e]
    grind
theorem bends_after {B : Four} (h : B.discs.Perm baseF.discs) : ∀ (n : Nat) (w : T), w.length = n → Word w → w ≠ [] → ∃ i, i < 4 ∧ w.getLast? = some (97 + i) ∧ Pairs (bv (B.after w)) ∧ Below (bv (B.after w)) ((bv (B.after w)).get i) ∧ 2 ≤ (bv (B.after w)).get i ∧ ∀ j, j < 4 → (B.after w).get j = B.get j ∨ 2 ≤ (bv (B.after w)).get j := by
  intro n
  induction n with
  | zero =>
    intro w hl _ hn
    exact absurd (List.eq_nil_of_length_eq_zero hl) hn
  | succ n ih =>
    intro w hl hw hn
    obtain ⟨v, c, rfl⟩ := (snoc_cases w).resolve_left hn
    have hc : c ∈ abcd := hw.1 c (by simp)
    have hs := seat_lt hc
    have cs : c = 97 + (c - 97) := by
      rcases abcd_cases hc with e | e | e | e <;> subst e <;> rfl
    obtain ⟨hr1, hr2⟩ := red_app_one.mp hw.2
    have hv : Word v := ⟨fun d hd => hw.1 d (by simp [hd]), hr1⟩
    have af : B.after (v ++ [c]) = (B.after v).swap (c - 97) := by
      rw [Four.after_app, Four.after_cons, Four.after_nil]
    have gl : (v ++ [c]).getLast? = some (97 + (c - 97)) := by
      rw [← cs]
      simp
    refine ⟨c - 97, hs, gl, ?_⟩
    rw [af, bv_swap]
    generalize c - 97 = i at *
    by_cases ve : v = []
    · subst ve
      rw [Four.after_nil]
      obtain ⟨f1, f2, f3⟩ := first_bends h i hs
      refine ⟨f2, f3, f1, fun j hj => ?_⟩
      by_cases e : i = j
      · right
        rw [← e]
        exact f1
      · left
        exact swap_other B i j hs hj e
    · obtain ⟨i0, hi0, hl0, p0, b0, o0, u0⟩ := ih v (by simpa using hl) hv ve
      have ne : i0 ≠ i := fun e => hr2 (by rw [hl0, e, cs])
      obtain ⟨g1, g2, g3⟩ := swap_keeps hi0 hs ne p0 b0
      have g0 : 2 ≤ ((bv (B.after v)).swap i).get i := Rat.le_trans o0 g1
      refine ⟨g2, g3, g0, fun j hj => ?_⟩
      by_cases e : i = j
      · right
        rw [← e]
        exact g0
      · rw [swap_other _ i j hs hj e, v_other _ i j hs hj e]
        exact u0 j hj
/-- each stone is the one around all, or has a bend of 2 or more -/
theorem stone_bend {B : Four} (h : B.discs.Perm baseF.discs) {w : T} (hw : Abc w) {j : Nat} (hj : j < 4) : (B.after w).get j = outer ∨ 2 ≤ ((B.after w).get j).bend := by
  have m : B.get j ∈ baseF.discs := h.mem_iff.mp (by
    match j, hj with
    | 0, _ => simp [Four.discs, Four.get]
    | 1, _ => simp [Four.discs, Four.get]
    | 2, _ => simp [Four.discs, Four.get]
    | 3, _ => simp [Four.discs, Four.get])
  rw [← after_short]
  have ws := Word.short hw
  by_cases e : short w = []
  · rw [e, Four.after_nil]
    exact (base_bends _ m).1
  · obtain ⟨_, _, _, _, _, _, u⟩ := bends_after h _ _ rfl ws e
    rcases u j hj with z | z
    · rw [z]
      exact (base_bends _ m).1
    · right
      rw [bv_get] at z
      exact z
/-- unlike stones have together a bend above nought -/
theorem two_bends {B : Four} (h : B.discs.Perm baseF.discs) {u v : T} (hu : Abc u) (hv : Abc v) {i j : Nat} (hi : i < 4) (hj : j < 4) (hn : (B.after v).get i ≠ (B.after u).get j) : 0 < ((B.after v).get i).bend + ((B.after u).get j).bend := by
  have ob : outer.bend = -1 := rfl
  rcases stone_bend h hv hi with a | a <;> rcases stone_bend h hu hj with b | b
  · exact absurd (a.trans b.symm) hn
  · rw [a, ob]; grind
  · rw [b, ob]; grind
  · grind
/-- a place strictly within one stone lies strictly without all others -/
theorem num_pos {B : Four} (h : B.discs.Perm baseF.discs) {u v : T} (hu : Abc u) (hv : Abc v) {i j : Nat} (hi : i < 4) (hj : j < 4) (hn : (B.after v).get i ≠ (B.after u).get j) {p : Rat × Rat} (hp : numQ ((B.after u).get j) p < 0) : 0 < numQ ((B.after v).get i) p := by
  have r := base_rooty h
  exact apart_num ((r.after v).self i hi) ((r.after u).self j hj) ((stones_look r hu hv hi hj).resolve_left hn) (two_bends h hu hv hi hj hn) hp
end G

set_option Elab.async false
set_option linter.all false
set_option maxRecDepth 100000
namespace G
/-! the transforms of discs, without divisions -/
def mvL (p : Rat × Rat) (d : Disc) : Disc := ⟨d.back + 2 * (d.x * p.1 + d.y * p.2) + d.bend * (p.1 * p.1 + p.2 * p.2), d.bend, d.x + d.bend * p.1, d.y + d.bend * p.2⟩
def tnL (t : Rat × Rat) (d : Disc) : Disc := ⟨d.back, d.bend, t.1 * d.x - t.2 * d.y, t.2 * d.x + t.1 * d.y⟩
def gwL (q : Rat) (d : Disc) : Disc := ⟨d.back * q, d.bend / q, d.x, d.y⟩
def inL' (p : Rat × Rat) (d : Disc) : Disc := ⟨d.bend, numQ d p, d.x - d.bend * p.1, d.y - d.bend * p.2⟩
theorem disc_ext {a b c d a' b' c' d' : Rat} (h1 : a = a') (h2 : b = b') (h3 : c = c') (h4 : d = d') : (⟨a, b, c, d⟩ : Disc) = ⟨a', b', c', d'⟩ := by
  rw [h1, h2, h3, h4]
theorem moved_lin {d : Disc} {p : Rat × Rat} (h0 : d.bend ≠ 0) (h1 : lookQ d d = 1) : movedQ d p = mvL p d := by
  unfold lookQ at h1
  unfold movedQ madeQ centerQ mvL
  simp only
  refine disc_ext ?_ rfl ?_ ?_
  · grind
  · grind
  · grind
theorem turned_lin {d : Disc} {t : Rat × Rat} (h0 : d.bend ≠ 0) (h1 : lookQ d d = 1) (ht : t.1 * t.1 + t.2 * t.2 = 1) : turnedQ d t = tnL t d := by
  unfold lookQ at h1
  unfold turnedQ madeQ centerQ tnL
  simp only
  refine disc_ext ?_ rfl ?_ ?_
  · grind
  · grind
  · grind
theorem grown_lin {d : Disc} {q : Rat} (h0 : d.bend ≠ 0) (q0 : q ≠ 0) (h1 : lookQ d d = 1) : grownQ d q = gwL q d := by
  unfold lookQ at h1
  unfold grownQ madeQ centerQ gwL
  simp only
  refine disc_ext ?_ rfl ?_ ?_
  · grind
  · grind
  · grind
theorem inward_lin {d : Disc} {p : Rat × Rat} (h0 : d.bend ≠ 0) (h1 : lookQ d d = 1) : inwardQ d p = inL' p d := by
  unfold inwardQ
  rw [moved_lin h0 h1]
  unfold mvL inL' numQ
  simp only
  refine disc_ext rfl ?_ ?_ ?_
  · grind
  · grind
  · grind
/-- what goes through swaps and keeps looks -/
structure Keeps (g : Disc → Disc) : Prop where
  nw : ∀ p q r o, g (nwD p q r o) = nwD (g p) (g q) (g r) (g o)
  look : ∀ d e, lookQ (g d) (g e) = lookQ d e
theorem mv_keeps (p : Rat × Rat) : Keeps (mvL p) := by
  refine ⟨fun a b c d => ?_, fun d e => ?_⟩
  · unfold nwD mvL nwQ
    simp only
    refine disc_ext ?_ ?_ ?_ ?_ <;> grind
  · unfold lookQ mvL
    simp only
    grind
theorem tn_keeps {t : Rat × Rat} (ht : t.1 * t.1 + t.2 * t.2 = 1) : Keeps (tnL t) := by
  refine ⟨fun a b c d => ?_, fun d e => ?_⟩
  · unfold nwD tnL nwQ
    simp only
    refine disc_ext ?_ ?_ ?_ ?_ <;> grind
  · unfold lookQ tnL
    simp only
    grind
theorem gw_keeps {q : Rat} (q0 : q ≠ 0) : Keeps (gwL q) := by
  refine ⟨fun a b c d => ?_, fun d e => ?_⟩
  · unfold nwD gwL nwQ
    simp only
    refine disc_ext ?_ ?_ ?_ ?_ <;> grind
  · unfold lookQ gwL
    simp only
    grind
theorem in_keeps (p : Rat × Rat) : Keeps (inL' p) := by
  refine ⟨fun a b c d => ?_, fun d e => ?_⟩
  · unfold nwD inL' numQ nwQ
    simp only
    refine disc_ext ?_ ?_ ?_ ?_ <;> grind
  · unfold lookQ inL' numQ
    simp only
    grind
theorem Keeps.swap {g : Disc → Disc} (h : Keeps g) (F : Four) : ∀ i, (F.map g).swap i = (F.swap i).map g
  | 0 => by
    have e1 : (F.map g).swap 0 = ⟨nwD (g F.b) (g F.c) (g F.d) (g F.a), g F.b, g F.c, g F.d⟩ := rfl
    have e2 : (F.swap 0).map g = ⟨g (nwD F.b F.c F.d F.a), g F.b, g F.c, g F.d⟩ := rfl
    rw [e1, e2, h.nw]
  | 1 => by
    have e1 : (F.map g).swap 1 = ⟨g F.a, nwD (g F.a) (g F.c) (g F.d) (g F.b), g F.c, g F.d⟩ := rfl
    have e2 : (F.swap 1).map g = ⟨g F.a, g (nwD F.a F.c F.d F.b), g F.c, g F.d⟩ := rfl
    rw [e1, e2, h.nw]
  | 2 => by
    have e1 : (F.map g).swap 2 = ⟨g F.a, g F.b, nwD (g F.a) (g F.b) (g F.d) (g F.c), g F.d⟩ := rfl
    have e2 : (F.swap 2).map g = ⟨g F.a, g F.b, g (nwD F.a F.b F.d F.c), g F.d⟩ := rfl
    rw [e1, e2, h.nw]
  | n + 3 => by
    have e1 : (F.map g).swap (n + 3) = ⟨g F.a, g F.b, g F.c, nwD (g F.a) (g F.b) (g F.c) (g F.d)⟩ := rfl
    have e2 : (F.swap (n + 3)).map g = ⟨g F.a, g F.b, g F.c, g (nwD F.a F.b F.c F.d)⟩ := rfl
    rw [e1, e2, h.nw]
end G

set_option Elab.async false
set_option linter.all false
set_option maxRecDepth 100000
namespace G
theorem map_congr (F : Four) {g g' : Disc → Disc} (h : ∀ j, j < 4 → g (F.get j) = g' (F.get j)) : F.map g = F.map g' := by
  have h0 : g F.a = g' F.a := h 0 (by decide)
  have h1 : g F.b = g' F.b := h 1 (by decide)
  have h2 : g F.c = g' F.c := h 2 (by decide)
  have h3 : g F.d = g' F.d := h 3 (by decide)
  unfold Four.map
  rw [h0, h1, h2, h3]
theorem map_id (F : Four) : F.map (fun d => d) = F := rfl
theorem id_keeps : Keeps (fun d => d) := ⟨fun _ _ _ _ => rfl, fun _ _ => rfl⟩
theorem inside_depth {F : Four} (hr : Rooty F) (hi : I4 F) {j : Nat} (hj : j < 4) (p : Rat × Rat) : depths F p j = numQ (F.get j) p := depth_num (hi.ne j hj) (hr.self j hj)
/-- a scene: the base's four behind a word, through a map that keeps swaps and looks; no stone of it has a bend of nought -/
theorem scene_lin {most : Nat} {G : Four} (h : SceneG most G) : ∃ (B : Four) (w : T) (g : Disc → Disc), B.discs.Perm baseF.discs ∧ Word w ∧ w.length ≤ most ∧ Keeps g ∧ G = (B.after w).map g ∧ ∀ v, Abc v → ∀ j, j < 4 → (g ((B.after v).get j)).bend ≠ 0 := by
  obtain ⟨B, w, hB, hw, hl, hc⟩ := h
  have hr := base_rooty hB
  have hi := (base_I4 hB).1
  have va : ∀ v, Abc v → ∀ j, j < 4 → ((B.after v).get j).bend ≠ 0 ∧ lookQ ((B.after v).get j) ((B.after v).get j) = 1 := fun v _ j hj => ⟨(hi.after v).ne j hj, (hr.after v).self j hj⟩
  rcases hc with e | ⟨p, _, e, u, j0, hu, hj0, hd⟩ | ⟨p, _, e⟩ | ⟨t, _, ht, e⟩ | ⟨q, _, hq, e⟩
  · exact ⟨B, w, fun d => d, hB, hw, hl, id_keeps, e, fun v hv j hj => (va v hv j hj).1⟩
  · refine ⟨B, w, inL' p, hB, hw, hl, in_keeps p, e.trans (map_congr _ fun j hj => inward_lin (va w hw.1 j hj).1 (va w hw.1 j hj).2), fun v hv j hj => ?_⟩
    have wu : Abc (w ++ u) := hw.1.app hu
    have ee : (B.after w).after u = B.after (w ++ u) := by rw [Four.after_app]
    rw [ee, inside_depth (hr.after _) (hi.after _) hj0] at hd
    have eb : (inL' p ((B.after v).get j)).bend = numQ ((B.after v).get j) p := rfl
    rw [eb]
    by_cases z : (B.after v).get j = (B.after (w ++ u)).get j0
    · rw [z]
      intro h0
      rw [h0] at hd
      exact Rat.lt_irrefl hd
    · have := num_pos hB wu hv hj hj0 z hd
      intro h0
      rw [h0] at this
      exact Rat.lt_irrefl this
  · refine ⟨B, w, mvL p, hB, hw, hl, mv_keeps p, e.trans (map_congr _ fun j hj => moved_lin (va w hw.1 j hj).1 (va w hw.1 j hj).2), fun v hv j hj => ?_⟩
    exact (va v hv j hj).1
  · refine ⟨B, w, tnL t, hB, hw, hl, tn_keeps ht, e.trans (map_congr _ fun j hj => turned_lin (va w hw.1 j hj).1 (va w hw.1 j hj).2 ht), fun v hv j hj => ?_⟩
    exact (va v hv j hj).1
  · have q0 : q ≠ 0 := fun z => by
      rw [z] at hq
      exact Rat.lt_irrefl hq
    refine ⟨B, w, gwL q, hB, hw, hl, gw_keeps q0, e.trans (map_congr _ fun j hj => grown_lin (va w hw.1 j hj).1 q0 (va w hw.1 j hj).2), fun v hv j hj => ?_⟩
    exact div_ne (va v hv j hj).1 q0
/-- behind any word: bends that are not nought, each disc looks at itself by 1 -/
theorem Keeps.after {g : Disc → Disc} (h : Keeps g) (v : T) : ∀ F : Four, (F.map g).after v = (F.after v).map g := by
  induction v with
  | nil => intro F; rw [Four.after_nil, Four.after_nil]
  | cons c v ih => intro F; rw [Four.after_cons, Four.after_cons, h.swap, ih]
theorem scene_valid {most : Nat} {G : Four} (h : SceneG most G) : ∀ v, Abc v → ∀ j, j < 4 → ((G.after v).get j).bend ≠ 0 ∧ lookQ ((G.after v).get j) ((G.after v).get j) = 1 := fun v hv j hj => by
  obtain ⟨B, w, g, hB, hw, _, hg, e, hb⟩ := scene_lin h
  rw [e, hg.after, map_get, hg.look, ← Four.after_app]
  exact ⟨hb _ (hw.1.app hv) j hj, ((base_rooty hB).after _).self j hj⟩
end G

set_option Elab.async false
set_option linter.all false
set_option maxRecDepth 100000
set_option exponentiation.threshold 300
namespace G
open PySem L2
def ApartOk (call : CallS) (f : Nat) : Prop := ∀ (p q : Rat × Rat) (m n : Nat) (s : Stt), SzP m p → SzP n q → m ≤ 900 → n ≤ 900 → call f [placeD p, placeD q] s = .ok (qD (apartQ p q)) s
def eyeQ (d e : Disc) : Rat := ((1 / d.bend) * (1 / d.bend) + (1 / e.bend) * (1 / e.bend) - apartQ (centerQ d) (centerQ e)) / (2 * ((1 / d.bend) * (1 / e.bend)))
theorem eye_look {d e : Disc} (d0 : d.bend ≠ 0) (e0 : e.bend ≠ 0) (hd : lookQ d d = 1) (he : lookQ e e = 1) : eyeQ d e = lookQ d e := by
  have hu : d.bend * (1 / d.bend) = 1 := by grind
  have hv : e.bend * (1 / e.bend) = 1 := by grind
  have c1 : centerQ d = (d.x * (1 / d.bend), d.y * (1 / d.bend)) := by
    unfold centerQ
    congr 1 <;> grind
  have c2 : centerQ e = (e.x * (1 / e.bend), e.y * (1 / e.bend)) := by
    unfold centerQ
    congr 1 <;> grind
  unfold eyeQ
  rw [c1, c2]
  unfold lookQ at hd he ⊢
  unfold apartQ
  simp only
  generalize 1 / d.bend = u at *
  generalize 1 / e.bend = v at *
  have u0 : u ≠ 0 := fun z => by rw [z] at hu; grind
  have v0 : v ≠ 0 := fun z => by rw [z] at hv; grind
  have uv : 2 * (u * v) ≠ 0 := by grind
  have b1 : d.back = (d.x * d.x + d.y * d.y - 1) * u := by grind
  have b2 : e.back = (e.x * e.x + e.y * e.y - 1) * v := by grind
  have key : u * u + v * v - ((d.x * u - e.x * v) * (d.x * u - e.x * v) + (d.y * u - e.y * v) * (d.y * u - e.y * v)) = (d.x * e.x + d.y * e.y - (d.bend * e.back + d.back * e.bend) / 2) * (2 * (u * v)) := by
    have w1 : d.bend * e.back * (u * v) = e.back * v := by grind
    have w2 : d.back * e.bend * (u * v) = d.back * u := by grind
    grind
  rw [key]
  grind
section
variable {P : Prog} {k f : Nat}
def B_look (plus times less low : Nat) : List S := [.set 2 (.call plus [.call times [.ix (.var 0) (.int 2), .ix (.var 1) (.int 2)], .call times [.ix (.var 0) (.int 3), .ix (.var 1) (.int 3)]]), .set 3 (.call plus [.call times [.ix (.var 0) (.int 1), .ix (.var 1) (.int 0)], .call times [.ix (.var 0) (.int 0), .ix (.var 1) (.int 1)]]), .ret (.call less [.var 2, .call low [.ix (.var 3) (.int 0), .bin .mul (.int 2) (.ix (.var 3) (.int 1))]])]
def LookOk (call : CallS) (f : Nat) : Prop := ∀ (d e : Disc) (n : Nat) (s : Stt), SzD n d → SzD n e → n ≤ 900 → call f [discD d, discD e] s = .ok (qD (lookQ d e)) s
theorem half_low (q : Rat) : Rat.divInt q.num (2 * (q.den : Int)) = q / 2 := by
  have h := rat_eq q
  have d0 := den_ne' q
  rw [Rat.divInt_eq_div, Rat.intCast_mul]
  conv => rhs; rw [h]
  clear h
  generalize ((q.den : Int) : Rat) = D at d0 ⊢
  have t : ((2 : Int) : Rat) = 2 := rfl
  rw [t]
  grind
theorem lookOk {plus times less low : Nat} (hf : Is P f 2 4 (B_look plus times less low)) (hp : OpOk (· + ·) (callD P k) plus) (ht : OpOk (· * ·) (callD P k) times) (hl : OpOk (· - ·) (callD P k) less) (hlow : LowOk (callD P k) low) : LookOk (callD P (k + 1)) f := fun d e n s hd he hn => by
  refine hf.rt rfl ?_ rfl
  have e0 : ([discD d, discD e] : List D).map some ++ List.replicate (4 - 2) none = [some (discD d), some (discD e), none, none] := rfl
  rw [e0]
  haveI := hd
  haveI := he
  have x1 := ht.run (p := d.x) (q := e.x) (s := s) (by omega)
  have x2 := ht.run (p := d.y) (q := e.y) (s := s) (by omega)
  have x3 := hp.run (p := d.x * e.x) (q := d.y * e.y) (s := s) (by omega)
  have x4 := ht.run (p := d.bend) (q := e.back) (s := s) (by omega)
  have x5 := ht.run (p := d.back) (q := e.bend) (s := s) (by omega)
  have x6 := hp.run (p := d.bend * e.back) (q := d.back * e.bend) (s := s) (by omega)
  have z : Sz (n + n + (n + n) + 1) (d.bend * e.back + d.back * e.bend) := SzC.sz
  have nd : ((2 : Int) * ((d.bend * e.back + d.back * e.bend).den : Int)) ≠ 0 := by
    have := (d.bend * e.back + d.back * e.bend).den_pos
    omega
  have z2 : (2 * ((d.bend * e.back + d.back * e.bend).den : Int)).natAbs < 2 ^ (n + n + (n + n) + 2) := by
    have := z.2
    rw [Nat.pow_succ]
    omega
  have z1 : (d.bend * e.back + d.back * e.bend).num.natAbs < 2 ^ (n + n + (n + n) + 2) := Nat.lt_of_lt_of_le z.1 (Nat.pow_le_pow_right (by decide) (by omega))
  have x7 := hlow (d.bend * e.back + d.back * e.bend).num (2 * ((d.bend * e.back + d.back * e.bend).den : Int)) (n + n + (n + n) + 2) s nd z1 z2 (by omega)
  have m2 := bin_mul (i := 2) (j := ((d.bend * e.back + d.back * e.bend).den : Int)) (m := 2) (n := n + n + (n + n) + 1) (by decide) (by simpa using z.2) (by omega)
  have sq := Sz.divInt nd z1 z2
  rw [half_low] at x7 sq
  have y : Sz (n + n + (n + n) + 1) (d.x * e.x + d.y * e.y) := SzC.sz
  have x8 := hl (d.x * e.x + d.y * e.y) ((d.bend * e.back + d.back * e.bend) / 2) (n + n + (n + n) + 1) (n + n + (n + n) + 2) s y sq (by omega)
  have lq : lookQ d e = d.x * e.x + d.y * e.y - (d.bend * e.back + d.back * e.bend) / 2 := rfl
  rw [lq]
  generalize d.bend * e.back + d.back * e.bend = c at *
  simp only [B_look, evSs, evS, evE, evEs, R.of, R.bind, R.st, RS.seq, List.getElem?_cons_zero, List.getElem?_cons_succ, Option.join_some, List.set_cons_succ, List.set_cons_zero, ix_d0, ix_d1, ix_d2, ix_d3, x1, x2, x3, x4, x5, x6, ix_q0, ix_q1, m2, x7, x8]
end
end G

set_option Elab.async false
set_option linter.all false
set_option maxRecDepth 100000
set_option exponentiation.threshold 300
namespace G
open PySem L2
section
variable {P : Prog} {k f : Nat}
def B_eye (apart center per minus plus by_ : Nat) : List S := [.set 2 (.call apart [.call center [.var 0], .call center [.var 1]]), .set 3 (.lst false [.call per [.tup [.int 1, .int 1], .ix (.var 0) (.int 1)], .call per [.tup [.int 1, .int 1], .ix (.var 1) (.int 1)]]), .set 4 (.call minus [.call plus [.call by_ [.ix (.var 3) (.int 0), .ix (.var 3) (.int 0)], .call by_ [.ix (.var 3) (.int 1), .ix (.var 3) (.int 1)]], .var 2]), .ret (.call per [.var 4, .call by_ [.tup [.int 2, .int 1], .call by_ [.ix (.var 3) (.int 0), .ix (.var 3) (.int 1)]]])]
def EyeOk (call : CallS) (f : Nat) : Prop := ∀ (d e : Disc) (n : Nat) (s : Stt), SzD n d → SzD n e → n ≤ 400 → d.bend ≠ 0 → e.bend ≠ 0 → call f [discD d, discD e] s = .ok (qD (eyeQ d e)) s
theorem one_div_ne {a : Rat} (h : a ≠ 0) : 1 / a ≠ 0 := div_ne (by decide) h
instance : SzC 2 2 := ⟨⟨by decide, by decide⟩⟩
theorem qD_2 : D.tup [.int 2, .int 1] = qD 2 := rfl
theorem eyeOk {apart center per minus plus by_ : Nat} (hf : Is P f 2 5 (B_eye apart center per minus plus by_)) (ha : ApartOk (callD P k) apart) (hc : CenterOk (callD P k) center) (O : Ops (callD P k) plus minus by_ per) : EyeOk (callD P (k + 1)) f := fun d e n s hd he hn d0 e0' => by
  refine hf.rt rfl ?_ rfl
  have e0 : ([discD d, discD e] : List D).map some ++ List.replicate (5 - 2) none = [some (discD d), some (discD e), none, none, none] := rfl
  rw [e0]
  haveI := hd
  haveI := he
  have x1 := hc d n s hd (by omega) d0
  have x2 := hc e n s he (by omega) e0'
  have x3 := ha (centerQ d) (centerQ e) (n + n) (n + n) s inferInstance inferInstance (by omega) (by omega)
  have x4 := O.per.run (p := 1) (q := d.bend) (s := s) d0 (by omega)
  have x5 := O.per.run (p := 1) (q := e.bend) (s := s) e0' (by omega)
  have x6 := O.by_.run (p := 1 / d.bend) (q := 1 / d.bend) (s := s) (by omega)
  have x7 := O.by_.run (p := 1 / e.bend) (q := 1 / e.bend) (s := s) (by omega)
  have x8 := O.plus.run (p := (1 / d.bend) * (1 / d.bend)) (q := (1 / e.bend) * (1 / e.bend)) (s := s) (by omega)
  have x9 := O.minus.run (p := (1 / d.bend) * (1 / d.bend) + (1 / e.bend) * (1 / e.bend)) (q := apartQ (centerQ d) (centerQ e)) (s := s) (by omega)
  have x10 := O.by_.run (p := 1 / d.bend) (q := 1 / e.bend) (s := s) (by omega)
  have x11 := O.by_.run (p := 2) (q := (1 / d.bend) * (1 / e.bend)) (s := s) (by omega)
  have mn : ∀ {a b : Rat}, a ≠ 0 → b ≠ 0 → a * b ≠ 0 := fun ha hb z => by rcases Rat.mul_eq_zero.mp z with h | h <;> contradiction
  have nz : 2 * ((1 / d.bend) * (1 / e.bend)) ≠ 0 := mn (by decide) (mn (one_div_ne d0) (one_div_ne e0'))
  have x12 := O.per.run (p := (1 / d.bend) * (1 / d.bend) + (1 / e.bend) * (1 / e.bend) - apartQ (centerQ d) (centerQ e)) (q := 2 * ((1 / d.bend) * (1 / e.bend))) (s := s) nz (by omega)
  have i0 : ∀ a b : Rat, ixF s (.lst [qD a, qD b]) (.int 0) = some (qD a) := fun _ _ => rfl
  have i1 : ∀ a b : Rat, ixF s (.lst [qD a, qD b]) (.int 1) = some (qD b) := fun _ _ => rfl
  have q := eyeQ.eq_1 d e
  rw [q]
  simp only [B_eye, evSs, evS, evE, evEs, R.of, R.bind, R.st, RS.seq, List.getElem?_cons_zero, List.getElem?_cons_succ, Option.join_some, List.set_cons_succ, List.set_cons_zero, List.length_cons, List.length_nil, Nat.zero_add, Nat.reduceAdd, le2, if_true, ix_d1, qD_1, qD_2, x1, x2, x3, x4, x5, i0, i1, x6, x7, x8, x9, x10, x11, x12]
end
end G

set_option Elab.async false
set_option linter.all false
set_option maxRecDepth 100000
set_option exponentiation.threshold 300
namespace G
open PySem L2
section
variable {P : Prog} {k f : Nat}
def B_sign : List S := [.ret (.bin .sub (.bi .int (.cmp .gt (.ix (.var 0) (.int 0)) (.int 0))) (.bi .int (.cmp .lt (.ix (.var 0) (.int 0)) (.int 0))))]
def signQ (q : Rat) : Int := (if 0 < q then 1 else 0) - (if q < 0 then 1 else 0)
def SignOk (call : CallS) (f : Nat) : Prop := ∀ (q : Rat) (s : Stt), call f [qD q] s = .ok (.int (signQ q)) s
theorem signOk (hf : Is P f 1 1 B_sign) : SignOk (callD P (k + 1)) f := fun q s => by
  refine hf.rt rfl ?_ rfl
  have e0 : ([qD q] : List D).map some ++ List.replicate (1 - 1) none = [some (qD q)] := rfl
  rw [e0]
  have p1 : decide (0 < q.num) = decide (0 < q) := by rw [decide_eq_decide]; exact num_pos_iff
  have p2 : decide (q.num < 0) = decide (q < 0) := by rw [decide_eq_decide]; exact num_neg_iff
  simp only [B_sign, evSs, evS, evE, R.of, R.bind, R.st, RS.seq, List.getElem?_cons_zero, Option.join_some, ix_q0, cmpF, p1, p2, biF, bin_sub, signQ, decide_eq_true_eq]
theorem sign_pos {q : Rat} : 0 < signQ q ↔ 0 < q := by
  unfold signQ
  by_cases h1 : 0 < q
  · have h2 : ¬ q < 0 := fun z => by grind
    simp [h1, h2]
  · rw [if_neg h1]
    constructor
    · intro h
      split at h <;> omega
    · intro h
      exact absurd h h1
def B_touch (look sign plus cT : Nat) : List S := [.ret (.and [.cmp .eq (.call look [.var 0, .var 1]) (.glob cT), .cmp .gt (.call sign [.call plus [.ix (.var 0) (.int 1), .ix (.var 1) (.int 1)]]) (.int 0)])]
def TouchOk (call : CallS) (f : Nat) : Prop := ∀ (d e : Disc) (n : Nat) (s : Stt), SzD n d → SzD n e → n ≤ 900 → call f [discD d, discD e] s = .ok (.bl (decide (lookQ d e = -1) && decide (0 < d.bend + e.bend))) s
theorem touchOk {look sign plus cT : Nat} {nT : Str} (hf : Is P f 2 2 (B_touch look sign plus cT)) (hl : LookOk (callD P k) look) (hs : SignOk (callD P k) sign) (hp : OpOk (· + ·) (callD P k) plus) (hT : P.consts[cT]? = some (nT, qD (-1))) : TouchOk (callD P (k + 1)) f := fun d e n s hd he hn => by
  refine hf.rt rfl ?_ rfl
  have e0 : ([discD d, discD e] : List D).map some ++ List.replicate (2 - 2) none = [some (discD d), some (discD e)] := rfl
  rw [e0]
  haveI := hd
  haveI := he
  have x1 := hl d e n s hd he hn
  have x2 := hp.run (p := d.bend) (q := e.bend) (s := s) (by omega)
  have x3 := hs (d.bend + e.bend) s
  have q := eqF_qD (p := lookQ d e) (q := -1)
  have p : decide (0 < signQ (d.bend + e.bend)) = decide (0 < d.bend + e.bend) := by rw [decide_eq_decide]; exact sign_pos
  by_cases c : lookQ d e = -1
  · rw [decide_eq_true c] at q ⊢
    simp only [B_touch, evSs, evS, evE, evAnd, evEs, R.of, R.bind, R.st, RS.seq, List.getElem?_cons_zero, List.getElem?_cons_succ, Option.join_some, x1, hT, Option.map_some, cmpF, q, ix_d1, x2, x3, p, Bool.true_and]
  · rw [decide_eq_false c] at q ⊢
    simp only [B_touch, evSs, evS, evE, evAnd, evEs, R.of, R.bind, R.st, RS.seq, List.getElem?_cons_zero, List.getElem?_cons_succ, Option.join_some, x1, hT, Option.map_some, cmpF, q, Bool.false_and]
end
end G

set_option Elab.async false
set_option linter.all false
set_option maxRecDepth 100000
set_option exponentiation.threshold 300
namespace G
open PySem L2
/-! one swap by plain sizes -/
theorem at_sz {n : Nat} {o : Disc} (h : SzD n o) : ∀ k, Sz n (o.at k)
  | 0 => h.back
  | 1 => h.bend
  | 2 => h.x
  | _ + 3 => h.y
theorem oth_sz {n : Nat} {F : Four} (h : ∀ j, j < 4 → SzD n (F.get j)) : ∀ i, SzD n (F.oth i).1 ∧ SzD n (F.oth i).2.1 ∧ SzD n (F.oth i).2.2
  | 0 => ⟨h 1 (by decide), h 2 (by decide), h 3 (by decide)⟩
  | 1 => ⟨h 0 (by decide), h 2 (by decide), h 3 (by decide)⟩
  | 2 => ⟨h 0 (by decide), h 1 (by decide), h 3 (by decide)⟩
  | _ + 3 => ⟨h 0 (by decide), h 1 (by decide), h 2 (by decide)⟩
section
variable {P : Prog} {k f : Nat}
/-- the sum of three -/
def Sum3Z (call : CallS) (f : Nat) : Prop := ∀ (b : Nat) (p q r : Rat) (s : Stt), b ≤ 900 → Sz b p → Sz b q → Sz b r → call f [.lst [qD p, qD q, qD r]] s = .ok (qD (0 + p + q + r)) s
theorem sum3Z {plus : Nat} (hf : Is P f 1 3 (B_sum plus)) (hp : OpOk (· + ·) (callD P k) plus) : Sum3Z (callD P (k + 1)) f := fun b p q r s hb h1 h2 h3 => by
  refine hf.rt rfl ?_ rfl
  have z0 : Sz 1 0 := ⟨by decide, by decide⟩
  have a1 := z0.add h1
  have a2 := a1.add h2
  have e1 := hp 0 p 1 b s z0 h1 (by omega)
  have e2 := hp (0 + p) q (1 + b + 1) b s a1 h2 (by omega)
  have e3 := hp (0 + p + q) r (1 + b + 1 + b + 1) b s a2 h3 (by omega)
  show evSs P (callD P k) (B_sum plus) [some (.lst [qD p, qD q, qD r]), none, none] s = _
  have l1 : evS P (callD P k) (.for [2] .seq [.var 0] [.set 1 (.call plus [.var 1, .var 2])]) [some (.lst [qD p, qD q, qD r]), some (qD 0), none] s = .nx [some (.lst [qD p, qD q, qD r]), some (qD (0 + p + q + r)), some (qD r)] s := by
    rw [evS_for]
    have : evEs P (callD P k) [.var 0] [some (.lst [qD p, qD q, qD r]), some (qD 0), none] s = .ok [.lst [qD p, qD q, qD r]] s := by simp [evEs, evE, R.of, R.bind]
    rw [this, rbind_ok]
    simp only [srcF, of_some, st_ok]
    have st : ∀ (x y z : Rat) (o : Option D), callD P k plus [qD x, qD y] s = .ok (qD z) s → forB P (callD P k) [2] [.set 1 (.call plus [.var 1, .var 2])] (qD y) [some (.lst [qD p, qD q, qD r]), some (qD x), o] s = .nx [some (.lst [qD p, qD q, qD r]), some (qD z), some (qD y)] s := fun x y z o h => by
      simp [forB, tgF, evSs, evS, evE, evEs, R.of, R.bind, R.st, RS.seq, h]
    rw [loopF, st _ _ _ _ e1]
    show loopF _ _ _ _ = _
    rw [loopF, st _ _ _ _ e2]
    show loopF _ _ _ _ = _
    rw [loopF, st _ _ _ _ e3]
    rfl
  have s1 : evS P (callD P k) (.set 1 (.tup [.int 0, .int 1])) [some (.lst [qD p, qD q, qD r]), none, none] s = .nx [some (.lst [qD p, qD q, qD r]), some (qD 0), none] s := by
    simp [evS, evE, evEs, R.bind, R.st, le2, qD_0]
  rw [B_sum, evSs_cons, s1, seq_nx, evSs_cons, l1, seq_nx]
  simp [evSs, evS, evE, R.of, R.st, RS.seq]
theorem col_runZ {call : CallS} {lsum m i j : Nat} {F : Four} {s : Stt} {x2 x4 x5 : Option D} (hs : Sum3Z call lsum) (hm : m ≤ 900) (hF : ∀ j, j < 4 → SzD m (F.get j)) (hi : i < 4) (hj : j < 4) :
    evE P call (colE lsum) [some (fourD F), some (.int (i : Nat)), x2, some (.int (j : Nat)), x4, x5] s = .ok (qD (0 + (F.oth i).1.at j + (F.oth i).2.1.at j + (F.oth i).2.2.at j)) s := by
  have c1 := comp_fm (P := P) (call := call) (e := .ix (.ix (.var 0) (.var 5)) (.var 3)) (c := .cmp .ne (.var 5) (.var 1)) (v := 5) (k := .range1) (src := [.int 4]) (ρ := [some (fourD F), some (.int (i : Nat)), x2, some (.int (j : Nat)), x4, x5]) (s := s) (ds := [.int 4]) (fun n : Nat => D.int n) (fun n => !decide ((n : Int) = (i : Int))) (fun n => qD ((F.get n).at j)) (List.range 4)
    (by simp [evEs, evE, R.bind]) (srcF_range (by decide) (by decide)) (by rw [List.length_range]; exact le4)
    (fun n hn => by simp [evT, evE, R.of, R.bind, cmpF, eqF_int]) (fun n hn _ => by
      have hn := List.mem_range.mp hn
      have e1 := ix_four (s := s) (F := F) hn
      have e2 := ix_disc (s := s) (o := F.get n) hj
      simp only [evE, R.of, R.bind, List.set_cons_succ, List.set_cons_zero, List.getElem?_cons_zero, List.getElem?_cons_succ, Option.join_some, e1, e2])
  rw [three_list F j i hi] at c1
  obtain ⟨z1, z2, z3⟩ := oth_sz hF i
  have e := hs m ((F.oth i).1.at j) ((F.oth i).2.1.at j) ((F.oth i).2.2.at j) s hm (at_sz z1 j) (at_sz z2 j) (at_sz z3 j)
  rw [colE, evE, evEs, c1, rbind_ok, evEs, rbind_ok, rbind_ok]
  exact e
theorem swap_turnZ {call : CallS} {lsum minus plus m i j : Nat} {F : Four} {s : Stt} {xs : List D} {x3 x4 x5 : Option D} (hs : Sum3Z call lsum) (hp : OpOk (· + ·) call plus) (hm' : OpOk (· - ·) call minus) (hm : m ≤ 900) (hF : ∀ j, j < 4 → SzD m (F.get j)) (hi : i < 4) (hj : j < 4) (hx : xs.length < 100) :
    ∃ y4, forB P call [3] (swapB lsum minus plus) (.int (j : Nat)) [some (fourD F), some (.int (i : Nat)), some (.ref s.length), x3, x4, x5] (s ++ [.lst xs]) = .nx [some (fourD F), some (.int (i : Nat)), some (.ref s.length), some (.int (j : Nat)), y4, x5] (s ++ [.lst (xs ++ [qD ((F.fresh i).at j)])]) := by
  have c := col_runZ (P := P) (x2 := some (.ref s.length)) (x4 := x4) (x5 := x5) (s := s ++ [.lst xs]) hs hm hF hi hj
  obtain ⟨z1, z2, z3⟩ := oth_sz hF i
  have zo := hF i hi
  have z0 : Sz 1 0 := ⟨by decide, by decide⟩
  have a1 := z0.add (at_sz z1 j)
  have a2 := a1.add (at_sz z2 j)
  have a3 := a2.add (at_sz z3 j)
  have a4 := a3.add a3
  have e1 := hp _ _ _ _ (s ++ [.lst xs]) a3 a3 (by omega)
  have e2 := hm' _ ((F.get i).at j) _ m (s ++ [.lst xs]) a4 (at_sz zo j) (by omega)
  have e3 : ((F.fresh i).at j) = 0 + (F.oth i).1.at j + (F.oth i).2.1.at j + (F.oth i).2.2.at j + (0 + (F.oth i).1.at j + (F.oth i).2.1.at j + (F.oth i).2.2.at j) - (F.get i).at j := nwD_at _ _ _ _ j
  have e2 : call minus [qD (0 + (F.oth i).1.at j + (F.oth i).2.1.at j + (F.oth i).2.2.at j + (0 + (F.oth i).1.at j + (F.oth i).2.1.at j + (F.oth i).2.2.at j)), qD ((F.get i).at j)] (s ++ [.lst xs]) = .ok (qD ((F.fresh i).at j)) (s ++ [.lst xs]) := by rw [e3]; exact e2
  clear e3
  generalize 0 + (F.oth i).1.at j + (F.oth i).2.1.at j + (F.oth i).2.2.at j = t at *
  have i1 := ix_four (s := s ++ [.lst xs]) (F := F) hi
  have i2 := ix_disc (s := s ++ [.lst xs]) (o := F.get i) hj
  have c1 : meOk .append (s ++ [.lst xs]) (.ref s.length) = true := by
    simp only [meOk, isCell, get_at]
  have lx : xs.length < sizeLine := Nat.lt_of_lt_of_le hx (by decide)
  have c2 : meF .append (s ++ [.lst xs]) (.ref s.length) [qD ((F.fresh i).at j)] = .ok .non (s ++ [.lst (xs ++ [qD ((F.fresh i).at j)])]) := by
    simp only [meF, get_at, lmF, lx, if_true, set_at]
  refine ⟨some (qD t), ?_⟩
  rw [forB_one]
  simp only [List.set_cons_succ, List.set_cons_zero]
  have s1 : evS P call (.set 4 (colE lsum)) [some (fourD F), some (.int (i : Nat)), some (.ref s.length), some (.int (j : Nat)), x4, x5] (s ++ [.lst xs]) = .nx [some (fourD F), some (.int (i : Nat)), some (.ref s.length), some (.int (j : Nat)), some (qD t), x5] (s ++ [.lst xs]) := by
    rw [evS, c, st_ok]
    rfl
  have s2 : evS P call (.expr (.met .append (.var 2) [.call minus [.call plus [.var 4, .var 4], .ix (.ix (.var 0) (.var 1)) (.var 3)]])) [some (fourD F), some (.int (i : Nat)), some (.ref s.length), some (.int (j : Nat)), some (qD t), x5] (s ++ [.lst xs]) = .nx [some (fourD F), some (.int (i : Nat)), some (.ref s.length), some (.int (j : Nat)), some (qD t), x5] (s ++ [.lst (xs ++ [qD ((F.fresh i).at j)])]) := by
    have v2 : evE P call (.var 2) [some (fourD F), some (.int (i : Nat)), some (.ref s.length), some (.int (j : Nat)), some (qD t), x5] (s ++ [.lst xs]) = .ok (.ref s.length) (s ++ [.lst xs]) := by simp [evE, R.of]
    rw [evS, evE, v2, rbind_ok, if_pos c1]
    simp only [evE, evEs, R.of, R.bind, R.st, List.getElem?_cons_zero, List.getElem?_cons_succ, Option.join_some, e1, i1, i2, e2, c2]
  rw [swapB, evSs_cons, s1, seq_nx, evSs_cons, s2, seq_nx, evSs_nil]
def SwapZ (call : CallS) (f : Nat) : Prop := ∀ (m i : Nat) (F : Four) (s : Stt), RestOk s → m ≤ 900 → (∀ j, j < 4 → SzD m (F.get j)) → i < 4 → call f [fourD F, .int (i : Nat)] s = .ok (fourD (F.swap i)) s
theorem swapZ {lsum minus plus : Nat} {df : Def} (hf : P.defs[f]? = some df) (h1 : df.ps.length = 2) (h2 : df.N.length = 6) (hb : df.body = B_swap lsum minus plus) (hk : df.keep = false) (hs : Sum3Z (callD P k) lsum) (hp : OpOk (· + ·) (callD P k) plus) (hm' : OpOk (· - ·) (callD P k) minus) : SwapZ (callD P (k + 1)) f := fun m i F s rs hm hF hi => by
  have d5 : discD (F.fresh i) = .tup [qD ((F.fresh i).at 0), qD ((F.fresh i).at 1), qD ((F.fresh i).at 2), qD ((F.fresh i).at 3)] := rfl
  refine callD_new (s1 := s) (s2 := [.lst [qD ((F.fresh i).at 0), qD ((F.fresh i).at 1), qD ((F.fresh i).at 2), qD ((F.fresh i).at 3)]]) (d := fourD (F.swap i)) hf h1.symm hk ?_ rfl (by simp) rfl (rs _)
  rw [hb, h2]
  have e0 : ([fourD F, D.int (i : Nat)] : List D).map some ++ List.replicate (6 - ([fourD F, D.int (i : Nat)] : List D).length) none = [some (fourD F), some (.int (i : Nat)), none, none, none, none] := rfl
  rw [e0]
  have s1 : evS P (callD P k) (.set 2 (.lst true [])) [some (fourD F), some (.int (i : Nat)), none, none, none, none] s = .nx [some (fourD F), some (.int (i : Nat)), some (.ref s.length), none, none, none] (s ++ [.lst []]) := by
    simp [evS, evE, evEs, R.bind, R.st, le0]
  obtain ⟨y0, t0⟩ := swap_turnZ (P := P) (s := s) (xs := []) (x3 := none) (x4 := none) (x5 := none) hs hp hm' hm hF hi (j := 0) (by decide) (by decide)
  obtain ⟨y1, t1⟩ := swap_turnZ (P := P) (s := s) (xs := [] ++ [qD ((F.fresh i).at 0)]) (x3 := some (.int (0 : Nat))) (x4 := y0) (x5 := none) hs hp hm' hm hF hi (j := 1) (by decide) (by simp)
  obtain ⟨y2, t2⟩ := swap_turnZ (P := P) (s := s) (xs := [] ++ [qD ((F.fresh i).at 0)] ++ [qD ((F.fresh i).at 1)]) (x3 := some (.int (1 : Nat))) (x4 := y1) (x5 := none) hs hp hm' hm hF hi (j := 2) (by decide) (by simp)
  obtain ⟨y3, t3⟩ := swap_turnZ (P := P) (s := s) (xs := [] ++ [qD ((F.fresh i).at 0)] ++ [qD ((F.fresh i).at 1)] ++ [qD ((F.fresh i).at 2)]) (x3 := some (.int (2 : Nat))) (x4 := y2) (x5 := none) hs hp hm' hm hF hi (j := 3) (by decide) (by simp)
  have s2 : evS P (callD P k) (.for [3] .range1 [.int 4] (swapB lsum minus plus)) [some (fourD F), some (.int (i : Nat)), some (.ref s.length), none, none, none] (s ++ [.lst []]) = .nx [some (fourD F), some (.int (i : Nat)), some (.ref s.length), some (.int (3 : Nat)), y3, none] (s ++ [.lst [qD ((F.fresh i).at 0), qD ((F.fresh i).at 1), qD ((F.fresh i).at 2), qD ((F.fresh i).at 3)]]) := by
    rw [evS_for]
    have : ∀ ρ s, evEs P (callD P k) [.int 4] ρ s = .ok [.int 4] s := fun ρ s => by simp [evEs, evE, R.bind]
    rw [this, rbind_ok, srcF_range (by decide) (by decide), of_some, st_ok]
    show loopF _ [.int (0 : Nat), .int (1 : Nat), .int (2 : Nat), .int (3 : Nat)] _ _ = _
    rw [loopF, t0]
    show loopF _ _ _ _ = _
    rw [loopF, t1]
    show loopF _ _ _ _ = _
    rw [loopF, t2]
    show loopF _ _ _ _ = _
    rw [loopF, t3]
    rfl
  rw [B_swap, evSs_cons, s1, seq_nx, evSs_cons, s2, seq_nx]
  have tp : biF .tuple (s ++ [.lst [qD ((F.fresh i).at 0), qD ((F.fresh i).at 1), qD ((F.fresh i).at 2), qD ((F.fresh i).at 3)]]) (.ref s.length) = some (discD (F.fresh i)) := by
    simp only [biF, listF, get_at, Option.map_some, d5]
  generalize s ++ [.lst [qD ((F.fresh i).at 0), qD ((F.fresh i).at 1), qD ((F.fresh i).at 2), qD ((F.fresh i).at 3)]] = s' at tp
  have ad : ∀ (a b : List D), a.length + b.length ≤ 100 → binF .add (.lst a) (.lst b) = some (.lst (a ++ b)) := fun a b h => by
    simp only [binF]
    exact if_pos (Nat.le_trans h (by decide))
  obtain ⟨lo, hi', q1, q2, q3, q4⟩ := four_cut F i hi
  have a1 := ad lo [discD (F.fresh i)] (by simp; omega)
  have a2 := ad (lo ++ [discD (F.fresh i)]) hi' (by simp; omega)
  have q5 : D.lst (lo ++ [discD (F.fresh i)] ++ hi') = fourD (F.swap i) := congrArg D.lst q4
  rw [q5] at a2
  simp only [evSs, evS, evE, evEs, evO, R.of, R.bind, R.st, RS.seq, List.getElem?_cons_zero, List.getElem?_cons_succ, Option.join_some, q1, bin_add, q2, tp, List.length_cons, List.length_nil, Nat.zero_add, le1, if_true, a1, a2]
end
end G

set_option Elab.async false
set_option linter.all false
set_option maxRecDepth 100000
set_option exponentiation.threshold 300
namespace G
theorem scene_sz {most : Nat} {G : Four} (hm : most ≤ 10) (h : SceneG most G) : ∀ v, Abc v → v.length ≤ 1 → ∀ j, j < 4 → SzD 400 ((G.after v).get j) := fun v hv hl j hj => by
  obtain ⟨B, w, hB, hw, hlw, hc⟩ := h
  have hr := base_rooty hB
  obtain ⟨hi, sB⟩ := base_I4 hB
  have va : ∀ j, j < 4 → ((B.after w).get j).bend ≠ 0 ∧ lookQ ((B.after w).get j) ((B.after w).get j) = 1 := fun j hj => ⟨(hi.after w).ne j hj, (hr.after w).self j hj⟩
  have so := (SizedF.after (by decide) (w ++ v) 2 B sB).mono (show 2 + 5 * (w ++ v).length ≤ 57 by rw [List.length_append]; omega)
  have sz := so.szD (by decide) (by decide) j
  have ap : (B.after (w ++ v)).get j = ((B.after w).after v).get j := by rw [Four.after_app]
  rw [ap] at sz
  have key : ∀ g : Disc → Disc, Keeps g → G = (B.after w).map g → SzD 400 (g (((B.after w).after v).get j)) → SzD 400 ((G.after v).get j) := fun g hg e hs => by
    rw [e, hg.after, map_get]
    exact hs
  generalize ((B.after w).after v).get j = o at sz key
  haveI := sz
  rcases hc with e | ⟨p, hp, e, _⟩ | ⟨p, hp, e⟩ | ⟨t, hp, ht, e⟩ | ⟨q, hq, q0, e⟩
  · exact key (fun d => d) id_keeps e (sz.mono (by decide))
  · haveI := hp
    refine key (inL' p) (in_keeps p) (e.trans (map_congr _ fun j hj => inward_lin (va j hj).1 (va j hj).2)) ⟨sz.bend.mono (by decide), ?_, ?_, ?_⟩
    · exact Sz.mono (SzC.sz (q := o.bend * (p.1 * p.1 + p.2 * p.2) - 2 * (o.x * p.1 + o.y * p.2) + o.back)) (by decide)
    · exact Sz.mono (SzC.sz (q := o.x - o.bend * p.1)) (by decide)
    · exact Sz.mono (SzC.sz (q := o.y - o.bend * p.2)) (by decide)
  · haveI := hp
    refine key (mvL p) (mv_keeps p) (e.trans (map_congr _ fun j hj => moved_lin (va j hj).1 (va j hj).2)) ⟨?_, sz.bend.mono (by decide), ?_, ?_⟩
    · exact Sz.mono (SzC.sz (q := o.back + 2 * (o.x * p.1 + o.y * p.2) + o.bend * (p.1 * p.1 + p.2 * p.2))) (by decide)
    · exact Sz.mono (SzC.sz (q := o.x + o.bend * p.1)) (by decide)
    · exact Sz.mono (SzC.sz (q := o.y + o.bend * p.2)) (by decide)
  · haveI := hp
    refine key (tnL t) (tn_keeps ht) (e.trans (map_congr _ fun j hj => turned_lin (va j hj).1 (va j hj).2 ht)) ⟨sz.back.mono (by decide), sz.bend.mono (by decide), ?_, ?_⟩
    · exact Sz.mono (SzC.sz (q := t.1 * o.x - t.2 * o.y)) (by decide)
    · exact Sz.mono (SzC.sz (q := t.2 * o.x + t.1 * o.y)) (by decide)
  · haveI := hq
    have qn : q ≠ 0 := fun z => by rw [z] at q0; exact Rat.lt_irrefl q0
    refine key (gwL q) (gw_keeps qn) (e.trans (map_congr _ fun j hj => grown_lin (va j hj).1 qn (va j hj).2)) ⟨?_, ?_, sz.x.mono (by decide), sz.y.mono (by decide)⟩
    · exact Sz.mono (SzC.sz (q := o.back * q)) (by decide)
    · exact Sz.mono (SzC.sz (q := o.bend / q)) (by decide)
end G

set_option Elab.async false
set_option linter.all false
set_option maxRecDepth 100000
set_option maxHeartbeats 0
namespace K08
open PySem PySem.Spec PyProof.Rows L2 G
abbrev i_low : Nat := 0
abbrev i_plus : Nat := 1
abbrev i_less : Nat := 2
abbrev i_times : Nat := 3
abbrev i_sign_of : Nat := 4
abbrev i_look : Nat := 5
abbrev i_touch : Nat := 6
abbrev i_law_bag : Nat := 7
abbrev i_law_pull : Nat := 8
abbrev i_law_of : Nat := 9
abbrev i_law_shuffled : Nat := 10
abbrev i_law_same : Nat := 11
abbrev i_law_low : Nat := 12
abbrev i_law_plus : Nat := 13
abbrev i_law_minus : Nat := 14
abbrev i_law_by : Nat := 15
abbrev i_law_per : Nat := 16
abbrev i_law_sum : Nat := 17
abbrev i_law_under : Nat := 18
abbrev i_law_spot : Nat := 19
abbrev i_law_word : Nat := 20
abbrev i_law_call : Nat := 21
abbrev i_law_base : Nat := 22
abbrev i_law_swap : Nat := 23
abbrev i_law_after : Nat := 24
abbrev i_law_stone : Nat := 25
abbrev i_law_made : Nat := 26
abbrev i_law_center : Nat := 27
abbrev i_law_apart : Nat := 28
abbrev i_law_depth : Nat := 29
abbrev i_law_eye : Nat := 30
abbrev i_law_moved : Nat := 31
abbrev i_law_grown : Nat := 32
abbrev i_law_turned : Nat := 33
abbrev i_law_inward : Nat := 34
abbrev i_law_top : Nat := 35
abbrev i_law_descent : Nat := 36
abbrev i_law_found : Nat := 37
abbrev i_law_seen_from : Nat := 38
abbrev i_law_turn : Nat := 39
abbrev i_law_scene : Nat := 40
abbrev i_law_free_disc : Nat := 41
abbrev i_law : Nat := 42
abbrev c_TOUCH : Nat := 0
abbrev h_look_0_other_one : Nat := 0
def b_low : List S := [.par [2, 3] [.bi .abs (.var 0), .bi .abs (.var 1)], .while (.cmp .ne (.var 3) (.int 0)) [.par [2, 3] [.var 3, .bin .sub (.var 2) (.bin .mul (.bin .fdiv (.var 2) (.var 3)) (.var 3))]], .set 4 (.ite (.cmp .gt (.var 1) (.int 0)) (.int 1) (.neg (.int 1))), .ret (.tup [.bin .fdiv (.bin .mul (.var 4) (.var 0)) (.var 2), .bin .fdiv (.bin .mul (.var 4) (.var 1)) (.var 2)])]
def d_low : Def := ⟨"low", true, ["above", "beneath"], ["above", "beneath", "one", "other", "side"], b_low, false, false⟩
def b_plus : List S := [.ret (.call i_low [.bin .add (.bin .mul (.ix (.var 0) (.int 0)) (.ix (.var 1) (.int 1))) (.bin .mul (.ix (.var 1) (.int 0)) (.ix (.var 0) (.int 1))), .bin .mul (.ix (.var 0) (.int 1)) (.ix (.var 1) (.int 1))])]
def d_plus : Def := ⟨"plus", true, ["one", "other"], ["one", "other"], b_plus, false, false⟩
def b_less : List S := [.ret (.call i_low [.bin .sub (.bin .mul (.ix (.var 0) (.int 0)) (.ix (.var 1) (.int 1))) (.bin .mul (.ix (.var 1) (.int 0)) (.ix (.var 0) (.int 1))), .bin .mul (.ix (.var 0) (.int 1)) (.ix (.var 1) (.int 1))])]
def d_less : Def := ⟨"less", true, ["one", "other"], ["one", "other"], b_less, false, false⟩
def b_times : List S := [.ret (.call i_low [.bin .mul (.ix (.var 0) (.int 0)) (.ix (.var 1) (.int 0)), .bin .mul (.ix (.var 0) (.int 1)) (.ix (.var 1) (.int 1))])]
def d_times : Def := ⟨"times", true, ["one", "other"], ["one", "other"], b_times, false, false⟩
def b_sign_of : List S := [.ret (.bin .sub (.bi .int (.cmp .gt (.ix (.var 0) (.int 0)) (.int 0))) (.bi .int (.cmp .lt (.ix (.var 0) (.int 0)) (.int 0))))]
def d_sign_of : Def := ⟨"sign_of", true, ["one"], ["one"], b_sign_of, false, false⟩
def b_look : List S := [.set 2 (.call i_plus [.call i_times [.ix (.var 0) (.int 2), .ix (.var 1) (.int 2)], .call i_times [.ix (.var 0) (.int 3), .ix (.var 1) (.int 3)]]), .set 3 (.call i_plus [.call i_times [.ix (.var 0) (.int 1), .ix (.var 1) (.int 0)], .call i_times [.ix (.var 0) (.int 0), .ix (.var 1) (.int 1)]]), .ret (.call i_less [.var 2, .call i_low [.ix (.var 3) (.int 0), .bin .mul (.int 2) (.ix (.var 3) (.int 1))]])]
def d_look : Def := ⟨"look", true, ["one", "other"], ["one", "other", "flat", "cross"], b_look, false, false⟩
def b_touch : List S := [.ret (.and [.cmp .eq (.call i_look [.var 0, .var 1]) (.glob c_TOUCH), .cmp .gt (.call i_sign_of [.call i_plus [.ix (.var 0) (.int 1), .ix (.var 1) (.int 1)]]) (.int 0)])]
def d_touch : Def := ⟨"touch", true, ["one", "other"], ["one", "other"], b_touch, false, false⟩
def b_law_bag : List S := [.set 1 (.int 9146), .for [2] .seq [.sl (.var 0) none (some (.int 63))] [.set 1 (.bin .mod (.bin .add (.bin .add (.bin .mul (.var 1) (.int 48271)) (.bin .mod (.var 2) (.int 2147483629))) (.int 17)) (.int 2147483647))], .ret (.lst true [.bi .list (.sl (.var 0) none (some (.int 63))), .int 0, .int 0, .var 1])]
def d_law_bag : Def := ⟨"_law_bag", true, ["_law_script"], ["_law_script", "_law_salt", "_law_cell"], b_law_bag, true, false⟩
def b_law_pull : List S := [.ite (.and [.cmp .eq (.ix (.var 0) (.int 2)) (.int 0), .cmp .lt (.ix (.var 0) (.int 1)) (.bi .len (.ix (.var 0) (.int 0)))]) [.set 2 (.ix (.ix (.var 0) (.int 0)) (.ix (.var 0) (.int 1))), .setix (.var 0) (.int 1) (.bin .add (.ix (.var 0) (.int 1)) (.int 1)), .ite (.cmp .ge (.var 2) (.bin .pow (.int 10) (.int 18))) [.setix (.var 0) (.int 2) (.var 2)] [.setix (.var 0) (.int 3) (.bin .mod (.bin .add (.bin .add (.bin .mul (.ix (.var 0) (.int 3)) (.int 69621)) (.bin .mul (.bin .mod (.var 2) (.int 2147483629)) (.int 48271))) (.int 7)) (.int 2147483647))]] [], .ite (.cmp .gt (.ix (.var 0) (.int 2)) (.int 0)) [.set 3 (.bin .mod (.ix (.var 0) (.int 2)) (.var 1)), .setix (.var 0) (.int 2) (.bin .fdiv (.ix (.var 0) (.int 2)) (.var 1)), .ret (.var 3)] [], .set 4 (.ix (.var 0) (.int 3)), .set 4 (.bin .mod (.bin .add (.bin .add (.bin .mul (.bin .mod (.bin .mul (.var 4) (.var 4)) (.int 2147483587)) (.int 5)) (.bin .mul (.var 4) (.int 16807))) (.int 1013904229)) (.int 2147483647)), .setix (.var 0) (.int 3) (.var 4), .ret (.bin .mod (.bin .add (.bin .fdiv (.var 4) (.int 53)) (.bin .mul (.bin .mod (.var 4) (.int 8191)) (.int 31))) (.var 1))]
def d_law_pull : Def := ⟨"_law_pull", true, ["_law_bag_here", "_law_many"], ["_law_bag_here", "_law_many", "_law_cell", "_law_got", "_law_seed"], b_law_pull, false, false⟩
def b_law_of : List S := [.ret (.ix (.var 1) (.call i_law_pull [.var 0, .bi .len (.var 1)]))]
def d_law_of : Def := ⟨"_law_of", true, ["_law_bag_here", "_law_things"], ["_law_bag_here", "_law_things"], b_law_of, false, false⟩
def b_law_shuffled : List S := [.set 2 (.mk (.var 1)), .ret (.comp false (.met .popAt (.var 2) [.call i_law_pull [.var 0, .bi .len (.var 2)]]) [3] [3] .range1 [.bi .len (.var 1)] none)]
def d_law_shuffled : Def := ⟨"_law_shuffled", true, ["_law_bag_here", "_law_things"], ["_law_bag_here", "_law_things", "_law_left", "_law_k"], b_law_shuffled, false, false⟩
def b_law_same : List S := [.ite (.isi (.var 1) true ["list", "tuple"]) [.ite (.or [.cmp .ne (.isi (.var 0) false ["list"]) (.isi (.var 1) false ["list"]), .cmp .ne (.isi (.var 0) false ["tuple"]) (.isi (.var 1) false ["tuple"])]) [.ret (.bl false)] [], .ret (.and [.cmp .eq (.bi .len (.var 0)) (.bi .len (.var 1)), .bi .all (.comp false (.call i_law_same [.ix (.var 0) (.var 2), .ix (.var 1) (.var 2)]) [2] [2] .range1 [.bi .len (.var 1)] none)])] [], .ite (.or [.cmp .isN (.var 1) (.non), .cmp .isN (.var 0) (.non)]) [.ret (.and [.cmp .isN (.var 1) (.non), .cmp .isN (.var 0) (.non)])] [], .ite (.or [.cmp .ne (.isi (.var 0) false ["bool"]) (.isi (.var 1) false ["bool"]), .cmp .ne (.isi (.var 0) false ["int"]) (.isi (.var 1) false ["int"])]) [.ret (.bl false)] [], .ret (.and [.cmp .eq (.isi (.var 0) false ["str"]) (.isi (.var 1) false ["str"]), .cmp .eq (.var 0) (.var 1)])]
def d_law_same : Def := ⟨"_law_same", true, ["_law_told", "_law_due"], ["_law_told", "_law_due", "_law_k"], b_law_same, false, false⟩
def b_law_low : List S := [.par [2, 3] [.bi .abs (.var 0), .bi .abs (.var 1)], .while (.cmp .ne (.var 3) (.int 0)) [.par [2, 3] [.var 3, .bin .mod (.var 2) (.var 3)]], .set 4 (.ite (.cmp .gt (.var 1) (.int 0)) (.int 1) (.neg (.int 1))), .ret (.tup [.bin .fdiv (.bin .mul (.var 4) (.var 0)) (.var 2), .bin .fdiv (.bin .mul (.var 4) (.var 1)) (.var 2)])]
def d_law_low : Def := ⟨"_law_low", true, ["_law_above", "_law_beneath"], ["_law_above", "_law_beneath", "_law_my_one", "_law_my_other", "_law_side"], b_law_low, false, false⟩
def b_law_plus : List S := [.ret (.call i_law_low [.bin .add (.bin .mul (.ix (.var 0) (.int 0)) (.ix (.var 1) (.int 1))) (.bin .mul (.ix (.var 1) (.int 0)) (.ix (.var 0) (.int 1))), .bin .mul (.ix (.var 0) (.int 1)) (.ix (.var 1) (.int 1))])]
def d_law_plus : Def := ⟨"_law_plus", true, ["_law_my_one", "_law_my_other"], ["_law_my_one", "_law_my_other"], b_law_plus, false, false⟩
def b_law_minus : List S := [.ret (.call i_law_low [.bin .sub (.bin .mul (.ix (.var 0) (.int 0)) (.ix (.var 1) (.int 1))) (.bin .mul (.ix (.var 1) (.int 0)) (.ix (.var 0) (.int 1))), .bin .mul (.ix (.var 0) (.int 1)) (.ix (.var 1) (.int 1))])]
def d_law_minus : Def := ⟨"_law_minus", true, ["_law_my_one", "_law_my_other"], ["_law_my_one", "_law_my_other"], b_law_minus, false, false⟩
def b_law_by : List S := [.ret (.call i_law_low [.bin .mul (.ix (.var 0) (.int 0)) (.ix (.var 1) (.int 0)), .bin .mul (.ix (.var 0) (.int 1)) (.ix (.var 1) (.int 1))])]
def d_law_by : Def := ⟨"_law_by", true, ["_law_my_one", "_law_my_other"], ["_law_my_one", "_law_my_other"], b_law_by, false, false⟩
def b_law_per : List S := [.ret (.call i_law_low [.bin .mul (.ix (.var 0) (.int 0)) (.ix (.var 1) (.int 1)), .bin .mul (.ix (.var 0) (.int 1)) (.ix (.var 1) (.int 0))])]
def d_law_per : Def := ⟨"_law_per", true, ["_law_my_one", "_law_my_other"], ["_law_my_one", "_law_my_other"], b_law_per, false, false⟩
def b_law_sum : List S := [.set 1 (.tup [.int 0, .int 1]), .for [2] .seq [.var 0] [.set 1 (.call i_law_plus [.var 1, .var 2])], .ret (.var 1)]
def d_law_sum : Def := ⟨"_law_sum", true, ["_law_row"], ["_law_row", "_law_found_here", "_law_my_one"], b_law_sum, false, false⟩
def b_law_under : List S := [.ret (.cmp .lt (.bin .mul (.ix (.var 0) (.int 0)) (.ix (.var 1) (.int 1))) (.bin .mul (.ix (.var 1) (.int 0)) (.ix (.var 0) (.int 1))))]
def d_law_under : Def := ⟨"_law_under", true, ["_law_my_one", "_law_my_other"], ["_law_my_one", "_law_my_other"], b_law_under, false, false⟩
def b_law_spot : List S := [.set 3 (.lst true []), .for [4] .range1 [.int 2] [.set 5 (.bin .add (.int 1) (.call i_law_pull [.var 0, .var 1])), .expr (.met .append (.var 3) [.call i_law_low [.bin .sub (.call i_law_pull [.var 0, .bin .add (.bin .mul (.bin .mul (.int 2) (.var 2)) (.var 5)) (.int 1)]) (.bin .mul (.var 2) (.var 5)), .var 5]])], .ret (.tup [.ix (.var 3) (.int 0), .ix (.var 3) (.int 1)])]
def d_law_spot : Def := ⟨"_law_spot", true, ["_law_bag_here", "_law_most", "_law_reach"], ["_law_bag_here", "_law_most", "_law_reach", "_law_found_here", "_law_k", "_law_beneath"], b_law_spot, false, false⟩
def b_law_word : List S := [.set 2 (.str []), .for [3] .range1 [.call i_law_pull [.var 0, .bin .add (.var 1) (.int 1)]] [.set 2 (.bin .add (.var 2) (.call i_law_of [.var 0, .comp false (.var 4) [4] [4] .seq [.str [97, 98, 99, 100]] (some (.cmp .ne (.var 4) (.sl (.var 2) (some (.neg (.int 1))) none)))]))], .ret (.var 2)]
def d_law_word : Def := ⟨"_law_word", true, ["_law_bag_here", "_law_most"], ["_law_bag_here", "_law_most", "_law_text", "_law_k", "_law_sign"], b_law_word, false, false⟩
def b_law_call : List S := [.for [2] .range3 [.bi .len (.var 0), .int 0, .neg (.int 1)] [.ite (.cmp .eq (.ix (.var 0) (.bin .sub (.var 2) (.int 1))) (.var 1)) [.ret (.sl (.var 0) none (some (.var 2)))] []], .ret (.met .upper (.var 1) [])]
def d_law_call : Def := ⟨"_law_call", true, ["_law_text", "_law_letter"], ["_law_text", "_law_letter", "_law_size"], b_law_call, false, false⟩
def b_law_base : List S := [.set 0 (.lst false [.lst false [.int 1, .neg (.int 1), .int 0, .int 0], .lst false [.int 0, .int 2, .int 1, .int 0], .lst false [.int 0, .int 2, .neg (.int 1), .int 0], .lst false [.int 1, .int 3, .int 0, .int 2]]), .ret (.comp false (.bi .tuple (.comp false (.tup [.var 1, .int 1]) [1] [1] .seq [.var 2] none)) [2] [2] .seq [.var 0] none)]
def d_law_base : Def := ⟨"_law_base", true, [], ["_law_rows", "_law_my_one", "_law_row"], b_law_base, false, false⟩
def b_law_swap : List S := [.set 2 (.lst true []), .for [3] .range1 [.int 4] [.set 4 (.call i_law_sum [.comp false (.ix (.ix (.var 0) (.var 5)) (.var 3)) [5] [5] .range1 [.int 4] (some (.cmp .ne (.var 5) (.var 1)))]), .expr (.met .append (.var 2) [.call i_law_minus [.call i_law_plus [.var 4, .var 4], .ix (.ix (.var 0) (.var 1)) (.var 3)]])], .ret (.bin .add (.bin .add (.sl (.var 0) none (some (.var 1))) (.lst false [.bi .tuple (.var 2)])) (.sl (.var 0) (some (.bin .add (.var 1) (.int 1))) none))]
def d_law_swap : Def := ⟨"_law_swap", true, ["_law_four", "_law_at"], ["_law_four", "_law_at", "_law_fresh", "_law_k", "_law_three", "_law_j"], b_law_swap, false, false⟩
def b_law_after : List S := [.set 2 (.bi .list (.var 0)), .for [3] .seq [.var 1] [.set 2 (.call i_law_swap [.var 2, .met .index (.str [97, 98, 99, 100]) [.var 3]])], .ret (.var 2)]
def d_law_after : Def := ⟨"_law_after", true, ["_law_four", "_law_text"], ["_law_four", "_law_text", "_law_here", "_law_sign"], b_law_after, false, false⟩
def b_law_stone : List S := [.ite (.cmp .in_ (.var 1) (.tup [.str [65], .str [66], .str [67], .str [68]])) [.ret (.ix (.var 0) (.met .index (.str [65, 66, 67, 68]) [.var 1]))] [], .ret (.ix (.call i_law_after [.var 0, .var 1]) (.met .index (.str [97, 98, 99, 100]) [.ix (.var 1) (.neg (.int 1))]))]
def d_law_stone : Def := ⟨"_law_stone", true, ["_law_four", "_law_call_here"], ["_law_four", "_law_call_here"], b_law_stone, false, false⟩
def b_law_made : List S := [.par [2, 3] [.call i_law_by [.ix (.var 0) (.int 0), .var 1], .call i_law_by [.ix (.var 0) (.int 1), .var 1]], .set 4 (.call i_law_minus [.call i_law_plus [.call i_law_by [.var 2, .var 2], .call i_law_by [.var 3, .var 3]], .tup [.int 1, .int 1]]), .ret (.tup [.call i_law_per [.var 4, .var 1], .var 1, .var 2, .var 3])]
def d_law_made : Def := ⟨"_law_made", true, ["_law_center_here", "_law_bend"], ["_law_center_here", "_law_bend", "_law_x", "_law_y", "_law_both"], b_law_made, false, false⟩
def b_law_center : List S := [.ret (.tup [.call i_law_per [.ix (.var 0) (.int 2), .ix (.var 0) (.int 1)], .call i_law_per [.ix (.var 0) (.int 3), .ix (.var 0) (.int 1)]])]
def d_law_center : Def := ⟨"_law_center", true, ["_law_my_one"], ["_law_my_one"], b_law_center, false, false⟩
def b_law_apart : List S := [.par [2, 3] [.call i_law_minus [.ix (.var 0) (.int 0), .ix (.var 1) (.int 0)], .call i_law_minus [.ix (.var 0) (.int 1), .ix (.var 1) (.int 1)]], .ret (.call i_law_plus [.call i_law_by [.var 2, .var 2], .call i_law_by [.var 3, .var 3]])]
def d_law_apart : Def := ⟨"_law_apart", true, ["_law_my_one", "_law_my_other"], ["_law_my_one", "_law_my_other", "_law_x", "_law_y"], b_law_apart, false, false⟩
def b_law_depth : List S := [.set 2 (.call i_law_apart [.call i_law_center [.var 0], .var 1]), .ret (.call i_law_by [.ix (.var 0) (.int 1), .call i_law_minus [.var 2, .call i_law_per [.tup [.int 1, .int 1], .call i_law_by [.ix (.var 0) (.int 1), .ix (.var 0) (.int 1)]]]])]
def d_law_depth : Def := ⟨"_law_depth", true, ["_law_my_one", "_law_spot_here"], ["_law_my_one", "_law_spot_here", "_law_near"], b_law_depth, false, false⟩
def b_law_eye : List S := [.set 2 (.call i_law_apart [.call i_law_center [.var 0], .call i_law_center [.var 1]]), .set 3 (.lst false [.call i_law_per [.tup [.int 1, .int 1], .ix (.var 0) (.int 1)], .call i_law_per [.tup [.int 1, .int 1], .ix (.var 1) (.int 1)]]), .set 4 (.call i_law_minus [.call i_law_plus [.call i_law_by [.ix (.var 3) (.int 0), .ix (.var 3) (.int 0)], .call i_law_by [.ix (.var 3) (.int 1), .ix (.var 3) (.int 1)]], .var 2]), .ret (.call i_law_per [.var 4, .call i_law_by [.tup [.int 2, .int 1], .call i_law_by [.ix (.var 3) (.int 0), .ix (.var 3) (.int 1)]]])]
def d_law_eye : Def := ⟨"_law_eye", true, ["_law_my_one", "_law_my_other"], ["_law_my_one", "_law_my_other", "_law_near", "_law_radii", "_law_rest"], b_law_eye, false, false⟩
def b_law_moved : List S := [.set 2 (.call i_law_center [.var 0]), .ret (.call i_law_made [.tup [.call i_law_plus [.ix (.var 2) (.int 0), .ix (.var 1) (.int 0)], .call i_law_plus [.ix (.var 2) (.int 1), .ix (.var 1) (.int 1)]], .ix (.var 0) (.int 1)])]
def d_law_moved : Def := ⟨"_law_moved", true, ["_law_my_one", "_law_by_here"], ["_law_my_one", "_law_by_here", "_law_center_here"], b_law_moved, false, false⟩
def b_law_grown : List S := [.set 2 (.call i_law_center [.var 0]), .ret (.call i_law_made [.tup [.call i_law_by [.ix (.var 2) (.int 0), .var 1], .call i_law_by [.ix (.var 2) (.int 1), .var 1]], .call i_law_per [.ix (.var 0) (.int 1), .var 1]])]
def d_law_grown : Def := ⟨"_law_grown", true, ["_law_my_one", "_law_many"], ["_law_my_one", "_law_many", "_law_center_here"], b_law_grown, false, false⟩
def b_law_turned : List S := [.unp [2, 3] (.call i_law_center [.var 0]), .unp [4, 5] (.var 1), .set 6 (.call i_law_minus [.call i_law_by [.var 4, .var 2], .call i_law_by [.var 5, .var 3]]), .ret (.call i_law_made [.tup [.var 6, .call i_law_plus [.call i_law_by [.var 5, .var 2], .call i_law_by [.var 4, .var 3]]], .ix (.var 0) (.int 1)])]
def d_law_turned : Def := ⟨"_law_turned", true, ["_law_my_one", "_law_by_here"], ["_law_my_one", "_law_by_here", "_law_p", "_law_q", "_law_c", "_law_s", "_law_x"], b_law_turned, false, false⟩
def b_law_inward : List S := [.set 2 (.call i_law_moved [.var 0, .tup [.call i_law_minus [.tup [.int 0, .int 1], .ix (.var 1) (.int 0)], .call i_law_minus [.tup [.int 0, .int 1], .ix (.var 1) (.int 1)]]]), .ret (.tup [.ix (.var 2) (.int 1), .ix (.var 2) (.int 0), .ix (.var 2) (.int 2), .ix (.var 2) (.int 3)])]
def d_law_inward : Def := ⟨"_law_inward", true, ["_law_my_one", "_law_spot_here"], ["_law_my_one", "_law_spot_here", "_law_near"], b_law_inward, false, false⟩
def b_law_top : List S := [.set 1 (.int 0), .for [2] .range1 [.bi .len (.var 0)] [.ite (.call i_law_under [.ix (.var 0) (.var 1), .ix (.var 0) (.var 2)]) [.set 1 (.var 2)] []], .ret (.var 1)]
def d_law_top : Def := ⟨"_law_top", true, ["_law_row"], ["_law_row", "_law_found_here", "_law_at"], b_law_top, false, false⟩
def b_law_descent : List S := [.par [3, 4] [.bi .list (.var 0), .str []], .set 5 (.lst true [.comp false (.call i_law_depth [.var 6, .var 1]) [6] [6] .seq [.var 3] none]), .for [7] .range1 [.bin .add (.var 2) (.int 1)] [.ite (.cmp .le (.bi .min (.comp false (.ix (.var 6) (.int 0)) [6] [6] .seq [.ix (.var 5) (.neg (.int 1))] none)) (.int 0)) [.ret (.tup [.var 4, .var 5])] [], .set 8 (.call i_law_top [.ix (.var 5) (.neg (.int 1))]), .set 3 (.call i_law_swap [.var 3, .var 8]), .set 4 (.bin .add (.var 4) (.ix (.str [97, 98, 99, 100]) (.var 8))), .expr (.met .append (.var 5) [.comp false (.call i_law_depth [.var 6, .var 1]) [6] [6] .seq [.var 3] none])], .ret (.non)]
def d_law_descent : Def := ⟨"_law_descent", true, ["_law_four", "_law_spot_here", "_law_most"], ["_law_four", "_law_spot_here", "_law_most", "_law_here", "_law_text", "_law_rows", "_law_my_one", "_law_turn_here", "_law_at"], b_law_descent, false, false⟩
def b_law_found : List S := [.set 3 (.call i_law_descent [.var 0, .var 1, .var 2]), .ite (.cmp .isN (.var 3) (.non)) [.ret (.non)] [], .set 4 (.met .lindex (.comp false (.cmp .gt (.ix (.var 5) (.int 0)) (.int 0)) [5] [5] .seq [.ix (.ix (.var 3) (.int 1)) (.neg (.int 1))] none) [.bl false]), .ret (.call i_law_call [.ix (.var 3) (.int 0), .ix (.str [97, 98, 99, 100]) (.var 4)])]
def d_law_found : Def := ⟨"_law_found", true, ["_law_four", "_law_spot_here", "_law_most"], ["_law_four", "_law_spot_here", "_law_most", "_law_told", "_law_at", "_law_my_one"], b_law_found, false, false⟩
def b_law_seen_from : List S := [.set 2 (.call i_law_found [.var 0, .var 1, .int 60]), .ite (.or [.cmp .isN (.var 2) (.non), .cmp .eq (.ix (.call i_law_depth [.call i_law_stone [.var 0, .var 2], .var 1]) (.int 0)) (.int 0)]) [.ret (.var 0)] [], .ret (.comp false (.call i_law_inward [.var 3, .var 1]) [3] [3] .seq [.var 0] none)]
def d_law_seen_from : Def := ⟨"_law_seen_from", true, ["_law_four", "_law_spot_here"], ["_law_four", "_law_spot_here", "_law_call_here", "_law_my_one"], b_law_seen_from, false, false⟩
def b_law_turn : List S := [.set 1 (.lst false [.tup [.tup [.int 3, .int 5], .tup [.int 4, .int 5]], .tup [.tup [.int 0, .int 1], .tup [.int 1, .int 1]], .tup [.tup [.neg (.int 5), .int 13], .tup [.int 12, .int 13]]]), .ret (.call i_law_of [.var 0, .bin .add (.var 1) (.lst false [.tup [.tup [.neg (.int 1), .int 1], .tup [.int 0, .int 1]], .tup [.tup [.int 20, .int 29], .tup [.neg (.int 21), .int 29]]])])]
def d_law_turn : Def := ⟨"_law_turn", true, ["_law_bag_here"], ["_law_bag_here", "_law_some"], b_law_turn, false, false⟩
def b_law_scene : List S := [.set 2 (.call i_law_after [.call i_law_shuffled [.var 0, .call i_law_base []], .call i_law_word [.var 0, .var 1]]), .set 3 (.call i_law_pull [.var 0, .int 7]), .ite (.cmp .lt (.var 3) (.int 2)) [.ret (.call i_law_seen_from [.var 2, .call i_law_spot [.var 0, .int 4, .int 2]])] [], .ite (.cmp .eq (.var 3) (.int 2)) [.set 4 (.call i_law_spot [.var 0, .int 5, .int 3]), .ret (.comp false (.call i_law_moved [.var 5, .var 4]) [5] [5] .seq [.var 2] none)] [], .ite (.cmp .eq (.var 3) (.int 3)) [.set 4 (.call i_law_turn [.var 0]), .ret (.comp false (.call i_law_turned [.var 5, .var 4]) [5] [5] .seq [.var 2] none)] [], .ite (.cmp .eq (.var 3) (.int 4)) [.set 6 (.call i_law_low [.bin .add (.int 1) (.call i_law_pull [.var 0, .int 9]), .bin .add (.int 1) (.call i_law_pull [.var 0, .int 9])]), .ret (.comp false (.call i_law_grown [.var 5, .var 6]) [5] [5] .seq [.var 2] none)] [], .ret (.var 2)]
def d_law_scene : Def := ⟨"_law_scene", true, ["_law_bag_here", "_law_most"], ["_law_bag_here", "_law_most", "_law_four", "_law_fork", "_law_by_here", "_law_my_one", "_law_many"], b_law_scene, false, false⟩
def b_law_free_disc : List S := [.set 1 (.call i_law_low [.bin .sub (.call i_law_pull [.var 0, .int 25]) (.int 12), .bin .add (.int 1) (.call i_law_pull [.var 0, .int 6])]), .ret (.call i_law_made [.call i_law_spot [.var 0, .int 6, .int 3], .ite (.cmp .eq (.ix (.var 1) (.int 0)) (.int 0)) (.tup [.int 1, .int 1]) (.var 1)])]
def d_law_free_disc : Def := ⟨"_law_free_disc", true, ["_law_bag_here"], ["_law_bag_here", "_law_bend"], b_law_free_disc, false, false⟩
def b_law : List S := [.set 1 (.call i_law_bag [.var 0]), .for [2] .range1 [.int 5] [.par [3, 4] [.call i_law_free_disc [.var 1], .call i_law_free_disc [.var 1]], .set 5 (.call i_law_pull [.var 1, .int 4]), .ite (.cmp .lt (.var 5) (.int 2)) [.set 6 (.call i_law_scene [.var 1, .int 4]), .par [3, 4] [.call i_law_of [.var 1, .var 6], .ix (.call i_law_swap [.var 6, .call i_law_pull [.var 1, .int 4]]) (.call i_law_pull [.var 1, .int 4])]] [], .ite (.cmp .eq (.var 5) (.int 2)) [.set 4 (.ite (.cmp .eq (.call i_law_pull [.var 1, .int 2]) (.int 0)) (.bi .tuple (.comp false (.tup [.bin .sub (.int 0) (.ix (.var 7) (.int 0)), .ix (.var 7) (.int 1)]) [7] [7] .seq [.var 3] none)) (.var 3))] [], .set 8 (.call i_law_eye [.var 3, .var 4]), .set 9 (.call i_law_plus [.ix (.var 3) (.int 1), .ix (.var 4) (.int 1)]), .ite (.not (.call i_law_same [.lst false [.call i_look [.var 3, .var 4], .callk h_look_0_other_one [] [.var 3, .var 4]], .lst false [.var 8, .var 8]])) [.ret (.bl false)] [], .ite (.not (.call i_law_same [.lst false [.call i_touch [.var 3, .var 4], .call i_touch [.var 4, .var 3]], .bin .mul (.lst false [.and [.cmp .eq (.var 8) (.tup [.neg (.int 1), .int 1]), .cmp .gt (.ix (.var 9) (.int 0)) (.int 0)]]) (.int 2)])) [.ret (.bl false)] []], .ret (.bl true)]
def d_law : Def := ⟨"law", true, ["_law_script"], ["_law_script", "_law_bag_here", "_law_turn_here", "_law_my_one", "_law_my_other", "_law_fork", "_law_four", "_law_k", "_law_due", "_law_sums"], b_law, false, false⟩
abbrev sel0 : List (Sum Nat Nat) := [.inl 1, .inl 0]
abbrev dd0 : List D := []
abbrev sh0 : G.Shape := ⟨i_look, 0, ["other", "one"], srcOf sel0 dd0⟩
abbrev lam : List Str := []
def P : Prog := ⟨[d_low, d_plus, d_less, d_times, d_sign_of, d_look, d_touch, d_law_bag, d_law_pull, d_law_of, d_law_shuffled, d_law_same, d_law_low, d_law_plus, d_law_minus, d_law_by, d_law_per, d_law_sum, d_law_under, d_law_spot, d_law_word, d_law_call, d_law_base, d_law_swap, d_law_after, d_law_stone, d_law_made, d_law_center, d_law_apart, d_law_depth, d_law_eye, d_law_moved, d_law_grown, d_law_turned, d_law_inward, d_law_top, d_law_descent, d_law_found, d_law_seen_from, d_law_turn, d_law_scene, d_law_free_disc, d_law], [sh0], [("TOUCH", .tup [.int (-1), .int 1])], [], []⟩
theorem g_TOUCH : P.consts[c_TOUCH]? = some (("TOUCH" : Str), (.tup [.int (-1), .int 1] : D)) := rfl
theorem q_look_0_other_one : P.shapes[h_look_0_other_one]? = some sh0 := rfl
theorem p_low : P.defs[i_low]? = some d_low := rfl
theorem p_plus : P.defs[i_plus]? = some d_plus := rfl
theorem p_less : P.defs[i_less]? = some d_less := rfl
theorem p_times : P.defs[i_times]? = some d_times := rfl
theorem p_sign_of : P.defs[i_sign_of]? = some d_sign_of := rfl
theorem p_look : P.defs[i_look]? = some d_look := rfl
theorem p_touch : P.defs[i_touch]? = some d_touch := rfl
theorem p_law_bag : P.defs[i_law_bag]? = some d_law_bag := rfl
theorem p_law_pull : P.defs[i_law_pull]? = some d_law_pull := rfl
theorem p_law_of : P.defs[i_law_of]? = some d_law_of := rfl
theorem p_law_shuffled : P.defs[i_law_shuffled]? = some d_law_shuffled := rfl
theorem p_law_same : P.defs[i_law_same]? = some d_law_same := rfl
theorem p_law_low : P.defs[i_law_low]? = some d_law_low := rfl
theorem p_law_plus : P.defs[i_law_plus]? = some d_law_plus := rfl
theorem p_law_minus : P.defs[i_law_minus]? = some d_law_minus := rfl
theorem p_law_by : P.defs[i_law_by]? = some d_law_by := rfl
theorem p_law_per : P.defs[i_law_per]? = some d_law_per := rfl
theorem p_law_sum : P.defs[i_law_sum]? = some d_law_sum := rfl
theorem p_law_under : P.defs[i_law_under]? = some d_law_under := rfl
theorem p_law_spot : P.defs[i_law_spot]? = some d_law_spot := rfl
theorem p_law_word : P.defs[i_law_word]? = some d_law_word := rfl
theorem p_law_call : P.defs[i_law_call]? = some d_law_call := rfl
theorem p_law_base : P.defs[i_law_base]? = some d_law_base := rfl
theorem p_law_swap : P.defs[i_law_swap]? = some d_law_swap := rfl
theorem p_law_after : P.defs[i_law_after]? = some d_law_after := rfl
theorem p_law_stone : P.defs[i_law_stone]? = some d_law_stone := rfl
theorem p_law_made : P.defs[i_law_made]? = some d_law_made := rfl
theorem p_law_center : P.defs[i_law_center]? = some d_law_center := rfl
theorem p_law_apart : P.defs[i_law_apart]? = some d_law_apart := rfl
theorem p_law_depth : P.defs[i_law_depth]? = some d_law_depth := rfl
theorem p_law_eye : P.defs[i_law_eye]? = some d_law_eye := rfl
theorem p_law_moved : P.defs[i_law_moved]? = some d_law_moved := rfl
theorem p_law_grown : P.defs[i_law_grown]? = some d_law_grown := rfl
theorem p_law_turned : P.defs[i_law_turned]? = some d_law_turned := rfl
theorem p_law_inward : P.defs[i_law_inward]? = some d_law_inward := rfl
theorem p_law_top : P.defs[i_law_top]? = some d_law_top := rfl
theorem p_law_descent : P.defs[i_law_descent]? = some d_law_descent := rfl
theorem p_law_found : P.defs[i_law_found]? = some d_law_found := rfl
theorem p_law_seen_from : P.defs[i_law_seen_from]? = some d_law_seen_from := rfl
theorem p_law_turn : P.defs[i_law_turn]? = some d_law_turn := rfl
theorem p_law_scene : P.defs[i_law_scene]? = some d_law_scene := rfl
theorem p_law_free_disc : P.defs[i_law_free_disc]? = some d_law_free_disc := rfl
theorem p_law : P.defs[i_law]? = some d_law := rfl
/-! ### the text -/
def top (i : Nat) : Stmt := PySem.Challenge.pw_gapstone_k08_whole_looks_and_touchings.main.body.getD i (.Pass ⟨0, 0, 0, 0⟩)
abbrev s_low : Stmt := top 1
theorem ck_low : ckDef P d_low s_low = true := by decide +kernel
abbrev s_plus : Stmt := top 2
theorem ck_plus : ckDef P d_plus s_plus = true := by decide +kernel
abbrev s_less : Stmt := top 3
theorem ck_less : ckDef P d_less s_less = true := by decide +kernel
abbrev s_times : Stmt := top 4
theorem ck_times : ckDef P d_times s_times = true := by decide +kernel
abbrev s_sign_of : Stmt := top 5
theorem ck_sign_of : ckDef P d_sign_of s_sign_of = true := by decide +kernel
abbrev s_look : Stmt := top 8
theorem ck_look : ckDef P d_look s_look = true := by decide +kernel
abbrev s_touch : Stmt := top 9
theorem ck_touch : ckDef P d_touch s_touch = true := by decide +kernel
abbrev s_law_bag : Stmt := top 11
theorem ck_law_bag : ckDef P d_law_bag s_law_bag = true := by decide +kernel
abbrev s_law_pull : Stmt := top 12
theorem ck_law_pull : ckDef P d_law_pull s_law_pull = true := by decide +kernel
abbrev s_law_of : Stmt := top 13
theorem ck_law_of : ckDef P d_law_of s_law_of = true := by decide +kernel
abbrev s_law_shuffled : Stmt := top 14
theorem ck_law_shuffled : ckDef P d_law_shuffled s_law_shuffled = true := by decide +kernel
abbrev s_law_same : Stmt := top 15
theorem ck_law_same : ckDef P d_law_same s_law_same = true := by decide +kernel
abbrev s_law_low : Stmt := top 16
theorem ck_law_low : ckDef P d_law_low s_law_low = true := by decide +kernel
abbrev s_law_plus : Stmt := top 17
theorem ck_law_plus : ckDef P d_law_plus s_law_plus = true := by decide +kernel
abbrev s_law_minus : Stmt := top 18
theorem ck_law_minus : ckDef P d_law_minus s_law_minus = true := by decide +kernel
abbrev s_law_by : Stmt := top 19
theorem ck_law_by : ckDef P d_law_by s_law_by = true := by decide +kernel
abbrev s_law_per : Stmt := top 20
theorem ck_law_per : ckDef P d_law_per s_law_per = true := by decide +kernel
abbrev s_law_sum : Stmt := top 21
theorem ck_law_sum : ckDef P d_law_sum s_law_sum = true := by decide +kernel
abbrev s_law_under : Stmt := top 22
theorem ck_law_under : ckDef P d_law_under s_law_under = true := by decide +kernel
abbrev s_law_spot : Stmt := top 23
theorem ck_law_spot : ckDef P d_law_spot s_law_spot = true := by decide +kernel
abbrev s_law_word : Stmt := top 24
theorem ck_law_word : ckDef P d_law_word s_law_word = true := by decide +kernel
abbrev s_law_call : Stmt := top 25
theorem ck_law_call : ckDef P d_law_call s_law_call = true := by decide +kernel
abbrev s_law_base : Stmt := top 26
theorem ck_law_base : ckDef P d_law_base s_law_base = true := by decide +kernel
abbrev s_law_swap : Stmt := top 27
theorem ck_law_swap : ckDef P d_law_swap s_law_swap = true := by decide +kernel
abbrev s_law_after : Stmt := top 28
theorem ck_law_after : ckDef P d_law_after s_law_after = true := by decide +kernel
abbrev s_law_stone : Stmt := top 29
theorem ck_law_stone : ckDef P d_law_stone s_law_stone = true := by decide +kernel
abbrev s_law_made : Stmt := top 30
theorem ck_law_made : ckDef P d_law_made s_law_made = true := by decide +kernel
abbrev s_law_center : Stmt := top 31
theorem ck_law_center : ckDef P d_law_center s_law_center = true := by decide +kernel
abbrev s_law_apart : Stmt := top 32
theorem ck_law_apart : ckDef P d_law_apart s_law_apart = true := by decide +kernel
abbrev s_law_depth : Stmt := top 33
theorem ck_law_depth : ckDef P d_law_depth s_law_depth = true := by decide +kernel
abbrev s_law_eye : Stmt := top 34
theorem ck_law_eye : ckDef P d_law_eye s_law_eye = true := by decide +kernel
abbrev s_law_moved : Stmt := top 35
theorem ck_law_moved : ckDef P d_law_moved s_law_moved = true := by decide +kernel
abbrev s_law_grown : Stmt := top 36
theorem ck_law_grown : ckDef P d_law_grown s_law_grown = true := by decide +kernel
abbrev s_law_turned : Stmt := top 37
theorem ck_law_turned : ckDef P d_law_turned s_law_turned = true := by decide +kernel
abbrev s_law_inward : Stmt := top 38
theorem ck_law_inward : ckDef P d_law_inward s_law_inward = true := by decide +kernel
abbrev s_law_top : Stmt := top 39
theorem ck_law_top : ckDef P d_law_top s_law_top = true := by decide +kernel
abbrev s_law_descent : Stmt := top 40
theorem ck_law_descent : ckDef P d_law_descent s_law_descent = true := by decide +kernel
abbrev s_law_found : Stmt := top 41
theorem ck_law_found : ckDef P d_law_found s_law_found = true := by decide +kernel
abbrev s_law_seen_from : Stmt := top 42
theorem ck_law_seen_from : ckDef P d_law_seen_from s_law_seen_from = true := by decide +kernel
abbrev s_law_turn : Stmt := top 43
theorem ck_law_turn : ckDef P d_law_turn s_law_turn = true := by decide +kernel
abbrev s_law_scene : Stmt := top 44
theorem ck_law_scene : ckDef P d_law_scene s_law_scene = true := by decide +kernel
abbrev s_law_free_disc : Stmt := top 45
theorem ck_law_free_disc : ckDef P d_law_free_disc s_law_free_disc = true := by decide +kernel
abbrev s_law : Stmt := top 46
theorem ck_law : ckDef P d_law s_law = true := by decide +kernel
def fn : List He.DefD := [ddOf "low" s_low [] [], ddOf "plus" s_plus [] [], ddOf "less" s_less [] [], ddOf "times" s_times [] [], ddOf "sign_of" s_sign_of [] [], ddOf "look" s_look [] [], ddOf "touch" s_touch [] [], ddOf "_law_bag" s_law_bag [] [], ddOf "_law_pull" s_law_pull [] [], ddOf "_law_of" s_law_of [] [], ddOf "_law_shuffled" s_law_shuffled [] [], ddOf "_law_same" s_law_same [] [], ddOf "_law_low" s_law_low [] [], ddOf "_law_plus" s_law_plus [] [], ddOf "_law_minus" s_law_minus [] [], ddOf "_law_by" s_law_by [] [], ddOf "_law_per" s_law_per [] [], ddOf "_law_sum" s_law_sum [] [], ddOf "_law_under" s_law_under [] [], ddOf "_law_spot" s_law_spot [] [], ddOf "_law_word" s_law_word [] [], ddOf "_law_call" s_law_call [] [], ddOf "_law_base" s_law_base [] [], ddOf "_law_swap" s_law_swap [] [], ddOf "_law_after" s_law_after [] [], ddOf "_law_stone" s_law_stone [] [], ddOf "_law_made" s_law_made [] [], ddOf "_law_center" s_law_center [] [], ddOf "_law_apart" s_law_apart [] [], ddOf "_law_depth" s_law_depth [] [], ddOf "_law_eye" s_law_eye [] [], ddOf "_law_moved" s_law_moved [] [], ddOf "_law_grown" s_law_grown [] [], ddOf "_law_turned" s_law_turned [] [], ddOf "_law_inward" s_law_inward [] [], ddOf "_law_top" s_law_top [] [], ddOf "_law_descent" s_law_descent [] [], ddOf "_law_found" s_law_found [] [], ddOf "_law_seen_from" s_law_seen_from [] [], ddOf "_law_turn" s_law_turn [] [], ddOf "_law_scene" s_law_scene [] [], ddOf "_law_free_disc" s_law_free_disc [] [], ddOf "law" s_law [] []]
abbrev dvl : List (He.Dv × D) := []
abbrev ex : PySem.W.Frag → Bool := exG P dvl lam
abbrev Ga (K : PySem.W.Frag) : Gm := ⟨K, fun _ => none, fun _ => none, fun c => (P.xcls[c]?).map fun x => (He.ga K (tS x.name), x.all), tOf K lam⟩
/-! ### calls with keywords -/
section
variable {K : PySem.W.Frag} {fd : FuncData}
theorem kw0 (c : SaysG (faOf P) fn ex (Ga K).K) (F : FunD (Ga K).K "look" "look" (defArgs s_look) (defBody s_look) (defScope s_look) (([] : List He.Dv).map (He.Dv.v (Ga K).K)) (([] : List (Str × He.Dv)).map fun q => (q.1, q.2.v (Ga K).K)) (He.ga (Ga K).K "look") fd) : ShOk (Ga K) (Ga K).K fd d_look.ps sh0 := by
  refine shOkN F sel0 rfl rfl fun kV doc pm an cdv ct us ws l1 l2 => ?_
  exact match us, ws, l1, l2 with | [], [w0, w1], _, _ => rfl
end
/-! ### the facts -/
theorem nosh_low : ∀ sh ∈ P.shapes, sh.f ≠ i_low := by
  intro sh h
  simp only [P, List.mem_cons, List.not_mem_nil, or_false] at h
  rcases h with rfl <;> decide
theorem nosh_plus : ∀ sh ∈ P.shapes, sh.f ≠ i_plus := by
  intro sh h
  simp only [P, List.mem_cons, List.not_mem_nil, or_false] at h
  rcases h with rfl <;> decide
theorem nosh_less : ∀ sh ∈ P.shapes, sh.f ≠ i_less := by
  intro sh h
  simp only [P, List.mem_cons, List.not_mem_nil, or_false] at h
  rcases h with rfl <;> decide
theorem nosh_times : ∀ sh ∈ P.shapes, sh.f ≠ i_times := by
  intro sh h
  simp only [P, List.mem_cons, List.not_mem_nil, or_false] at h
  rcases h with rfl <;> decide
theorem nosh_sign_of : ∀ sh ∈ P.shapes, sh.f ≠ i_sign_of := by
  intro sh h
  simp only [P, List.mem_cons, List.not_mem_nil, or_false] at h
  rcases h with rfl <;> decide
theorem nosh_touch : ∀ sh ∈ P.shapes, sh.f ≠ i_touch := by
  intro sh h
  simp only [P, List.mem_cons, List.not_mem_nil, or_false] at h
  rcases h with rfl <;> decide
theorem nosh_law_bag : ∀ sh ∈ P.shapes, sh.f ≠ i_law_bag := by
  intro sh h
  simp only [P, List.mem_cons, List.not_mem_nil, or_false] at h
  rcases h with rfl <;> decide
theorem nosh_law_pull : ∀ sh ∈ P.shapes, sh.f ≠ i_law_pull := by
  intro sh h
  simp only [P, List.mem_cons, List.not_mem_nil, or_false] at h
  rcases h with rfl <;> decide
theorem nosh_law_of : ∀ sh ∈ P.shapes, sh.f ≠ i_law_of := by
  intro sh h
  simp only [P, List.mem_cons, List.not_mem_nil, or_false] at h
  rcases h with rfl <;> decide
theorem nosh_law_shuffled : ∀ sh ∈ P.shapes, sh.f ≠ i_law_shuffled := by
  intro sh h
  simp only [P, List.mem_cons, List.not_mem_nil, or_false] at h
  rcases h with rfl <;> decide
theorem nosh_law_same : ∀ sh ∈ P.shapes, sh.f ≠ i_law_same := by
  intro sh h
  simp only [P, List.mem_cons, List.not_mem_nil, or_false] at h
  rcases h with rfl <;> decide
theorem nosh_law_low : ∀ sh ∈ P.shapes, sh.f ≠ i_law_low := by
  intro sh h
  simp only [P, List.mem_cons, List.not_mem_nil, or_false] at h
  rcases h with rfl <;> decide
theorem nosh_law_plus : ∀ sh ∈ P.shapes, sh.f ≠ i_law_plus := by
  intro sh h
  simp only [P, List.mem_cons, List.not_mem_nil, or_false] at h
  rcases h with rfl <;> decide
theorem nosh_law_minus : ∀ sh ∈ P.shapes, sh.f ≠ i_law_minus := by
  intro sh h
  simp only [P, List.mem_cons, List.not_mem_nil, or_false] at h
  rcases h with rfl <;> decide
theorem nosh_law_by : ∀ sh ∈ P.shapes, sh.f ≠ i_law_by := by
  intro sh h
  simp only [P, List.mem_cons, List.not_mem_nil, or_false] at h
  rcases h with rfl <;> decide
theorem nosh_law_per : ∀ sh ∈ P.shapes, sh.f ≠ i_law_per := by
  intro sh h
  simp only [P, List.mem_cons, List.not_mem_nil, or_false] at h
  rcases h with rfl <;> decide
theorem nosh_law_sum : ∀ sh ∈ P.shapes, sh.f ≠ i_law_sum := by
  intro sh h
  simp only [P, List.mem_cons, List.not_mem_nil, or_false] at h
  rcases h with rfl <;> decide
theorem nosh_law_under : ∀ sh ∈ P.shapes, sh.f ≠ i_law_under := by
  intro sh h
  simp only [P, List.mem_cons, List.not_mem_nil, or_false] at h
  rcases h with rfl <;> decide
theorem nosh_law_spot : ∀ sh ∈ P.shapes, sh.f ≠ i_law_spot := by
  intro sh h
  simp only [P, List.mem_cons, List.not_mem_nil, or_false] at h
  rcases h with rfl <;> decide
theorem nosh_law_word : ∀ sh ∈ P.shapes, sh.f ≠ i_law_word := by
  intro sh h
  simp only [P, List.mem_cons, List.not_mem_nil, or_false] at h
  rcases h with rfl <;> decide
theorem nosh_law_call : ∀ sh ∈ P.shapes, sh.f ≠ i_law_call := by
  intro sh h
  simp only [P, List.mem_cons, List.not_mem_nil, or_false] at h
  rcases h with rfl <;> decide
theorem nosh_law_base : ∀ sh ∈ P.shapes, sh.f ≠ i_law_base := by
  intro sh h
  simp only [P, List.mem_cons, List.not_mem_nil, or_false] at h
  rcases h with rfl <;> decide
theorem nosh_law_swap : ∀ sh ∈ P.shapes, sh.f ≠ i_law_swap := by
  intro sh h
  simp only [P, List.mem_cons, List.not_mem_nil, or_false] at h
  rcases h with rfl <;> decide
theorem nosh_law_after : ∀ sh ∈ P.shapes, sh.f ≠ i_law_after := by
  intro sh h
  simp only [P, List.mem_cons, List.not_mem_nil, or_false] at h
  rcases h with rfl <;> decide
theorem nosh_law_stone : ∀ sh ∈ P.shapes, sh.f ≠ i_law_stone := by
  intro sh h
  simp only [P, List.mem_cons, List.not_mem_nil, or_false] at h
  rcases h with rfl <;> decide
theorem nosh_law_made : ∀ sh ∈ P.shapes, sh.f ≠ i_law_made := by
  intro sh h
  simp only [P, List.mem_cons, List.not_mem_nil, or_false] at h
  rcases h with rfl <;> decide
theorem nosh_law_center : ∀ sh ∈ P.shapes, sh.f ≠ i_law_center := by
  intro sh h
  simp only [P, List.mem_cons, List.not_mem_nil, or_false] at h
  rcases h with rfl <;> decide
theorem nosh_law_apart : ∀ sh ∈ P.shapes, sh.f ≠ i_law_apart := by
  intro sh h
  simp only [P, List.mem_cons, List.not_mem_nil, or_false] at h
  rcases h with rfl <;> decide
theorem nosh_law_depth : ∀ sh ∈ P.shapes, sh.f ≠ i_law_depth := by
  intro sh h
  simp only [P, List.mem_cons, List.not_mem_nil, or_false] at h
  rcases h with rfl <;> decide
theorem nosh_law_eye : ∀ sh ∈ P.shapes, sh.f ≠ i_law_eye := by
  intro sh h
  simp only [P, List.mem_cons, List.not_mem_nil, or_false] at h
  rcases h with rfl <;> decide
theorem nosh_law_moved : ∀ sh ∈ P.shapes, sh.f ≠ i_law_moved := by
  intro sh h
  simp only [P, List.mem_cons, List.not_mem_nil, or_false] at h
  rcases h with rfl <;> decide
theorem nosh_law_grown : ∀ sh ∈ P.shapes, sh.f ≠ i_law_grown := by
  intro sh h
  simp only [P, List.mem_cons, List.not_mem_nil, or_false] at h
  rcases h with rfl <;> decide
theorem nosh_law_turned : ∀ sh ∈ P.shapes, sh.f ≠ i_law_turned := by
  intro sh h
  simp only [P, List.mem_cons, List.not_mem_nil, or_false] at h
  rcases h with rfl <;> decide
theorem nosh_law_inward : ∀ sh ∈ P.shapes, sh.f ≠ i_law_inward := by
  intro sh h
  simp only [P, List.mem_cons, List.not_mem_nil, or_false] at h
  rcases h with rfl <;> decide
theorem nosh_law_top : ∀ sh ∈ P.shapes, sh.f ≠ i_law_top := by
  intro sh h
  simp only [P, List.mem_cons, List.not_mem_nil, or_false] at h
  rcases h with rfl <;> decide
theorem nosh_law_descent : ∀ sh ∈ P.shapes, sh.f ≠ i_law_descent := by
  intro sh h
  simp only [P, List.mem_cons, List.not_mem_nil, or_false] at h
  rcases h with rfl <;> decide
theorem nosh_law_found : ∀ sh ∈ P.shapes, sh.f ≠ i_law_found := by
  intro sh h
  simp only [P, List.mem_cons, List.not_mem_nil, or_false] at h
  rcases h with rfl <;> decide
theorem nosh_law_seen_from : ∀ sh ∈ P.shapes, sh.f ≠ i_law_seen_from := by
  intro sh h
  simp only [P, List.mem_cons, List.not_mem_nil, or_false] at h
  rcases h with rfl <;> decide
theorem nosh_law_turn : ∀ sh ∈ P.shapes, sh.f ≠ i_law_turn := by
  intro sh h
  simp only [P, List.mem_cons, List.not_mem_nil, or_false] at h
  rcases h with rfl <;> decide
theorem nosh_law_scene : ∀ sh ∈ P.shapes, sh.f ≠ i_law_scene := by
  intro sh h
  simp only [P, List.mem_cons, List.not_mem_nil, or_false] at h
  rcases h with rfl <;> decide
theorem nosh_law_free_disc : ∀ sh ∈ P.shapes, sh.f ≠ i_law_free_disc := by
  intro sh h
  simp only [P, List.mem_cons, List.not_mem_nil, or_false] at h
  rcases h with rfl <;> decide
theorem nosh_law : ∀ sh ∈ P.shapes, sh.f ≠ i_law := by
  intro sh h
  simp only [P, List.mem_cons, List.not_mem_nil, or_false] at h
  rcases h with rfl <;> decide
theorem facts {w : World} {K : PySem.W.Frag} {mg : Str → Option Value} {base h : Heap} (X : (Ga K).K.In h) (N : h.Ns mainGlobals mg) (c : SaysG (faOf P) fn ex (Ga K).K) (tg : TabsG lam (Ga K).K h) (hT : ∀ p ∈ csOf (Ga K).K lam, LamX.TabB base mg p.1 p.2) : Top PySem.Challenge.pw_gapstone_k08_whole_looks_and_touchings w (Ga K) mg base P := by
  have E := exG_parts c.2
  have mV : mg "ValueError" = none := He.free_ok X N (c.1.facts (List.mem_append_right _ (List.mem_map_of_mem (f := He.Fa.free) (by decide +kernel : ("ValueError" : Str) ∈ bnames))))
  refine topOf (cs := csOf (Ga K).K lam) X N c ?_ ?_ ?_ hT
  rotate_left
  · intro c x hx
    cases hx
  · intro j td h
    cases h
  refine .cons (defOk X N c 0 (x := "low") (st := s_low) (dfl := []) (kwd := []) p_low rfl rfl ck_low (fun {fd} F => ⟨(fun _ => FunD.bindsN F fun _ _ _ _ _ _ us hl => match us, hl with | [_, _], _ => rfl), (fun sh hs e => absurd e (nosh_low sh hs))⟩) (fun {fd} F e => by cases e)) ?_
  refine .cons (defOk X N c 1 (x := "plus") (st := s_plus) (dfl := []) (kwd := []) p_plus rfl rfl ck_plus (fun {fd} F => ⟨(fun _ => FunD.bindsN F fun _ _ _ _ _ _ us hl => match us, hl with | [_, _], _ => rfl), (fun sh hs e => absurd e (nosh_plus sh hs))⟩) (fun {fd} F e => by cases e)) ?_
  refine .cons (defOk X N c 2 (x := "less") (st := s_less) (dfl := []) (kwd := []) p_less rfl rfl ck_less (fun {fd} F => ⟨(fun _ => FunD.bindsN F fun _ _ _ _ _ _ us hl => match us, hl with | [_, _], _ => rfl), (fun sh hs e => absurd e (nosh_less sh hs))⟩) (fun {fd} F e => by cases e)) ?_
  refine .cons (defOk X N c 3 (x := "times") (st := s_times) (dfl := []) (kwd := []) p_times rfl rfl ck_times (fun {fd} F => ⟨(fun _ => FunD.bindsN F fun _ _ _ _ _ _ us hl => match us, hl with | [_, _], _ => rfl), (fun sh hs e => absurd e (nosh_times sh hs))⟩) (fun {fd} F e => by cases e)) ?_
  refine .cons (defOk X N c 4 (x := "sign_of") (st := s_sign_of) (dfl := []) (kwd := []) p_sign_of rfl rfl ck_sign_of (fun {fd} F => ⟨(fun _ => FunD.bindsN F fun _ _ _ _ _ _ us hl => match us, hl with | [_], _ => rfl), (fun sh hs e => absurd e (nosh_sign_of sh hs))⟩) (fun {fd} F e => by cases e)) ?_
  refine .cons (defOk X N c 5 (x := "look") (st := s_look) (dfl := []) (kwd := []) p_look rfl rfl ck_look (fun {fd} F => ⟨(fun _ => FunD.bindsN F fun _ _ _ _ _ _ us hl => match us, hl with | [_, _], _ => rfl), (fun sh hs e => by
    simp only [P, List.mem_cons, List.not_mem_nil, or_false] at hs
    rcases hs with rfl <;> first | (exact absurd e (by decide)) | exact kw0 c F)⟩) (fun {fd} F e => by cases e)) ?_
  refine .cons (defOk X N c 6 (x := "touch") (st := s_touch) (dfl := []) (kwd := []) p_touch rfl rfl ck_touch (fun {fd} F => ⟨(fun _ => FunD.bindsN F fun _ _ _ _ _ _ us hl => match us, hl with | [_, _], _ => rfl), (fun sh hs e => absurd e (nosh_touch sh hs))⟩) (fun {fd} F e => by cases e)) ?_
  refine .cons (defOk X N c 7 (x := "_law_bag") (st := s_law_bag) (dfl := []) (kwd := []) p_law_bag rfl rfl ck_law_bag (fun {fd} F => ⟨(fun _ => FunD.bindsN F fun _ _ _ _ _ _ us hl => match us, hl with | [_], _ => rfl), (fun sh hs e => absurd e (nosh_law_bag sh hs))⟩) (fun {fd} F e => by cases e)) ?_
  refine .cons (defOk X N c 8 (x := "_law_pull") (st := s_law_pull) (dfl := []) (kwd := []) p_law_pull rfl rfl ck_law_pull (fun {fd} F => ⟨(fun _ => FunD.bindsN F fun _ _ _ _ _ _ us hl => match us, hl with | [_, _], _ => rfl), (fun sh hs e => absurd e (nosh_law_pull sh hs))⟩) (fun {fd} F e => by cases e)) ?_
  refine .cons (defOk X N c 9 (x := "_law_of") (st := s_law_of) (dfl := []) (kwd := []) p_law_of rfl rfl ck_law_of (fun {fd} F => ⟨(fun _ => FunD.bindsN F fun _ _ _ _ _ _ us hl => match us, hl with | [_, _], _ => rfl), (fun sh hs e => absurd e (nosh_law_of sh hs))⟩) (fun {fd} F e => by cases e)) ?_
  refine .cons (defOk X N c 10 (x := "_law_shuffled") (st := s_law_shuffled) (dfl := []) (kwd := []) p_law_shuffled rfl rfl ck_law_shuffled (fun {fd} F => ⟨(fun _ => FunD.bindsN F fun _ _ _ _ _ _ us hl => match us, hl with | [_, _], _ => rfl), (fun sh hs e => absurd e (nosh_law_shuffled sh hs))⟩) (fun {fd} F e => by cases e)) ?_
  refine .cons (defOk X N c 11 (x := "_law_same") (st := s_law_same) (dfl := []) (kwd := []) p_law_same rfl rfl ck_law_same (fun {fd} F => ⟨(fun _ => FunD.bindsN F fun _ _ _ _ _ _ us hl => match us, hl with | [_, _], _ => rfl), (fun sh hs e => absurd e (nosh_law_same sh hs))⟩) (fun {fd} F e => by cases e)) ?_
  refine .cons (defOk X N c 12 (x := "_law_low") (st := s_law_low) (dfl := []) (kwd := []) p_law_low rfl rfl ck_law_low (fun {fd} F => ⟨(fun _ => FunD.bindsN F fun _ _ _ _ _ _ us hl => match us, hl with | [_, _], _ => rfl), (fun sh hs e => absurd e (nosh_law_low sh hs))⟩) (fun {fd} F e => by cases e)) ?_
  refine .cons (defOk X N c 13 (x := "_law_plus") (st := s_law_plus) (dfl := []) (kwd := []) p_law_plus rfl rfl ck_law_plus (fun {fd} F => ⟨(fun _ => FunD.bindsN F fun _ _ _ _ _ _ us hl => match us, hl with | [_, _], _ => rfl), (fun sh hs e => absurd e (nosh_law_plus sh hs))⟩) (fun {fd} F e => by cases e)) ?_
  refine .cons (defOk X N c 14 (x := "_law_minus") (st := s_law_minus) (dfl := []) (kwd := []) p_law_minus rfl rfl ck_law_minus (fun {fd} F => ⟨(fun _ => FunD.bindsN F fun _ _ _ _ _ _ us hl => match us, hl with | [_, _], _ => rfl), (fun sh hs e => absurd e (nosh_law_minus sh hs))⟩) (fun {fd} F e => by cases e)) ?_
  refine .cons (defOk X N c 15 (x := "_law_by") (st := s_law_by) (dfl := []) (kwd := []) p_law_by rfl rfl ck_law_by (fun {fd} F => ⟨(fun _ => FunD.bindsN F fun _ _ _ _ _ _ us hl => match us, hl with | [_, _], _ => rfl), (fun sh hs e => absurd e (nosh_law_by sh hs))⟩) (fun {fd} F e => by cases e)) ?_
  refine .cons (defOk X N c 16 (x := "_law_per") (st := s_law_per) (dfl := []) (kwd := []) p_law_per rfl rfl ck_law_per (fun {fd} F => ⟨(fun _ => FunD.bindsN F fun _ _ _ _ _ _ us hl => match us, hl with | [_, _], _ => rfl), (fun sh hs e => absurd e (nosh_law_per sh hs))⟩) (fun {fd} F e => by cases e)) ?_
  refine .cons (defOk X N c 17 (x := "_law_sum") (st := s_law_sum) (dfl := []) (kwd := []) p_law_sum rfl rfl ck_law_sum (fun {fd} F => ⟨(fun _ => FunD.bindsN F fun _ _ _ _ _ _ us hl => match us, hl with | [_], _ => rfl), (fun sh hs e => absurd e (nosh_law_sum sh hs))⟩) (fun {fd} F e => by cases e)) ?_
  refine .cons (defOk X N c 18 (x := "_law_under") (st := s_law_under) (dfl := []) (kwd := []) p_law_under rfl rfl ck_law_under (fun {fd} F => ⟨(fun _ => FunD.bindsN F fun _ _ _ _ _ _ us hl => match us, hl with | [_, _], _ => rfl), (fun sh hs e => absurd e (nosh_law_under sh hs))⟩) (fun {fd} F e => by cases e)) ?_
  refine .cons (defOk X N c 19 (x := "_law_spot") (st := s_law_spot) (dfl := []) (kwd := []) p_law_spot rfl rfl ck_law_spot (fun {fd} F => ⟨(fun _ => FunD.bindsN F fun _ _ _ _ _ _ us hl => match us, hl with | [_, _, _], _ => rfl), (fun sh hs e => absurd e (nosh_law_spot sh hs))⟩) (fun {fd} F e => by cases e)) ?_
  refine .cons (defOk X N c 20 (x := "_law_word") (st := s_law_word) (dfl := []) (kwd := []) p_law_word rfl rfl ck_law_word (fun {fd} F => ⟨(fun _ => FunD.bindsN F fun _ _ _ _ _ _ us hl => match us, hl with | [_, _], _ => rfl), (fun sh hs e => absurd e (nosh_law_word sh hs))⟩) (fun {fd} F e => by cases e)) ?_
  refine .cons (defOk X N c 21 (x := "_law_call") (st := s_law_call) (dfl := []) (kwd := []) p_law_call rfl rfl ck_law_call (fun {fd} F => ⟨(fun _ => FunD.bindsN F fun _ _ _ _ _ _ us hl => match us, hl with | [_, _], _ => rfl), (fun sh hs e => absurd e (nosh_law_call sh hs))⟩) (fun {fd} F e => by cases e)) ?_
  refine .cons (defOk X N c 22 (x := "_law_base") (st := s_law_base) (dfl := []) (kwd := []) p_law_base rfl rfl ck_law_base (fun {fd} F => ⟨(fun _ => FunD.bindsN F fun _ _ _ _ _ _ us hl => match us, hl with | [], _ => rfl), (fun sh hs e => absurd e (nosh_law_base sh hs))⟩) (fun {fd} F e => by cases e)) ?_
  refine .cons (defOk X N c 23 (x := "_law_swap") (st := s_law_swap) (dfl := []) (kwd := []) p_law_swap rfl rfl ck_law_swap (fun {fd} F => ⟨(fun _ => FunD.bindsN F fun _ _ _ _ _ _ us hl => match us, hl with | [_, _], _ => rfl), (fun sh hs e => absurd e (nosh_law_swap sh hs))⟩) (fun {fd} F e => by cases e)) ?_
  refine .cons (defOk X N c 24 (x := "_law_after") (st := s_law_after) (dfl := []) (kwd := []) p_law_after rfl rfl ck_law_after (fun {fd} F => ⟨(fun _ => FunD.bindsN F fun _ _ _ _ _ _ us hl => match us, hl with | [_, _], _ => rfl), (fun sh hs e => absurd e (nosh_law_after sh hs))⟩) (fun {fd} F e => by cases e)) ?_
  refine .cons (defOk X N c 25 (x := "_law_stone") (st := s_law_stone) (dfl := []) (kwd := []) p_law_stone rfl rfl ck_law_stone (fun {fd} F => ⟨(fun _ => FunD.bindsN F fun _ _ _ _ _ _ us hl => match us, hl with | [_, _], _ => rfl), (fun sh hs e => absurd e (nosh_law_stone sh hs))⟩) (fun {fd} F e => by cases e)) ?_
  refine .cons (defOk X N c 26 (x := "_law_made") (st := s_law_made) (dfl := []) (kwd := []) p_law_made rfl rfl ck_law_made (fun {fd} F => ⟨(fun _ => FunD.bindsN F fun _ _ _ _ _ _ us hl => match us, hl with | [_, _], _ => rfl), (fun sh hs e => absurd e (nosh_law_made sh hs))⟩) (fun {fd} F e => by cases e)) ?_
  refine .cons (defOk X N c 27 (x := "_law_center") (st := s_law_center) (dfl := []) (kwd := []) p_law_center rfl rfl ck_law_center (fun {fd} F => ⟨(fun _ => FunD.bindsN F fun _ _ _ _ _ _ us hl => match us, hl with | [_], _ => rfl), (fun sh hs e => absurd e (nosh_law_center sh hs))⟩) (fun {fd} F e => by cases e)) ?_
  refine .cons (defOk X N c 28 (x := "_law_apart") (st := s_law_apart) (dfl := []) (kwd := []) p_law_apart rfl rfl ck_law_apart (fun {fd} F => ⟨(fun _ => FunD.bindsN F fun _ _ _ _ _ _ us hl => match us, hl with | [_, _], _ => rfl), (fun sh hs e => absurd e (nosh_law_apart sh hs))⟩) (fun {fd} F e => by cases e)) ?_
  refine .cons (defOk X N c 29 (x := "_law_depth") (st := s_law_depth) (dfl := []) (kwd := []) p_law_depth rfl rfl ck_law_depth (fun {fd} F => ⟨(fun _ => FunD.bindsN F fun _ _ _ _ _ _ us hl => match us, hl with | [_, _], _ => rfl), (fun sh hs e => absurd e (nosh_law_depth sh hs))⟩) (fun {fd} F e => by cases e)) ?_
  refine .cons (defOk X N c 30 (x := "_law_eye") (st := s_law_eye) (dfl := []) (kwd := []) p_law_eye rfl rfl ck_law_eye (fun {fd} F => ⟨(fun _ => FunD.bindsN F fun _ _ _ _ _ _ us hl => match us, hl with | [_, _], _ => rfl), (fun sh hs e => absurd e (nosh_law_eye sh hs))⟩) (fun {fd} F e => by cases e)) ?_
  refine .cons (defOk X N c 31 (x := "_law_moved") (st := s_law_moved) (dfl := []) (kwd := []) p_law_moved rfl rfl ck_law_moved (fun {fd} F => ⟨(fun _ => FunD.bindsN F fun _ _ _ _ _ _ us hl => match us, hl with | [_, _], _ => rfl), (fun sh hs e => absurd e (nosh_law_moved sh hs))⟩) (fun {fd} F e => by cases e)) ?_
  refine .cons (defOk X N c 32 (x := "_law_grown") (st := s_law_grown) (dfl := []) (kwd := []) p_law_grown rfl rfl ck_law_grown (fun {fd} F => ⟨(fun _ => FunD.bindsN F fun _ _ _ _ _ _ us hl => match us, hl with | [_, _], _ => rfl), (fun sh hs e => absurd e (nosh_law_grown sh hs))⟩) (fun {fd} F e => by cases e)) ?_
  refine .cons (defOk X N c 33 (x := "_law_turned") (st := s_law_turned) (dfl := []) (kwd := []) p_law_turned rfl rfl ck_law_turned (fun {fd} F => ⟨(fun _ => FunD.bindsN F fun _ _ _ _ _ _ us hl => match us, hl with | [_, _], _ => rfl), (fun sh hs e => absurd e (nosh_law_turned sh hs))⟩) (fun {fd} F e => by cases e)) ?_
  refine .cons (defOk X N c 34 (x := "_law_inward") (st := s_law_inward) (dfl := []) (kwd := []) p_law_inward rfl rfl ck_law_inward (fun {fd} F => ⟨(fun _ => FunD.bindsN F fun _ _ _ _ _ _ us hl => match us, hl with | [_, _], _ => rfl), (fun sh hs e => absurd e (nosh_law_inward sh hs))⟩) (fun {fd} F e => by cases e)) ?_
  refine .cons (defOk X N c 35 (x := "_law_top") (st := s_law_top) (dfl := []) (kwd := []) p_law_top rfl rfl ck_law_top (fun {fd} F => ⟨(fun _ => FunD.bindsN F fun _ _ _ _ _ _ us hl => match us, hl with | [_], _ => rfl), (fun sh hs e => absurd e (nosh_law_top sh hs))⟩) (fun {fd} F e => by cases e)) ?_
  refine .cons (defOk X N c 36 (x := "_law_descent") (st := s_law_descent) (dfl := []) (kwd := []) p_law_descent rfl rfl ck_law_descent (fun {fd} F => ⟨(fun _ => FunD.bindsN F fun _ _ _ _ _ _ us hl => match us, hl with | [_, _, _], _ => rfl), (fun sh hs e => absurd e (nosh_law_descent sh hs))⟩) (fun {fd} F e => by cases e)) ?_
  refine .cons (defOk X N c 37 (x := "_law_found") (st := s_law_found) (dfl := []) (kwd := []) p_law_found rfl rfl ck_law_found (fun {fd} F => ⟨(fun _ => FunD.bindsN F fun _ _ _ _ _ _ us hl => match us, hl with | [_, _, _], _ => rfl), (fun sh hs e => absurd e (nosh_law_found sh hs))⟩) (fun {fd} F e => by cases e)) ?_
  refine .cons (defOk X N c 38 (x := "_law_seen_from") (st := s_law_seen_from) (dfl := []) (kwd := []) p_law_seen_from rfl rfl ck_law_seen_from (fun {fd} F => ⟨(fun _ => FunD.bindsN F fun _ _ _ _ _ _ us hl => match us, hl with | [_, _], _ => rfl), (fun sh hs e => absurd e (nosh_law_seen_from sh hs))⟩) (fun {fd} F e => by cases e)) ?_
  refine .cons (defOk X N c 39 (x := "_law_turn") (st := s_law_turn) (dfl := []) (kwd := []) p_law_turn rfl rfl ck_law_turn (fun {fd} F => ⟨(fun _ => FunD.bindsN F fun _ _ _ _ _ _ us hl => match us, hl with | [_], _ => rfl), (fun sh hs e => absurd e (nosh_law_turn sh hs))⟩) (fun {fd} F e => by cases e)) ?_
  refine .cons (defOk X N c 40 (x := "_law_scene") (st := s_law_scene) (dfl := []) (kwd := []) p_law_scene rfl rfl ck_law_scene (fun {fd} F => ⟨(fun _ => FunD.bindsN F fun _ _ _ _ _ _ us hl => match us, hl with | [_, _], _ => rfl), (fun sh hs e => absurd e (nosh_law_scene sh hs))⟩) (fun {fd} F e => by cases e)) ?_
  refine .cons (defOk X N c 41 (x := "_law_free_disc") (st := s_law_free_disc) (dfl := []) (kwd := []) p_law_free_disc rfl rfl ck_law_free_disc (fun {fd} F => ⟨(fun _ => FunD.bindsN F fun _ _ _ _ _ _ us hl => match us, hl with | [_], _ => rfl), (fun sh hs e => absurd e (nosh_law_free_disc sh hs))⟩) (fun {fd} F e => by cases e)) ?_
  refine .cons (defOk X N c 42 (x := "law") (st := s_law) (dfl := []) (kwd := []) p_law rfl rfl ck_law (fun {fd} F => ⟨(fun _ => FunD.bindsN F fun _ _ _ _ _ _ us hl => match us, hl with | [_], _ => rfl), (fun sh hs e => absurd e (nosh_law sh hs))⟩) (fun {fd} F e => by cases e)) ?_
  exact .nil
theorem glo_law : He.Fa.glo "law" ∈ faOf P := List.mem_append_left _ (List.mem_append_left _ (List.mem_map_of_mem (f := fun d : Def => He.Fa.glo d.name) (List.mem_of_getElem? p_law)))
/-! ### the head -/
abbrev R0 : PySem.W.OpenRow := PySem.W.OpenLaw.row PySem.Challenge.rw_gapstone_k08_whole_looks_and_touchings
abbrev hk : PySem.W.Hook := hookG 4 (faOf P) fn ex lam
def ob (s : PySem.W.SharedT) : He.AlD × Bool := obsG 4 (faOf P) fn ex lam (HandSHeadRun.getT s)
theorem ob_eq (s : PySem.W.SharedT) : ob s = hk.obs s.abs := obsG_eq (HandSHeadRun.getT_eq s)
theorem run (w : World) : HandSHeadRun.RunEq R0 (PySem.W.view R0.prog [46]) hk ob 3000 ("low" :: "plus" :: "less" :: "times" :: "sign_of" :: "look" :: "touch" :: "_law_bag" :: "_law_pull" :: "_law_of" :: "_law_shuffled" :: "_law_same" :: "_law_low" :: "_law_plus" :: "_law_minus" :: "_law_by" :: "_law_per" :: "_law_sum" :: "_law_under" :: "_law_spot" :: "_law_word" :: "_law_call" :: "_law_base" :: "_law_swap" :: "_law_after" :: "_law_stone" :: "_law_made" :: "_law_center" :: "_law_apart" :: "_law_depth" :: "_law_eye" :: "_law_moved" :: "_law_grown" :: "_law_turned" :: "_law_inward" :: "_law_top" :: "_law_descent" :: "_law_found" :: "_law_seen_from" :: "_law_turn" :: "_law_scene" :: "_law_free_disc" :: "TOUCH" :: ([] : List PySem.Str)) w := by
  intro os
  kernel_rfl
end K08

set_option Elab.async false
set_option linter.all false
set_option maxRecDepth 100000
set_option exponentiation.threshold 300
namespace K08
open PySem L2 G
theorem pull0 (k : Nat) : PullOk (callD P (k + 1)) i_law_pull := pullOk p_law_pull rfl rfl rfl
theorem bag0 (k : Nat) : BagMk (callD P (k + 1)) i_law_bag := bagMk (salt := 9146) p_law_bag rfl rfl rfl rfl (by decide) (by decide)
theorem of0 (k : Nat) : OfOk (callD P (k + 2)) i_law_of := of_is ⟨d_law_of, p_law_of, rfl, rfl, rfl⟩ (pull0 k)
theorem same0 (k n : Nat) : SameOk n (callD P (k + 1 + n)) i_law_same := sameOk p_law_same rfl rfl rfl k n
theorem low0 (k : Nat) : LowOk (callD P (k + 1)) i_low := lowOk p_low rfl rfl rfl
theorem plus0 (k : Nat) : OpOk (· + ·) (callD P (k + 2)) i_plus := plusOk p_plus rfl rfl rfl (low0 k)
theorem less0 (k : Nat) : OpOk (· - ·) (callD P (k + 2)) i_less := lessOk p_less rfl rfl rfl (low0 k)
theorem times0 (k : Nat) : OpOk (· * ·) (callD P (k + 2)) i_times := timesOk p_times rfl rfl rfl (low0 k)
theorem llow0 (k : Nat) : LowOk (callD P (k + 1)) i_law_low := llowOk p_law_low rfl rfl rfl
theorem ops0 (k : Nat) : Ops (callD P (k + 2)) i_law_plus i_law_minus i_law_by i_law_per := ⟨plusOk p_law_plus rfl rfl rfl (llow0 k), lessOk p_law_minus rfl rfl rfl (llow0 k), timesOk p_law_by rfl rfl rfl (llow0 k), perOk p_law_per rfl rfl rfl (llow0 k)⟩
theorem spot0 (k : Nat) : SpotOk (callD P (k + 2)) i_law_spot := spotOk p_law_spot rfl rfl rfl rfl (llow0 k) (pull0 k)
theorem turn0 (k : Nat) : TurnOk (callD P (k + 3)) i_law_turn := turnOk p_law_turn rfl rfl rfl (of0 k)
theorem made0 (k : Nat) {c : Rat × Rat} {b : Rat} {n : Nat} {s : Stt} [SzC n c.1] [SzC n c.2] [SzC n b] (hn : n ≤ 900) (h0 : b ≠ 0) : callD P (k + 3) i_law_made [placeD c, qD b] s = .ok (discD (madeQ c b)) s := made_run p_law_made rfl rfl rfl (ops0 k) hn h0
theorem madeP (k : Nat) : MadeOk (callD P (k + 3)) i_law_made := fun c b n s h1 h2 h3 hn h0 => by
  haveI := SzC.mk' h1
  haveI := SzC.mk' h2
  haveI := SzC.mk' h3
  exact made0 k hn h0
theorem free0 (k : Nat) : FreeOk (callD P (k + 4)) i_law_free_disc := freeOk p_law_free_disc rfl rfl rfl (llow0 (k + 2)) (pull0 (k + 2)) (spot0 (k + 1)) (fun h => made0 k h)
theorem center0 (k : Nat) : CenterOk (callD P (k + 3)) i_law_center := fun d n s hd hn h0 => by
  haveI := hd
  exact center_run p_law_center rfl rfl rfl (ops0 k) hn h0
theorem apart0 (k : Nat) : ApartOk (callD P (k + 3)) i_law_apart := fun p q m n s hp hq hm hn => by
  haveI := hp
  haveI := hq
  exact apart_run p_law_apart rfl rfl rfl (ops0 k) hm hn
theorem depth0 (k : Nat) : DepthOk (callD P (k + 4)) i_law_depth := fun d p n m s hd hp hn hm h0 => by
  haveI := hd
  haveI := hp
  exact depth_run p_law_depth rfl rfl rfl (ops0 (k + 1)) (fun {d n s} h1 h2 h3 => center0 k d n s h1 h2 h3) (fun {p q m n s} h1 h2 h3 h4 => apart0 k p q m n s h1 h2 h3 h4) hn hm h0
theorem under0 (k : Nat) : UnderOk (callD P (k + 1)) i_law_under := underOk p_law_under rfl rfl rfl
theorem top0 (k : Nat) : TopOk (callD P (k + 2)) i_law_top := topOk ⟨d_law_top, p_law_top, rfl, rfl, rfl⟩ (under0 k)
theorem sum0 (k : Nat) : Sum3Ok (callD P (k + 3)) i_law_sum := sum3Ok ⟨d_law_sum, p_law_sum, rfl, rfl, rfl⟩ (ops0 k).plus
theorem sumZ (k : Nat) : Sum3Z (callD P (k + 3)) i_law_sum := sum3Z ⟨d_law_sum, p_law_sum, rfl, rfl, rfl⟩ (ops0 k).plus
theorem swap0 (k : Nat) : SwapOk (callD P (k + 4)) i_law_swap := swapOk p_law_swap rfl rfl rfl rfl (sum0 k) (ops0 (k + 1)).plus (ops0 (k + 1)).minus
theorem swapZ0 (k : Nat) : SwapZ (callD P (k + 4)) i_law_swap := swapZ p_law_swap rfl rfl rfl rfl (sumZ k) (ops0 (k + 1)).plus (ops0 (k + 1)).minus
theorem after0 (k : Nat) : AfterOk (callD P (k + 5)) i_law_after := afterOk ⟨d_law_after, p_law_after, rfl, rfl, rfl⟩ (swap0 k)
theorem stone0 (k : Nat) : StoneOk (callD P (k + 6)) i_law_stone := stoneOk ⟨d_law_stone, p_law_stone, rfl, rfl, rfl⟩ (after0 k)
theorem base0 (k : Nat) (s : Stt) : callD P (k + 1) i_law_base [] s = .ok (fourD baseF) s := baseOk ⟨d_law_base, p_law_base, rfl, rfl, rfl⟩ s
theorem shuf0 (k : Nat) : ShufOk (callD P (k + 2)) i_law_shuffled := shufOk p_law_shuffled rfl rfl rfl rfl (pull0 k)
theorem word0 (k : Nat) : WordOk (callD P (k + 3)) i_law_word := wordOk ⟨d_law_word, p_law_word, rfl, rfl, rfl⟩ (pull0 (k + 1)) (of0 k)
theorem lcall0 (k : Nat) : NameOk (callD P (k + 1)) i_law_call := lcallOk ⟨d_law_call, p_law_call, rfl, rfl, rfl⟩
theorem moved0 (k : Nat) : MovedOk (callD P (k + 4)) i_law_moved := movedOk ⟨d_law_moved, p_law_moved, rfl, rfl, rfl⟩ (center0 k) (madeP k) (ops0 (k + 1)).plus
theorem turned0 (k : Nat) : TurnedDOk (callD P (k + 4)) i_law_turned := turnedDOk ⟨d_law_turned, p_law_turned, rfl, rfl, rfl⟩ (center0 k) (madeP k) (ops0 (k + 1)).plus (ops0 (k + 1)).minus (ops0 (k + 1)).by_
theorem grown0 (k : Nat) : GrownOk (callD P (k + 4)) i_law_grown := grownOk ⟨d_law_grown, p_law_grown, rfl, rfl, rfl⟩ (center0 k) (madeP k) (ops0 (k + 1)).by_ (ops0 (k + 1)).per
theorem inward0 (k : Nat) : InwardOk (callD P (k + 5)) i_law_inward := inwardOk ⟨d_law_inward, p_law_inward, rfl, rfl, rfl⟩ (moved0 k) (ops0 (k + 2)).minus
theorem desc0 (k : Nat) : DescOk (callD P (k + 5)) i_law_descent := descOk p_law_descent rfl rfl rfl rfl (depth0 k) (swap0 k) (top0 (k + 2))
theorem found0 (k : Nat) : FoundOk (callD P (k + 6)) i_law_found := foundOk ⟨d_law_found, p_law_found, rfl, rfl, rfl⟩ (desc0 k) (lcall0 (k + 4))
theorem seen0 (k : Nat) : SeenOk (callD P (k + 7)) i_law_seen_from := seenOk ⟨d_law_seen_from, p_law_seen_from, rfl, rfl, rfl⟩ (found0 k) (depth0 (k + 2)) (stone0 k) (inward0 (k + 1))
theorem scene0 (k : Nat) : SceneOk (callD P (k + 8)) i_law_scene := sceneOk ⟨d_law_scene, p_law_scene, rfl, rfl, rfl⟩ (after0 (k + 2)) (shuf0 (k + 5)) (base0 (k + 6)) (word0 (k + 4)) (pull0 (k + 6)) (seen0 k) (spot0 (k + 5)) (moved0 (k + 3)) (turn0 (k + 4)) (turned0 (k + 3)) (llow0 (k + 6)) (grown0 (k + 3))
theorem eye0 (k : Nat) : EyeOk (callD P (k + 4)) i_law_eye := eyeOk ⟨d_law_eye, p_law_eye, rfl, rfl, rfl⟩ (apart0 k) (center0 k) (ops0 (k + 1))
theorem look0 (k : Nat) : LookOk (callD P (k + 3)) i_look := lookOk ⟨d_look, p_look, rfl, rfl, rfl⟩ (plus0 k) (times0 k) (less0 k) (low0 (k + 1))
theorem sign0 (k : Nat) : SignOk (callD P (k + 1)) i_sign_of := signOk ⟨d_sign_of, p_sign_of, rfl, rfl, rfl⟩
theorem touch0 (k : Nat) : TouchOk (callD P (k + 4)) i_touch := touchOk ⟨d_touch, p_touch, rfl, rfl, rfl⟩ (look0 k) (sign0 (k + 2)) (plus0 (k + 1)) g_TOUCH
end K08

set_option Elab.async false
set_option linter.all false
set_option maxRecDepth 100000
set_option exponentiation.threshold 300
namespace K08
open PySem L2 G
def negE : E := .tup [.bin .sub (.int 0) (.ix (.var 7) (.int 0)), .ix (.var 7) (.int 1)]
def s1 : S := .par [3, 4] [.call i_law_free_disc [.var 1], .call i_law_free_disc [.var 1]]
def s2 : S := .set 5 (.call i_law_pull [.var 1, .int 4])
def s3a : S := .set 6 (.call i_law_scene [.var 1, .int 4])
def s3b : S := .par [3, 4] [.call i_law_of [.var 1, .var 6], .ix (.call i_law_swap [.var 6, .call i_law_pull [.var 1, .int 4]]) (.call i_law_pull [.var 1, .int 4])]
def s3 : S := .ite (.cmp .lt (.var 5) (.int 2)) [s3a, s3b] []
def negC : E := .bi .tuple (.comp false negE [7] [7] .seq [.var 3] none)
def s4a : S := .set 4 (.ite (.cmp .eq (.call i_law_pull [.var 1, .int 2]) (.int 0)) negC (.var 3))
def s4 : S := .ite (.cmp .eq (.var 5) (.int 2)) [s4a] []
def s5 : S := .set 8 (.call i_law_eye [.var 3, .var 4])
def s6 : S := .set 9 (.call i_law_plus [.ix (.var 3) (.int 1), .ix (.var 4) (.int 1)])
def s7 : S := .ite (.not (.call i_law_same [.lst false [.call i_look [.var 3, .var 4], .callk h_look_0_other_one [] [.var 3, .var 4]], .lst false [.var 8, .var 8]])) [.ret (.bl false)] []
def s8 : S := .ite (.not (.call i_law_same [.lst false [.call i_touch [.var 3, .var 4], .call i_touch [.var 4, .var 3]], .bin .mul (.lst false [.and [.cmp .eq (.var 8) (.tup [.neg (.int 1), .int 1]), .cmp .gt (.ix (.var 9) (.int 0)) (.int 0)]]) (.int 2)])) [.ret (.bl false)] []
def turnB : List S := [s1, s2, s3, s4, s5, s6, s7, s8]
/-- a disc as this law meets it -/
structure Good (d : Disc) : Prop where
  sz : SzD 400 d
  bend : d.bend ≠ 0
  self : lookQ d d = 1
theorem made_good {c : Rat × Rat} {q : Rat} (h : SzD 130 (madeQ c q)) (q0 : q ≠ 0) : Good (madeQ c q) := by
  refine ⟨h.mono (by decide), q0, ?_⟩
  unfold lookQ madeQ
  simp only
  grind
def negD (d : Disc) : Disc := ⟨-d.back, -d.bend, -d.x, -d.y⟩
theorem Sz.neg {n : Nat} {q : Rat} (h : Sz n q) : Sz n (-q) := ⟨by rw [Rat.neg_num, Int.natAbs_neg]; exact h.1, by rw [Rat.neg_den]; exact h.2⟩
theorem neg_good {d : Disc} (h : Good d) : Good (negD d) := by
  refine ⟨⟨Sz.neg h.sz.back, Sz.neg h.sz.bend, Sz.neg h.sz.x, Sz.neg h.sz.y⟩, ?_, ?_⟩
  · have := h.bend
    show -d.bend ≠ 0
    grind
  · have := h.self
    unfold lookQ at this ⊢
    unfold negD
    simp only
    grind
theorem neg_qD (q : Rat) : D.tup [.int (0 - q.num), .int (q.den : Int)] = qD (-q) := by
  unfold qD
  rw [Rat.neg_num, Rat.neg_den, Int.zero_sub]
theorem neg_e {call : CallS} (q : Rat) {ρ : G.Env} {s : Stt} (hl : 7 < ρ.length) : evE P call negE (ρ.set 7 (some (qD q))) s = .ok (qD (-q)) s := by
  have h : (ρ.set 7 (some (qD q)))[7]?.join = some (qD q) := by
    rw [List.getElem?_set_self hl]
    rfl
  simp only [negE, evE, evEs, R.of, R.bind, h, ix_q0, ix_q1, bin_sub, List.length_cons, List.length_nil, Nat.zero_add, Nat.reduceAdd, le2, if_true, neg_qD]
theorem neg_run {call : CallS} {ρ : G.Env} {s : Stt} {d : Disc} (h3 : ρ[3]?.join = some (discD d)) (hl : 7 < ρ.length) : evE P call negC ρ s = .ok (discD (negD d)) s := by
  rw [negC, evE, evE_comp]
  have e1 : evEs P call [.var 3] ρ s = .ok [discD d] s := by simp only [evEs, evE, R.of, R.bind, h3]
  have e2 : srcF .seq s [discD d] = some [qD d.back, qD d.bend, qD d.x, qD d.y] := rfl
  rw [e1, rbind_ok, e2, of_some, rbind_ok]
  have st : ∀ (q : Rat) (acc : List D), acc.length < 100 → compB P call negE [7] [7] none ρ (qD q) acc s = .ok (acc ++ [qD (-q)]) s := fun q acc ha =>
    compB_of tg_own (neg_e q hl) (Nat.lt_of_lt_of_le ha (by decide))
  rw [loopC, st _ _ (by simp)]
  simp only
  rw [loopC, st _ _ (by simp)]
  simp only
  rw [loopC, st _ _ (by simp)]
  simp only
  rw [loopC, st _ _ (by simp)]
  rfl
theorem scene_good {most : Nat} {G : Four} (hm : most ≤ 10) (h : SceneG most G) {v : T} (hv : Abc v) (hl : v.length ≤ 1) {j : Nat} (hj : j < 4) : Good ((G.after v).get j) :=
  ⟨scene_sz hm h v hv hl j hj, (scene_valid h v hv j hj).1, (scene_valid h v hv j hj).2⟩
theorem after_one (F : Four) : ∀ i : Nat, i < 4 → F.swap i = F.after [97 + i]
  | 0, _ => by rw [Four.after_cons, Four.after_nil]
  | 1, _ => by rw [Four.after_cons, Four.after_nil]
  | 2, _ => by rw [Four.after_cons, Four.after_nil]
  | 3, _ => by rw [Four.after_cons, Four.after_nil]
  | _ + 4, h => absurd h (by omega)
theorem abc_one {i : Nat} (h : i < 4) : Abc [97 + i] := fun c hc => by
  rw [List.mem_singleton] at hc
  subst hc
  exact match i, h with
  | 0, _ => by decide
  | 1, _ => by decide
  | 2, _ => by decide
  | 3, _ => by decide
theorem abc_nil : Abc [] := fun c hc => by cases hc
/-- the scene's part -/
theorem fork {x0 x2 x7 x8 x9 : Option D} {x6 : Option D} {d e : Disc} {v : Int} {b : Cell} (ob : BagOK b) (gd : Good d) (ge : Good e) :
    ∃ d' e' x6' b', Good d' ∧ Good e' ∧ BagOK b' ∧ evS P (callD P 39) s3 [x0, some (.ref 0), x2, some (discD d), some (discD e), some (.int v), x6, x7, x8, x9] [b] = .nx [x0, some (.ref 0), x2, some (discD d'), some (discD e'), some (.int v), x6', x7, x8, x9] [b'] := by
  have t : evT P (callD P 39) (.cmp .lt (.var 5) (.int 2)) [x0, some (.ref 0), x2, some (discD d), some (discD e), some (.int v), x6, x7, x8, x9] [b] = .ok (decide (v < 2)) [b] := by
    simp only [evT, evE, R.of, R.bind, List.getElem?_cons_zero, List.getElem?_cons_succ, Option.join_some, cmpF]
  by_cases c : v < 2
  · obtain ⟨_, b1, e1, o1, G, rfl, hG⟩ := scene0 31 b [] 4 ob (fun n => rfl) (by decide)
    obtain ⟨_, b2, e2, o2, m⟩ := of0 37 b1 [] G.L o1 (by simp [Four.L]) (by simp [Four.L])
    rw [four_items] at m
    rename_i w
    have : ∃ j, j < 4 ∧ w = discD (G.get j) := by
      simp only [List.mem_cons, List.not_mem_nil, or_false] at m
      rcases m with m | m | m | m
      · exact ⟨0, by decide, m⟩
      · exact ⟨1, by decide, m⟩
      · exact ⟨2, by decide, m⟩
      · exact ⟨3, by decide, m⟩
    obtain ⟨j, hj, rfl⟩ := this
    obtain ⟨i, b3, e3, o3, gi, li⟩ := pull0 38 b2 [] 4 3 o2 (by decide) (by decide) (by decide)
    obtain ⟨i, rfl⟩ : ∃ n : Nat, i = (n : Int) := ⟨i.toNat, by omega⟩
    have hi : i < 4 := by omega
    have g0 : ∀ j, j < 4 → Good (G.get j) := fun j hj => by
      have := scene_good (by decide) hG abc_nil (by decide) hj
      rwa [Four.after_nil] at this
    have e4 := swapZ0 35 400 i G [b3] (fun n => bag_under o3 (fun n => rfl) n) (by decide) (fun j hj => (g0 j hj).sz) hi
    have g1 : ∀ j, j < 4 → Good ((G.swap i).get j) := fun j hj => by
      rw [after_one G i hi]
      exact scene_good (by decide) hG (abc_one hi) (by simp) hj
    obtain ⟨l, b4, e5, o4, gl, ll⟩ := pull0 38 b3 [] 4 3 o3 (by decide) (by decide) (by decide)
    obtain ⟨l, rfl⟩ : ∃ n : Nat, l = (n : Int) := ⟨l.toNat, by omega⟩
    have hl : l < 4 := by omega
    have ix := ix_four (s := [b4]) (F := G.swap i) hl
    refine ⟨G.get j, (G.swap i).get l, some (fourD G), b4, g0 j hj, g1 l hl, o4, ?_⟩
    have a1 : evS P (callD P 39) s3a [x0, some (.ref 0), x2, some (discD d), some (discD e), some (.int v), x6, x7, x8, x9] [b] = .nx [x0, some (.ref 0), x2, some (discD d), some (discD e), some (.int v), some (fourD G), x7, x8, x9] [b1] := by
      have e1' : callD P 39 i_law_scene [.ref 0, .int 4] [b] = .ok (fourD G) [b1] := e1
      simp only [s3a, evS, evE, evEs, R.of, R.bind, R.st, List.getElem?_cons_zero, List.getElem?_cons_succ, Option.join_some, e1', List.set_cons_succ, List.set_cons_zero]
    have e2' : callD P 39 i_law_of [.ref 0, fourD G] [b1] = .ok (discD (G.get j)) [b2] := e2
    have a2 : evS P (callD P 39) s3b [x0, some (.ref 0), x2, some (discD d), some (discD e), some (.int v), some (fourD G), x7, x8, x9] [b1] = .nx [x0, some (.ref 0), x2, some (discD (G.get j)), some (discD ((G.swap i).get l)), some (.int v), some (fourD G), x7, x8, x9] [b4] := by
      simp only [s3b, evS, evE, evEs, R.of, R.bind, R.st, List.getElem?_cons_zero, List.getElem?_cons_succ, Option.join_some, e2', e3, e4, e5, ix]
      rfl
    rw [s3, evS, t, decide_eq_true c, st_ok, if_pos rfl, evSs_cons, a1, seq_nx, evSs_cons, a2, seq_nx, evSs_nil]
  · refine ⟨d, e, x6, b, gd, ge, ob, ?_⟩
    rw [s3, evS, t, decide_eq_false c, st_ok, if_neg (by decide), evSs_nil]
/-- the same disc, or it inside out -/
theorem fork2 {x0 x2 x6 x7 x8 x9 : Option D} {d e : Disc} {v : Int} {b : Cell} (ob : BagOK b) (gd : Good d) (ge : Good e) :
    ∃ e' b', Good e' ∧ BagOK b' ∧ evS P (callD P 39) s4 [x0, some (.ref 0), x2, some (discD d), some (discD e), some (.int v), x6, x7, x8, x9] [b] = .nx [x0, some (.ref 0), x2, some (discD d), some (discD e'), some (.int v), x6, x7, x8, x9] [b'] := by
  have t : evT P (callD P 39) (.cmp .eq (.var 5) (.int 2)) [x0, some (.ref 0), x2, some (discD d), some (discD e), some (.int v), x6, x7, x8, x9] [b] = .ok (decide (v = 2)) [b] := by
    simp only [evT, evE, R.of, R.bind, List.getElem?_cons_zero, List.getElem?_cons_succ, Option.join_some, cmpF, eqF_int, Option.map_some]
  by_cases c : v = 2
  · obtain ⟨i, b3, e3, o3, gi, li⟩ := pull0 38 b [] 2 2 ob (by decide) (by decide) (by decide)
    have t2 : evT P (callD P 39) (.cmp .eq (.call i_law_pull [.var 1, .int 2]) (.int 0)) [x0, some (.ref 0), x2, some (discD d), some (discD e), some (.int v), x6, x7, x8, x9] [b] = .ok (decide (i = 0)) [b3] := by
      simp only [evT, evE, evEs, R.of, R.bind, List.getElem?_cons_zero, List.getElem?_cons_succ, Option.join_some, cmpF, eqF_int, Option.map_some, e3]
    by_cases c0 : i = 0
    · refine ⟨negD d, b3, neg_good gd, o3, ?_⟩
      have n := neg_run (call := callD P 39) (ρ := [x0, some (.ref 0), x2, some (discD d), some (discD e), some (.int v), x6, x7, x8, x9]) (s := [b3]) (d := d) rfl (by simp)
      rw [s4, evS, t, decide_eq_true c, st_ok, if_pos rfl, evSs_cons, s4a, evS, evE, t2, decide_eq_true c0, rbind_ok, if_pos rfl, n, st_ok]
      rfl
    · refine ⟨d, b3, gd, o3, ?_⟩
      rw [s4, evS, t, decide_eq_true c, st_ok, if_pos rfl, evSs_cons, s4a, evS, evE, t2, decide_eq_false c0, rbind_ok, if_neg (by decide), evE]
      rfl
  · refine ⟨e, b, ge, ob, ?_⟩
    rw [s4, evS, t, decide_eq_false c, st_ok, if_neg (by decide), evSs_nil]
theorem turn : TurnK P 39 8 turnB := by
  intro b x0 env ob hl
  match env, hl with
  | [a2, a3, a4, a5, a6, a7, a8, a9], _ =>
    obtain ⟨_, b1, e1, o1, q, c, rfl, hd, q0⟩ := free0 35 b [] ob (fun n => rfl)
    have gd := made_good hd q0
    generalize madeQ c q = d at *
    obtain ⟨_, b2, e2, o2, q', c', rfl, hd', q0'⟩ := free0 35 b1 [] o1 (fun n => rfl)
    have ge := made_good hd' q0'
    generalize madeQ c' q' = e at *
    have t1 : evS P (callD P 39) s1 [x0, some (.ref 0), a2, a3, a4, a5, a6, a7, a8, a9] [b] = .nx [x0, some (.ref 0), a2, some (discD d), some (discD e), a5, a6, a7, a8, a9] [b2] := by
      simp only [s1, evS, evE, evEs, R.of, R.bind, R.st, List.getElem?_cons_zero, List.getElem?_cons_succ, Option.join_some, e1, e2]
      rfl
    obtain ⟨v, b3, e3, o3, gv, lv⟩ := pull0 38 b2 [] 4 3 o2 (by decide) (by decide) (by decide)
    have t2 : evS P (callD P 39) s2 [x0, some (.ref 0), a2, some (discD d), some (discD e), a5, a6, a7, a8, a9] [b2] = .nx [x0, some (.ref 0), a2, some (discD d), some (discD e), some (.int v), a6, a7, a8, a9] [b3] := by
      simp only [s2, evS, evE, evEs, R.of, R.bind, R.st, List.getElem?_cons_zero, List.getElem?_cons_succ, Option.join_some, e3, List.set_cons_succ, List.set_cons_zero]
    obtain ⟨d1, e1', x6, b4, gd1, ge1, o4, t3⟩ := fork (x0 := x0) (x2 := a2) (x6 := a6) (x7 := a7) (x8 := a8) (x9 := a9) (v := v) o3 gd ge
    obtain ⟨e4, b5, ge4, o5, t4⟩ := fork2 (x0 := x0) (x2 := a2) (x6 := x6) (x7 := a7) (x8 := a8) (x9 := a9) (v := v) o4 gd1 ge1
    have y1 := eye0 35 d1 e4 400 [b5] gd1.sz ge4.sz (by decide) gd1.bend ge4.bend
    rw [eye_look gd1.bend ge4.bend gd1.self ge4.self] at y1
    have y2 := (ops0 37).plus d1.bend e4.bend 400 400 [b5] gd1.sz.bend ge4.sz.bend (by decide)
    have y3 := look0 36 d1 e4 400 [b5] gd1.sz ge4.sz (by decide)
    have y4 := touch0 35 d1 e4 400 [b5] gd1.sz ge4.sz (by decide)
    have y5 := touch0 35 e4 d1 400 [b5] ge4.sz gd1.sz (by decide)
    rw [look_comm e4 d1, Rat.add_comm e4.bend] at y5
    have t5 : evS P (callD P 39) s5 [x0, some (.ref 0), a2, some (discD d1), some (discD e4), some (.int v), x6, a7, a8, a9] [b5] = .nx [x0, some (.ref 0), a2, some (discD d1), some (discD e4), some (.int v), x6, a7, some (qD (lookQ d1 e4)), a9] [b5] := by
      simp only [s5, evS, evE, evEs, R.of, R.bind, R.st, List.getElem?_cons_zero, List.getElem?_cons_succ, Option.join_some, y1, List.set_cons_succ, List.set_cons_zero]
    have t6 : evS P (callD P 39) s6 [x0, some (.ref 0), a2, some (discD d1), some (discD e4), some (.int v), x6, a7, some (qD (lookQ d1 e4)), a9] [b5] = .nx [x0, some (.ref 0), a2, some (discD d1), some (discD e4), some (.int v), x6, a7, some (qD (lookQ d1 e4)), some (qD (d1.bend + e4.bend))] [b5] := by
      simp only [s6, evS, evE, evEs, R.of, R.bind, R.st, List.getElem?_cons_zero, List.getElem?_cons_succ, Option.join_some, ix_d1, y2, List.set_cons_succ, List.set_cons_zero]
    have t7 : evS P (callD P 39) s7 [x0, some (.ref 0), a2, some (discD d1), some (discD e4), some (.int v), x6, a7, some (qD (lookQ d1 e4)), some (qD (d1.bend + e4.bend))] [b5] = .nx [x0, some (.ref 0), a2, some (discD d1), some (discD e4), some (.int v), x6, a7, some (qD (lookQ d1 e4)), some (qD (d1.bend + e4.bend))] [b5] := by
      refine same_if1 (same0 35 3) (d := .lst [qD (lookQ d1 e4), qD (lookQ d1 e4)]) ?_ ?_ ?_
      · have y6 := look0 36 e4 d1 400 [b5] ge4.sz gd1.sz (by decide)
        rw [look_comm e4 d1] at y6
        have k1 : callK sh0 (callD P 39 i_look) [] [discD d1, discD e4] [b5] = callD P 39 i_look [discD e4, discD d1] [b5] := rfl
        simp only [evE, evEs, R.of, R.bind, List.getElem?_cons_zero, List.getElem?_cons_succ, Option.join_some, y3, q_look_0_other_one, k1, y6, List.length_cons, List.length_nil, Nat.zero_add, Nat.reduceAdd, le2, if_true]
      · simp only [evE, evEs, R.of, R.bind, List.getElem?_cons_zero, List.getElem?_cons_succ, Option.join_some, List.length_cons, List.length_nil, Nat.zero_add, Nat.reduceAdd, le2, if_true]
      · simp [D.pl, D.pls, qD]
    have pq : decide (0 < (d1.bend + e4.bend).num) = decide (0 < d1.bend + e4.bend) := by rw [decide_eq_decide]; exact num_pos_iff
    have t8 : evS P (callD P 39) s8 [x0, some (.ref 0), a2, some (discD d1), some (discD e4), some (.int v), x6, a7, some (qD (lookQ d1 e4)), some (qD (d1.bend + e4.bend))] [b5] = .nx [x0, some (.ref 0), a2, some (discD d1), some (discD e4), some (.int v), x6, a7, some (qD (lookQ d1 e4)), some (qD (d1.bend + e4.bend))] [b5] := by
      refine same_if1 (same0 35 3) (d := .lst [.bl (decide (lookQ d1 e4 = -1) && decide (0 < d1.bend + e4.bend)), .bl (decide (lookQ d1 e4 = -1) && decide (0 < d1.bend + e4.bend))]) ?_ ?_ ?_
      · simp only [evE, evEs, R.of, R.bind, List.getElem?_cons_zero, List.getElem?_cons_succ, Option.join_some, y4, y5, List.length_cons, List.length_nil, Nat.zero_add, Nat.reduceAdd, le2, if_true]
      · have q := eqF_qD (p := lookQ d1 e4) (q := -1)
        have m1 : D.tup [.int (-1), .int 1] = qD (-1) := rfl
        have mul : ∀ x : D, binF .mul (.lst [x]) (.int 2) = some (.lst [x, x]) := fun x => by
          have : ∀ xs : List D, xs.length ≤ 10 → binF .mul (.lst xs) (.int 2) = some (.lst (List.replicate 2 xs).flatten) := fun xs h => by
            have l : xs.length * 2 ≤ sizeLine := Nat.le_trans (Nat.mul_le_mul_right 2 h) (by decide)
            exact if_pos ⟨by decide, by decide, l⟩
          exact this [x] (by simp)
        by_cases c : lookQ d1 e4 = -1
        · rw [decide_eq_true c] at q ⊢
          simp only [evE, evEs, evAnd, R.of, R.bind, List.getElem?_cons_zero, List.getElem?_cons_succ, Option.join_some, List.length_cons, List.length_nil, Nat.zero_add, Nat.reduceAdd, le2, le1, if_true, m1, cmpF, q, Option.map_some, ix_q0, pq, mul, Bool.true_and]
        · rw [decide_eq_false c] at q ⊢
          simp only [evE, evEs, evAnd, R.of, R.bind, List.getElem?_cons_zero, List.getElem?_cons_succ, Option.join_some, List.length_cons, List.length_nil, Nat.zero_add, Nat.reduceAdd, le2, le1, if_true, m1, cmpF, q, Option.map_some, mul, Bool.false_and]
      · simp [D.pl, D.pls]
    refine ⟨b5, [a2, some (discD d1), some (discD e4), some (.int v), x6, a7, some (qD (lookQ d1 e4)), some (qD (d1.bend + e4.bend))], o5, rfl, ?_⟩
    rw [turnB, evSs_cons, t1, seq_nx, evSs_cons, t2, seq_nx, evSs_cons, t3, seq_nx, evSs_cons, t4, seq_nx, evSs_cons, t5, seq_nx, evSs_cons, t6, seq_nx, evSs_cons, t7, seq_nx, evSs_cons, t8, seq_nx, evSs_nil]
def tl : List S := [.ret (.bl true)]
theorem end_ : EndK P 39 8 tl := by
  intro b x0 env ob hl
  exact ⟨[b], by simp [tl, evSs, evS, evE, R.st, RS.seq]⟩
theorem good (ns : List Int) (_ : ns.length ≤ 63) (_ : ∀ z ∈ ns, Builtin.Int.intBits z ≤ 1048576) : ∃ s', callD P 40 i_law [.scr ns] [] = .ok (.bl true) s' :=
  law_good (n := 5) (turnB := turnB) (tl := tl) p_law rfl rfl rfl rfl (bag0 38) turn (by decide) end_ ns
end K08

set_option Elab.async false
set_option linter.all false
set_option maxRecDepth 100000
set_option maxHeartbeats 0
open PySem PySem.W PySem.Calls PyProof.Rows
theorem PySem.Challenge.cw_gapstone_k08_whole_looks_and_touchings_holds : PySem.Challenge.rw_gapstone_k08_whole_looks_and_touchings.Holds := by
  w_on; o_law
  refine HandSHeadRun.head_any (r := PySem.W.OpenLaw.row PySem.Challenge.rw_gapstone_k08_whole_looks_and_touchings) (q := PySem.W.view (PySem.W.OpenLaw.row PySem.Challenge.rw_gapstone_k08_whole_looks_and_touchings).prog [46]) (H := K08.hk) (ob := K08.ob) (M := 3000) (loose := ("low" :: "plus" :: "less" :: "times" :: "sign_of" :: "look" :: "touch" :: "_law_bag" :: "_law_pull" :: "_law_of" :: "_law_shuffled" :: "_law_same" :: "_law_low" :: "_law_plus" :: "_law_minus" :: "_law_by" :: "_law_per" :: "_law_sum" :: "_law_under" :: "_law_spot" :: "_law_word" :: "_law_call" :: "_law_base" :: "_law_swap" :: "_law_after" :: "_law_stone" :: "_law_made" :: "_law_center" :: "_law_apart" :: "_law_depth" :: "_law_eye" :: "_law_moved" :: "_law_grown" :: "_law_turned" :: "_law_inward" :: "_law_top" :: "_law_descent" :: "_law_found" :: "_law_seen_from" :: "_law_turn" :: "_law_scene" :: "_law_free_disc" :: "TOUCH" :: ([] : List PySem.Str))) (d := HandSHeadRun.topDef (PySem.W.OpenLaw.row PySem.Challenge.rw_gapstone_k08_whole_looks_and_touchings).prog 46) (kwd := []) K08.ob_eq
    (by kernel_rfl) (fun s => by kernel_rfl) K08.run (by kernel_rfl) (by kernel_rfl) (by kernel_rfl) (by rfl) (by first | assumption | decide +kernel) (by decide +kernel) ⟨rfl, rfl, rfl, rfl, rfl, by decide +kernel⟩ ?hw ?hc
  case hw => w_witness2
  case hc =>
    refine G.walk_ofET (l := PySem.Challenge.rw_gapstone_k08_whole_looks_and_touchings) (n := 63) (k := 3 * 40 + 3) (x := "_law_script") (CX := G.CXe) rfl (by decide) (by kernel_rfl) ⟨rfl, by decide, by decide⟩ ?F G.cxe_no
    intro w mg fa h Y N hmg0
    obtain ⟨K, KX, c, tg⟩ := Y
    have hmg : mg ("law" : PySem.Str) = some (.ref fa) := by
      have e : (HandSHeadRun.topDef (PySem.W.OpenLaw.row PySem.Challenge.rw_gapstone_k08_whole_looks_and_touchings).prog 46).name = ("law" : PySem.Str) := by kernel_rfl
      rw [← e]
      exact hmg0
    obtain ⟨fd, F⟩ := c.1.def_ K08.i_law rfl
    have ha := hmg.symm.trans (He.glo_ok KX N (c.1.facts (f := .glo "law") K08.glo_law))
    cases ha
    exact G.law_end (Γ := K08.Ga K) (lam := K08.lam) (k := 40) (f := K08.i_law) (df := K08.d_law) (x := "law") (st := K08.s_law) (fd := fd) KX tg rfl hmg (fun base hT => K08.facts KX N c tg hT) K08.p_law rfl rfl F (fun _ _ _ _ _ _ us hl => match us, hl with | [_], _ => rfl) K08.good
