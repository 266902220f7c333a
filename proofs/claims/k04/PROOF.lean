import PyProof.Rows.All
import Wide.All
import OpenK.AllK
import Wide.FinOn
import HandS.ForMost
import KE.SortData
import KE.DataEq
import KE.DataCmp
import HandS.TupAny
import HandS.Deep
import HandS.Style
import HandS.IsInst
import HandS.Codes
import HandS.WordsDict
import HandS.Set
import HandS.SetFor
import HandS.Strs
import HandS.Flow
import HandS.Conv
import KE.KRevSl
import PySem.Challenge.RW_meaningsled_k04_whole_roots_by_halves
set_option Elab.async false
set_option linter.all false
set_option autoImplicit false
section
/-! FiA: a small functional reading of the program's language: data, environments, code, and what code computes. Own work. -/
namespace Fi
open PySem

abbrev Txt := List Nat
/-- keys of dicts -/
inductive DKey where
  | i (n : Int) | s (x : Txt) | t (xs : List (Sum Int Txt))
  deriving DecidableEq
/-- data -/
inductive D where
  | non | bl (b : Bool) | int (i : Int) | str (x : Txt)
  | tup (xs : List D) | lst (xs : List D)
  | dct (t : Bool) (kvs : List (DKey × D))
  | set (xs : List DKey)
  | scr (ns : List Int)
  | ty (n : String)

/-- an operation's outcome: a value that lasts, or a new container -/
inductive PR where
  | sc (d : D) | fr (d : D)
/-- an expression's outcome: a value that lasts, a new container, or the container of a slot -/
inductive Rs where
  | sh (d : D) | ow (d : D) | pk (i : Nat)
def PR.rs : PR → Rs
  | .sc d => .sh d
  | .fr d => .ow d
def Rs.fz : Rs → Rs
  | .ow d => .sh d
  | r => r
/-- a slot -/
inductive Sl where
  | un | sh (d : D) | ow (d : D) | lk (d : D)
def Sl.nlk : Sl → Bool
  | .lk _ => false
  | _ => true
structure Env where
  sl : List Sl
  ro : List Nat

namespace Env
def get (E : Env) (i : Nat) : Sl := E.sl.getD i .un
def put (E : Env) (i : Nat) (s : Sl) : Env := { E with sl := E.sl.set i s }
def rd (E : Env) (i : Nat) : Option D := match E.get i with
  | .un => none
  | .sh d => some d
  | .ow d => some d
  | .lk d => some d
/-- what an outcome is, to be read at once -/
def vw (E : Env) : Rs → Option D
  | .sh d => some d
  | .ow d => some d
  | .pk i => E.rd i
/-- an outcome made to last -/
def tk (E : Env) : Rs → Option (D × Env)
  | .sh d => some (d, E)
  | .ow d => some (d, E)
  | .pk i => match E.get i with
    | .sh d => some (d, E)
    | .ow d => some (d, E.put i (.sh d))
    | _ => none
def tks (E : Env) : List Rs → Option (List D × Env)
  | [] => some ([], E)
  | r :: rs => match E.tk r with
    | some (d, E1) => (match E1.tks rs with
      | some (ds, E2) => some (d :: ds, E2)
      | none => none)
    | none => none
/-- may slot i be stored to -/
def free (E : Env) (i : Nat) : Bool := !E.ro.contains i && (E.get i).nlk && decide (i < E.sl.length)
end Env

/-! ### operations -/
inductive O2 where
  | add | sub | mul | fdiv | mod | pow | eq | ne | lt | le | gt | ge | is | isn | inn | nin
  deriving DecidableEq
inductive O1 where
  | neg
  deriving DecidableEq
inductive Blt where
  | len | abs | int | str | tuple | list | sorted | any | all | sum | max | min | set | dict | isinst | sortedSet
inductive Mth where
  | join | get | index | count | items | keys | values | split | endswith | startswith
  deriving DecidableEq
inductive Mut where
  | append | extend | pop | insert | update | reverse
  deriving DecidableEq

mutual
def D.py : D → Option PyData
  | .non => some .none
  | .bl b => some (.bool b)
  | .int i => some (.int i)
  | .str x => some (.str ⟨x.toArray⟩)
  | .tup xs => (D.pys xs).map .tuple
  | .lst xs => (D.pys xs).map .list
  | _ => none
def D.pys : List D → Option (List PyData)
  | [] => some []
  | x :: r => match D.py x, D.pys r with
    | some a, some b => some (a :: b)
    | _, _ => none
end
def bigLine : Nat := 16777216
def D.len : D → Option Nat
  | .str x => if x.length ≤ bigLine then some x.length else none
  | .tup xs => some xs.length
  | .lst xs => some xs.length
  | .dct false kvs => some kvs.length
  | .scr ns => some ns.length
  | _ => none
def D.truth : D → Option Bool
  | .non => some false
  | .bl b => some b
  | .int i => some (i != 0)
  | .str x => if x.length ≤ bigLine then some (!x.isEmpty) else none
  | .tup xs => some !xs.isEmpty
  | .lst xs => some !xs.isEmpty
  | .dct false xs => some !xs.isEmpty
  | _ => none
/-- == of data at any depth -/
def D.eqv (a b : D) : Option Bool := match a.py, b.py with
  | some x, some y => if min x.depth y.depth ≤ 64 then some (PyData.eqv x y) else none
  | _, _ => none
/-- places: Python's index -/
def ix (n : Nat) (i : Int) : Option Nat := if 0 ≤ i then (if i < n then some i.toNat else none) else if -(n : Int) ≤ i then some (i + n).toNat else none
def cutAt (n d : Nat) : Option Int → Nat
  | none => d
  | some i => if i < 0 then (i + n).toNat else min i.toNat n
def cut {α : Type} (xs : List α) (lo hi : Option Int) : List α :=
  (xs.drop (cutAt xs.length 0 lo)).take (cutAt xs.length xs.length hi - cutAt xs.length 0 lo)
def flatKs : List D → Option (List (Sum Int Txt))
  | [] => some []
  | .int i :: r => (flatKs r).map (.inl i :: ·)
  | .str x :: r => (flatKs r).map (.inr x :: ·)
  | _ => none
def D.key : D → Option DKey
  | .int i => some (.i i)
  | .str x => some (.s x)
  | .tup xs => (flatKs xs).map .t
  | _ => none
def DKey.d : DKey → D
  | .i n => .int n
  | .s x => .str x
  | .t xs => .tup (xs.map fun y => match y with | .inl m => .int m | .inr z => .str z)
def DKey.ok : Bool → DKey → Bool
  | false, .i _ => true
  | false, .s _ => true
  | true, .t _ => true
  | _, _ => false
def kget (k : DKey) (kvs : List (DKey × D)) : Option D := kvs.lookup k
def kput (k : DKey) (d : D) (kvs : List (DKey × D)) : List (DKey × D) :=
  if (kvs.any fun kv => decide (kv.1 = k)) = true then kvs.map (fun kv => if kv.1 = k then (kv.1, d) else kv) else kvs ++ [(k, d)]

def numsD : List D → Option (List Int)
  | [] => some []
  | .int i :: r => (numsD r).map (i :: ·)
  | _ => none
def bls : List D → Option (List Bool)
  | [] => some []
  | .bl b :: r => (bls r).map (b :: ·)
  | _ => none
def txts : List D → Option (List Txt)
  | [] => some []
  | .str x :: r => (txts r).map (x :: ·)
  | _ => none

def flatD : D → Bool
  | .non => true | .bl _ => true | .int _ => true | .str _ => true
  | _ => false
/-- == of flat data -/
def eqF : D → D → Bool
  | .non, .non => true
  | .bl a, .bl b => a == b
  | .bl a, .int b => (if a then 1 else 0) == b
  | .int a, .bl b => a == (if b then 1 else 0)
  | .int a, .int b => a == b
  | .str a, .str b => a == b
  | _, _ => false
def addD : D → D → Option PR
  | .int i, .int j => some (.sc (.int (i + j)))
  | .str x, .str y => if x.length + y.length ≤ bigLine then some (.sc (.str (x ++ y))) else none
  | .lst x, .lst y => if x.length + y.length ≤ bigLine then some (.fr (.lst (x ++ y))) else none
  | .tup x, .tup y => if x.length + y.length ≤ bigLine then some (.sc (.tup (x ++ y))) else none
  | _, _ => none
def subD : D → D → Option PR
  | .int i, .int j => some (.sc (.int (i - j)))
  | _, _ => none
def mulD : D → D → Option PR
  | .int i, .int j => if (-(2 ^ 64) < i ∧ i < 2 ^ 64) ∨ (-(2 ^ 64) < j ∧ j < 2 ^ 64) then some (.sc (.int (i * j))) else none
  | _, _ => none
def fdivD : D → D → Option PR
  | .int i, .int j => if j ≠ 0 ∧ j.natAbs < 1073741824 then some (.sc (.int (i.fdiv j))) else none
  | _, _ => none
def modD : D → D → Option PR
  | .int i, .int j => if j ≠ 0 then some (.sc (.int (i.fmod j))) else none
  | _, _ => none
def powD : D → D → Option PR
  | .int i, .int j => if 0 ≤ j ∧ j ≤ 1000000 ∧ i.natAbs < 2 ^ 64 then some (.sc (.int (i ^ j.toNat))) else none
  | _, _ => none
def notNone : PyData → Bool
  | .none => false
  | _ => true
/-- an order's answer for alike data -/
def ordD (f : PyData → PyData → Bool) (a b : D) : Option PR := match a.py, b.py with
  | some x, some y => if PySem.W.alike x y = true ∧ notNone x = true ∧ min x.depth y.depth ≤ 64 then some (.sc (.bl (f x y))) else none
  | _, _ => none
def cmpA (p : Int → Int → Bool) (f : PyData → PyData → Bool) : D → D → Option PR
  | .int i, .int j => some (.sc (.bl (p i j)))
  | a, b => ordD f a b
def D.isNon : D → Bool
  | .non => true
  | _ => false
def isD (neg : Bool) : D → D → Option PR
  | a, .non => some (.sc (.bl (if neg then !a.isNon else a.isNon)))
  | _, _ => none
def inListD (a : D) (ys : List D) : Option Bool :=
  match a.py, D.pys ys with
  | some x, some ps => if x.depth ≤ 64 then some (ps.any fun z => PyData.eqv z x) else none
  | _, _ => none
def inD (a : D) : D → Option Bool
  | .str y => (match a with
    | .str [c] => some (decide (c ∈ y))
    | _ => none)
  | .lst ys => inListD a ys
  | .tup ys => inListD a ys
  | .dct false kvs => (a.key).bind fun k => if k.ok false then some (kget k kvs).isSome else none
  | _ => none
/-- a op b -/
def op2D : O2 → D → D → Option PR
  | .add, a, b => addD a b
  | .sub, a, b => subD a b
  | .mul, a, b => mulD a b
  | .fdiv, a, b => fdivD a b
  | .mod, a, b => modD a b
  | .pow, a, b => powD a b
  | .eq, a, b => (a.eqv b).map fun r => .sc (.bl r)
  | .ne, a, b => (a.eqv b).map fun r => .sc (.bl !r)
  | .lt, a, b => cmpA (fun i j => decide (i < j)) (fun x y => PySem.W.dataLt x y) a b
  | .le, a, b => cmpA (fun i j => decide (i ≤ j)) (fun x y => !PySem.W.dataLt y x) a b
  | .gt, a, b => cmpA (fun i j => decide (j < i)) (fun x y => PySem.W.dataLt y x) a b
  | .ge, a, b => cmpA (fun i j => decide (j ≤ i)) (fun x y => !PySem.W.dataLt x y) a b
  | .is, a, b => isD false a b
  | .isn, a, b => isD true a b
  | .inn, a, b => (inD a b).map fun r => .sc (.bl r)
  | .nin, a, b => (inD a b).map fun r => .sc (.bl !r)
/-- a op= b, by data -/
def iaddD : D → D → Option PR
  | .int i, .int j => some (.sc (.int (i + j)))
  | .str x, .str y => if x.length + y.length ≤ bigLine then some (.sc (.str (x ++ y))) else none
  | _, _ => none
def iaddI : D → D → Option PR
  | .int i, .int j => some (.sc (.int (i + j)))
  | _, _ => none
def iopD : O2 → D → D → Option PR
  | .add, a, b => iaddD a b
  | .sub, a, b => subD a b
  | .mul, a, b => mulD a b
  | _, _, _ => none
def inopD : O2 → D → D → Option PR
  | .add, a, b => iaddI a b
  | .sub, a, b => subD a b
  | _, _, _ => none
def op1D : O1 → D → Option PR
  | .neg, .int i => some (.sc (.int (-i)))
  | _, _ => none
/-- a[b] -/
def ixD : D → D → Option PR
  | .lst xs, .int i => (ix xs.length i).bind fun j => xs[j]?.map .sc
  | .tup xs, .int i => (ix xs.length i).bind fun j => xs[j]?.map .sc
  | .scr xs, .int i => (ix xs.length i).bind fun j => xs[j]?.map fun n => .sc (.int n)
  | .str xs, .int i => if xs.length ≤ bigLine then (ix xs.length i).bind fun j => xs[j]?.map fun c => .sc (.str [c]) else none
  | .dct false kvs, k => (k.key).bind fun k => if k.ok false then (kget k kvs).map .sc else none
  | _, _ => none
def partD : Option D → Option (Option Int)
  | none => some none
  | some (.int i) => some (some i)
  | _ => none
/-- a[lo:hi] -/
def cutD (a : D) (lo hi : Option Int) : Option PR := match a with
  | .lst xs => some (.fr (.lst (cut xs lo hi)))
  | .tup xs => some (.sc (.tup (cut xs lo hi)))
  | .str xs => if xs.length ≤ bigLine then some (.sc (.str (cut xs lo hi))) else none
  | _ => none
/-- a[::-1] -/
def revD : D → Option PR
  | .lst xs => some (.fr (.lst xs.reverse))
  | .tup xs => some (.sc (.tup xs.reverse))
  | _ => none
/-- texts in order -/
def ltT : Txt → Txt → Bool
  | _, [] => false
  | [], _ :: _ => true
  | a :: r, b :: q => if a < b then true else if b < a then false else ltT r q
def insT (x : Txt) : List Txt → List Txt
  | [] => [x]
  | y :: r => if ltT y x then y :: insT x r else if ltT x y then x :: y :: r else y :: r
/-- sorted(set(texts)) -/
def sortSetT (xs : List Txt) : List Txt := xs.foldr insT []
/-- data in order: ints, texts, tuples of the same -/
def ltD : Nat → D → D → Option Bool
  | _, .int i, .int j => some (decide (i < j))
  | _, .str x, .str y => some (ltT x y)
  | n + 1, .tup xs, .tup ys => ltDs n xs ys
  | _, _, _ => none
where ltDs (n : Nat) : List D → List D → Option Bool
  | [], [] => some false
  | [], _ :: _ => some true
  | _ :: _, [] => some false
  | x :: r, y :: q => match x.eqv y with
    | some true => ltDs n r q
    | some false => ltD n x y
    | none => none
def D.tyName : D → Option String
  | .non => some "NoneType"
  | .bl _ => some "bool"
  | .int _ => some "int"
  | .str _ => some "str"
  | .tup _ => some "tuple"
  | .lst _ => some "list"
  | .dct _ _ => some "dict"
  | _ => none
/-- is a thing of the type a one of the type b -/
def tySub (a b : String) : Bool := a == b || (a == "bool" && b == "int")
def tyNames : List String := ["bool", "int", "str", "tuple", "list", "dict"]
/-- built-ins, by data -/
def lenB : List D → Option PR
  | [d] => d.len.map fun n => .sc (.int n)
  | _ => none
def absB : List D → Option PR
  | [.int i] => some (.sc (.int (if i < 0 then -i else i)))
  | _ => none
def intB : List D → Option PR
  | [.int i] => some (.sc (.int i))
  | _ => none
def tupleB : List D → Option PR
  | [.lst xs] => some (.sc (.tup xs))
  | [.tup xs] => some (.sc (.tup xs))
  | _ => none
def listB : List D → Option PR
  | [.lst xs] => some (.fr (.lst xs))
  | [.tup xs] => some (.fr (.lst xs))
  | _ => none
def anyB : List D → Option PR
  | [.lst xs] => (bls xs).map fun bs => .sc (.bl (bs.any id))
  | _ => none
def allB : List D → Option PR
  | [.lst xs] => (bls xs).map fun bs => .sc (.bl (bs.all id))
  | _ => none
def isinstB : List D → Option PR
  | [d, .ty b] => if tyNames.contains b then d.tyName.map fun a => .sc (.bl (tySub a b)) else none
  | _ => none
/-- a datum as the model's plain data -/
def encD (d : D) : PyData := d.py.getD .none
def tupHead : PyData → Bool
  | .tuple (_ :: _) => true
  | _ => false
def plainKey : PyData → Bool
  | .none => false
  | .tuple _ => false
  | _ => true
/-- can these be sorted, whatever their order -/
def sortOk (ps : List PyData) : Bool :=
  (ps.all fun a => ps.all fun b => PySem.W.alike a b) && (ps.all tupHead || ps.all plainKey) && ps.all fun p => decide (p.depth ≤ 64)
def leD (a b : D) : Bool := PySem.W.dataLe false encD a b
def sortC (xs : List D) : Option PR := (D.pys xs).bind fun ps => if sortOk ps then some (.fr (.lst (xs.mergeSort leD))) else none
def sortB : List D → Option PR
  | [.lst xs] => sortC xs
  | [.tup xs] => sortC xs
  | _ => none
def bltD : Blt → List D → Option PR
  | .len, ds => lenB ds
  | .abs, ds => absB ds
  | .int, ds => intB ds
  | .tuple, ds => tupleB ds
  | .list, ds => listB ds
  | .any, ds => anyB ds
  | .all, ds => allB ds
  | .isinst, ds => isinstB ds
  | .sorted, ds => sortB ds
  | _, _ => none
/-- texts joined -/
def joinT (s : Txt) : List Txt → Txt
  | [] => []
  | [p] => p
  | p :: q :: r => p ++ (s ++ joinT s (q :: r))
/-- methods that change nothing, by data -/
def joinB : D → List D → Option PR
  | .str s, [.lst xs] => (txts xs).bind fun ts => if (ts.map List.length).sum + ts.length * s.length ≤ bigLine then some (.sc (.str (joinT s ts))) else none
  | .str s, [.tup xs] => (txts xs).bind fun ts => if (ts.map List.length).sum + ts.length * s.length ≤ bigLine then some (.sc (.str (joinT s ts))) else none
  | _, _ => none
def getB : D → List D → Option PR
  | .dct false kvs, [k] => (k.key).bind fun k => if k.ok false then some (.sc ((kget k kvs).getD .non)) else none
  | _, _ => none
def mthD : Mth → D → List D → Option PR
  | .join, d, ds => joinB d ds
  | .get, d, ds => getB d ds
  | _, _, _ => none
def mthTy : Mth → D → Bool
  | .join, .str _ => true
  | .get, .dct false _ => true
  | .items, .dct false _ => true
  | .index, .lst _ => true
  | .count, .lst _ => true
  | .endswith, .str _ => true
  | .startswith, .str _ => true
  | .split, .str _ => true
  | _, _ => false
/-- a method that changes its container: what it gives, the container behind it -/
def appendB : D → List D → Option (D × D)
  | .lst xs, [d] => if xs.length < bigLine then some (.non, .lst (xs ++ [d])) else none
  | _, _ => none
def extendB : D → List D → Option (D × D)
  | .lst xs, [.lst ys] => if xs.length + ys.length ≤ bigLine then some (.non, .lst (xs ++ ys)) else none
  | _, _ => none
def popB : D → List D → Option (D × D)
  | .lst xs, [] => xs.getLast?.map fun y => (y, .lst xs.dropLast)
  | _, _ => none
def mutD : Mut → D → List D → Option (D × D)
  | .append, d, ds => appendB d ds
  | .extend, d, ds => extendB d ds
  | .pop, d, ds => popB d ds
  | _, _, _ => none
def mutTy : Mut → D → Bool
  | .append, .lst _ => true
  | .extend, .lst _ => true
  | .pop, .lst _ => true
  | .update, .dct false _ => true
  | _, _ => false
/-- c[k] = d -/
def setD : D → D → D → Option D
  | .lst xs, .int i, d => (ix xs.length i).map fun j => .lst (xs.set j d)
  | .dct false kvs, k, d => (k.key).bind fun k => if k.ok false && decide (kvs.length < bigLine) then some (.dct false (kput k d kvs)) else none
  | _, _, _ => none

/-! ### code -/
inductive Tg where
  | nm (i : Nat) | tp (is : List Nat)
mutual
inductive CE where
  | bad | var (i : Nat) | con (d : D) | glo (x : Str)
  | tup (es : CEs) | lst (es : CEs) | dct (t : Bool) (es : CEs) | dsp (ks : List DKey) (es : CEs)
  | op2 (o : O2) (a b : CE) | op1 (o : O1) (a : CE)
  | not (a : CE) | and (a b : CE) | or (a b : CE) | ifx (c a b : CE)
  | idx (a b : CE) | cut (a : CE) (lo hi : CO) | rev (a : CE)
  | call (f : Str) (es : CEs) | blt (f : Blt) (es : CEs)
  | mth (m : Mth) (o : CE) (es : CEs) | mut (m : Mut) (i : Nat) (es : CEs)
  | sset (a : CE) | lrng (it : IT) | chn (o p : O2) (a b c : CE)
  | cmpV (e : CE) (t : Tg) (i : Nat) (cs : CEs) (own : List Nat)
  | cmp (e : CE) (g : Gen) (own : List Nat) | cmp2 (e : CE) (g h : Gen) (own : List Nat)
inductive CEs where
  | nil | cons (e : CE) (r : CEs)
inductive CO where
  | no | so (e : CE)
inductive IT where
  | seq (e : CE) | rng1 (a : CE) | rng2 (a b : CE) | rng3 (a b c : CE) | enu (a : CE) | zip (a b : CE) | items (a : CE)
inductive Gen where
  | mk (t : Tg) (it : IT) (cs : CEs)
end
mutual
inductive CS where
  | bad
  | asg (t : Tg) (e : CE) | par (is : List Nat) (es : CEs)
  | aug (i : Nat) (o : O2) (e : CE) | augIx (i : Nat) (k : CE) (o : O2) (e : CE) | setIx (i : Nat) (k e : CE)
  | ex (e : CE) | ret (e : CE) | retN | ite (c : CE) (a b : CB) | for (t : Tg) (it : IT) (b : CB) | whl (c : CE) (b : CB)
  | brk | cnt | pas
inductive CB where
  | nil | cons (s : CS) (r : CB)
end

/-! ### what code computes -/
/-- an argument: a value that lasts, or a slot's container -/
inductive Ar where
  | sh (d : D) | ow (i : Nat) (d : D)
/-- the defs: which parameters are containers of the caller's; what a call gives: the value (new or lasting), what the containers became -/
structure Ctx where
  call : Str → List (Bool × D) → Option (Rs × List Sl)
  io : Str → List Bool
  glo : Str → Option D

inductive Out where
  | nx (E : Env) | rt (r : Rs) (E : Env) | bk (E : Env) | ct (E : Env)

/-- what is walked: its data, the slot whose container it is and whether it is locked now -/
def lock (E : Env) : Rs → Option (D × Option (Nat × Bool) × Env)
  | .sh d => some (d, none, E)
  | .ow d => some (d, none, E)
  | .pk i => match E.get i with
    | .ow d => some (d, some (i, true), E.put i (.lk d))
    | .lk d => some (d, some (i, false), E)
    | .sh d => some (d, none, E)
    | .un => none
def unlock (E : Env) : Option (Nat × Bool) → Env
  | some (i, true) => (match E.get i with
    | .lk d => E.put i (.ow d)
    | _ => E)
  | _ => E
/-- a dict's slot is put away while its keys are walked -/
def hide (E : Env) (i : Nat) : Env := { sl := E.sl.set i .un, ro := i :: E.ro }
def unhide (E : Env) (i : Nat) (d : D) (ro : List Nat) : Env := { sl := E.sl.set i (.ow d), ro := ro }
def dictAt (E : Env) (i : Nat) : Option (List (DKey × D)) := match E.get i with
  | .ow (.dct false kvs) => some kvs
  | _ => none
/-- what a variable is, to be walked -/
def lockVar (E : Env) (i : Nat) : Option (D × Option (Nat × Bool) × Env) := match E.get i with
  | .un => none
  | .sh d => lock E (.sh d)
  | _ => lock E (.pk i)
/-- a set of texts, sorted -/
def putT (L : List Txt) (k : Txt) : List Txt := if k ∈ L then L else L ++ [k]
def allT (xs : List Txt) : List Txt := xs.foldl putT []
def leT (x y : Txt) : Bool := decide (x ≤ y)
def setT (xs : List Txt) : List Txt := (allT xs).mergeSort leT
/-- the locked slot is none of these -/
def lkFree (own : List Nat) : Option (Nat × Bool) → Bool
  | none => true
  | some (i, _) => !own.contains i
def seqD : D → Option (List D)
  | .lst xs => some xs
  | .tup xs => some xs
  | .str xs => if xs.length ≤ bigLine then some (xs.map fun c => .str [c]) else none
  | _ => none
def rngD (a b c : Int) : Option (List D) :=
  if -(2 ^ 62) ≤ a ∧ a < 2 ^ 62 ∧ -(2 ^ 62) ≤ b ∧ b < 2 ^ 62 then
    (if c = 1 then some ((List.range (b - a).toNat).map fun (k : Nat) => .int (a + k))
     else if c = -1 then some ((List.range (a - b).toNat).map fun (k : Nat) => .int (a - k)) else none)
  else none
def puts (E : Env) : List Nat → List D → Option Env
  | [], [] => some E
  | i :: is, d :: ds => if E.free i then puts (E.put i (.sh d)) is ds else none
  | _, _ => none
def bindT : Tg → D → Env → Option Env
  | .nm i, d, E => if E.free i then some (E.put i (.sh d)) else none
  | .tp is, .tup ds, E => puts E is ds
  | _, _, _ => none
def Tg.slots : Tg → List Nat
  | .nm i => [i]
  | .tp is => is
def wipeE (E : Env) : List Nat → Env
  | [] => E
  | i :: is => (wipeE E is).put i .un
/-- the comprehension's own slots as they were -/
def back (E0 E : Env) : List Nat → Env
  | [] => E
  | i :: is => (back E0 E is).put i (E0.get i)
/-- arguments for a call, by which parameters are containers -/
def argsOf (E : Env) : List Bool → List Rs → Option (List Ar × Env)
  | true :: bs, .pk i :: rs => (match E.get i with
    | .ow d => (match argsOf E bs rs with
      | some (as, E2) => some (.ow i d :: as, E2)
      | none => none)
    | _ => none)
  | false :: bs, r :: rs => (match E.tk r with
    | some (d, E1) => (match argsOf E1 bs rs with
      | some (as, E2) => some (.sh d :: as, E2)
      | none => none)
    | none => none)
  | [], [] => some ([], E)
  | _, _ => none
def lent : List Ar → List Nat
  | [] => []
  | .sh _ :: r => lent r
  | .ow i _ :: r => i :: lent r
/-- the containers lent are there, each once -/
def lentOk (E : Env) (as : List Ar) : Bool := (lent as).all (fun i => match E.get i with | .ow _ => true | _ => false) && decide (lent as).Nodup
def Ar.pass : Ar → Bool × D
  | .sh d => (false, d)
  | .ow _ d => (true, d)
/-- the containers behind the call -/
def behind (E : Env) : List Ar → List Sl → Env
  | .ow i _ :: as, s :: ss => (behind E as ss).put i s
  | .sh _ :: as, _ :: ss => behind E as ss
  | _, _ => E

def forL (f : D → Env → Option Out) : List D → Env → Option Out
  | [], E => some (.nx E)
  | d :: r, E => match f d E with
    | some (.nx E1) => forL f r E1
    | some (.ct E1) => forL f r E1
    | some (.bk E1) => some (.nx E1)
    | some (.rt v E1) => some (.rt v E1)
    | none => none
def cmpL (f : D → Env → Option (Option D × Env)) : List D → List D → Env → Option (List D × Env)
  | [], acc, E => some (acc, E)
  | d :: r, acc, E => match f d E with
    | some (some e, E1) => if acc.length < bigLine then cmpL f r (acc ++ [e]) E1 else none
    | some (none, E1) => cmpL f r acc E1
    | none => none
/-- an inner walk that goes on with the list made so far -/
def cmpLL (f : D → List D → Env → Option (List D × Env)) : List D → List D → Env → Option (List D × Env)
  | [], acc, E => some (acc, E)
  | d :: r, acc, E => match f d acc E with
    | some (acc1, E1) => cmpLL f r acc1 E1
    | none => none
def whlN (t : Env → Option (Bool × Env)) (f : Env → Option Out) : Nat → Env → Option Out
  | 0, _ => none
  | n + 1, E => match t E with
    | some (true, E1) => (match f E1 with
      | some (.nx E2) => whlN t f n E2
      | some (.ct E2) => whlN t f n E2
      | some (.bk E2) => some (.nx E2)
      | some (.rt v E2) => some (.rt v E2)
      | none => none)
    | some (false, E1) => some (.nx E1)
    | none => none
open Classical in
noncomputable def whl (t : Env → Option (Bool × Env)) (f : Env → Option Out) (E : Env) : Option Out :=
  if h : ∃ o n, whlN t f n E = some o then some h.choose else none

def mapOut (g : Env → Env) : Out → Out
  | .nx E => .nx (g E)
  | .rt v E => .rt v (g E)
  | .bk E => .bk (g E)
  | .ct E => .ct (g E)

/-- a turn of a comprehension -/
def turnF (t : Tg) (ct : Env → Option (Bool × Env)) (ce : Env → Option (Rs × Env)) (own : List Nat) (d : D) (E : Env) : Option (Option D × Env) :=
  match bindT t d E with
  | some E2 => (match ct E2 with
    | some (true, E3) => (match ce E3 with
      | some (r, E4) => (match E4.tk r with
        | some (d', E5) => some (some d', wipeE E5 own)
        | none => none)
      | none => none)
    | some (false, E3) => some (none, wipeE E3 own)
    | none => none)
  | none => none
/-- a turn of the outer walk of two -/
def turnO (t : Tg) (ct : Env → Option (Bool × Env)) (ci : Env → Option (List D × Option (Nat × Bool) × Env)) (f : D → Env → Option (Option D × Env)) (own own2 : List Nat) (d : D) (acc : List D) (E : Env) : Option (List D × Env) :=
  match bindT t d E with
  | some E2 => (match ct E2 with
    | some (true, E3) => (match ci E3 with
      | some (ds2, l2, E4) => if lkFree own2 l2 then (match cmpL f ds2 acc (wipeE E4 own2) with
        | some (acc', E9) => some (acc', wipeE (unlock E9 l2) own)
        | none => none) else none
      | none => none)
    | some (false, E3) => some (acc, wipeE E3 own)
    | none => none)
  | none => none
def ownOk (E : Env) (own : List Nat) : Bool := own.all fun i => !E.ro.contains i

section
variable (C : Ctx)
mutual
noncomputable def evE : CE → Env → Option (Rs × Env)
  | .bad, _ => none
  | .var i, E => (match E.get i with
    | .un => none
    | .sh d => some (.sh d, E)
    | _ => some (.pk i, E))
  | .con d, E => some (.sh d, E)
  | .glo x, E => (C.glo x).map fun d => (.sh d, E)
  | .tup es, E => (match evEs es E with
    | some (rs, E1) => (match E1.tks rs with
      | some (ds, E2) => if ds.length ≤ bigLine then some (.sh (.tup ds), E2) else none
      | none => none)
    | none => none)
  | .lst es, E => (match evEs es E with
    | some (rs, E1) => (match E1.tks rs with
      | some (ds, E2) => if ds.length ≤ bigLine then some (.ow (.lst ds), E2) else none
      | none => none)
    | none => none)
  | .dct t .nil, E => some (.ow (.dct t []), E)
  | .dct _ (.cons _ _), _ => none
  | .dsp ks es, E => (match evEs es E with
    | some (rs, E1) => (match E1.tks rs with
      | some (ds, E2) => if ks.length = ds.length && decide (0 < ks.length) && decide (ks.length ≤ 15) && ks.all (DKey.ok false) then some (.ow (.dct false ((ks.zip ds).foldl (fun acc kd => kput kd.1 kd.2 acc) [])), E2) else none
      | none => none)
    | none => none)
  | .op2 o a b, E => (match evE a E with
    | some (ra, E1) => (match evE b E1 with
      | some (rb, E2) => (match E2.vw ra.fz, E2.vw rb.fz with
        | some da, some db => (op2D o da db).map fun p => (p.rs, E2)
        | _, _ => none)
      | none => none)
    | none => none)
  | .op1 o a, E => (match evE a E with
    | some (ra, E1) => (match E1.vw ra with
      | some da => (op1D o da).map fun p => (p.rs, E1)
      | none => none)
    | none => none)
  | .not a, E => (match evE a E with
    | some (ra, E1) => (match E1.vw ra with
      | some da => da.truth.map fun k => (.sh (.bl !k), E1)
      | none => none)
    | none => none)
  | .and a b, E => (match evE a E with
    | some (ra, E1) => (match (E1.vw ra).bind D.truth with
      | some true => evE b E1
      | some false => some (ra, E1)
      | none => none)
    | none => none)
  | .or a b, E => (match evE a E with
    | some (ra, E1) => (match (E1.vw ra).bind D.truth with
      | some true => some (ra, E1)
      | some false => evE b E1
      | none => none)
    | none => none)
  | .ifx c a b, E => (match evE c E with
    | some (rc, E1) => (match (E1.vw rc).bind D.truth with
      | some true => evE a E1
      | some false => evE b E1
      | none => none)
    | none => none)
  | .idx a b, E => (match evE a E with
    | some (ra, E1) => (match evE b E1 with
      | some (rb, E2) => (match E2.vw ra.fz, E2.vw rb.fz with
        | some da, some db => (ixD da db).map fun p => (p.rs, E2)
        | _, _ => none)
      | none => none)
    | none => none)
  | .cut a lo hi, E => (match evE a E with
    | some (ra, E1) => (match evO lo E1 with
      | some (l, E2) => (match evO hi E2 with
        | some (h, E3) => (match E3.vw ra.fz with
          | some da => (cutD da l h).map fun p => (p.rs, E3)
          | none => none)
        | none => none)
      | none => none)
    | none => none)
  | .rev a, E => (match evE a E with
    | some (ra, E1) => (match E1.vw ra with
      | some da => (revD da).map fun p => (p.rs, E1)
      | none => none)
    | none => none)
  | .call f es, E => (match evEs es E with
    | some (rs, E1) => (match argsOf E1 (C.io f) rs with
      | some (as, E2) => if lentOk E2 as then (match C.call f (as.map Ar.pass) with
        | some (r, ss) => some (r, behind E2 as ss)
        | none => none) else none
      | none => none)
    | none => none)
  | .blt f es, E => (match evEs es E with
    | some (rs, E1) => (match rs.mapM E1.vw with
      | some ds => (bltD f ds).map fun p => (p.rs, E1)
      | none => none)
    | none => none)
  | .mth m o es, E => (match evE o E with
    | some (ro, E1) => (match E1.vw ro.fz with
      | some d0 => if mthTy m d0 then (match evEs es E1 with
        | some (rs, E2) => (match E2.vw ro.fz, rs.mapM E2.vw with
          | some d, some ds => (mthD m d ds).map fun p => (p.rs, E2)
          | _, _ => none)
        | none => none) else none
      | none => none)
    | none => none)
  | .mut m i es, E => (match E.get i with
    | .ow c0 => if mutTy m c0 then (match evEs es E with
      | some (rs, E1) => (match E1.tks rs with
        | some (ds, E2) => (match E2.get i with
          | .ow c => (match mutD m c ds with
            | some (r, c') => some (.sh r, E2.put i (.ow c'))
            | none => none)
          | _ => none)
        | none => none)
      | none => none) else none
    | _ => none)
  | .chn o p a b c, E => (match evE a E with
    | some (ra, E1) => (match evE b E1 with
      | some (rb, E2) => (match E2.vw ra.fz, E2.vw rb.fz with
        | some da, some db => (match op2D o da db with
          | some (.sc (.bl true)) => (match evE c E2 with
            | some (rc, E3) => (match E3.vw rb.fz, E3.vw rc.fz with
              | some db2, some dc => (op2D p db2 dc).map fun q => (q.rs, E3)
              | _, _ => none)
            | none => none)
          | some (.sc (.bl false)) => some (.sh (.bl false), E2)
          | _ => none)
        | _, _ => none)
      | none => none)
    | none => none)
  | .sset a, E => (match evE a E with
    | some (r, E1) => (match E1.vw r with
      | some (.lst xs) => (txts xs).bind fun ts => if ts.length + 1 < 4096 then some (.ow (.lst ((setT ts).map .str)), E1) else none
      | _ => none)
    | none => none)
  | .lrng it, E => (match evI it E with
    | some (ds, none, E1) => if ds.length ≤ bigLine then some (.ow (.lst ds), E1) else none
    | _ => none)
  | .cmpV e t i cs own, E => (match dictAt E i with
    | some kvs => if ownOk (hide E i) own then (match cmpL (turnF t (evT cs) (evE e) own) (kvs.map fun kv => kv.1.d) [] (wipeE (hide E i) own) with
      | some (out, E6) => some (.ow (.lst out), unhide (back (hide E i) E6 own) i (.dct false kvs) E.ro)
      | none => none) else none
    | none => (match lockVar E i with
      | some (d, l, E1) => (match seqD d with
        | some ds => if lkFree own l && ownOk E1 own then (match cmpL (turnF t (evT cs) (evE e) own) ds [] (wipeE E1 own) with
          | some (out, E6) => some (.ow (.lst out), unlock (back E1 E6 own) l)
          | none => none) else none
        | none => none)
      | none => none))
  | .cmp e (.mk t it cs) own, E => (match evI it E with
      | some (ds, l, E1) => if lkFree own l && ownOk E1 own then (match cmpL (turnF t (evT cs) (evE e) own) ds [] (wipeE E1 own) with
        | some (out, E6) => some (.ow (.lst out), unlock (back E1 E6 own) l)
        | none => none) else none
      | none => none)
  | .cmp2 e (.mk t it cs) (.mk t2 it2 cs2) own, E => (match evI it E with
      | some (ds, l, E1) => if lkFree own l && ownOk E1 own then (match cmpLL (turnO t (evT cs) (evI it2) (turnF t2 (evT cs2) (evE e) t2.slots) own t2.slots) ds [] (wipeE E1 own) with
        | some (out, E6) => some (.ow (.lst out), unlock (back E1 E6 own) l)
        | none => none) else none
      | none => none)
noncomputable def evEs : CEs → Env → Option (List Rs × Env)
  | .nil, E => some ([], E)
  | .cons e r, E => (match evE e E with
    | some (x, E1) => (match evEs r E1 with
      | some (xs, E2) => some (x.fz :: xs, E2)
      | none => none)
    | none => none)
noncomputable def evO : CO → Env → Option (Option Int × Env)
  | .no, E => some (none, E)
  | .so e, E => (match evE e E with
    | some (r, E1) => (match E1.vw r with
      | some (.int i) => some (some i, E1)
      | _ => none)
    | none => none)
/-- tests, all of them -/
noncomputable def evT : CEs → Env → Option (Bool × Env)
  | .nil, E => some (true, E)
  | .cons e r, E => (match evE e E with
    | some (x, E1) => (match (E1.vw x).bind D.truth with
      | some true => evT r E1
      | some false => some (false, E1)
      | none => none)
    | none => none)
/-- what is walked: the items, the locked slot -/
noncomputable def evI : IT → Env → Option (List D × Option (Nat × Bool) × Env)
  | .seq e, E => (match evE e E with
    | some (r, E1) => (match lock E1 r with
      | some (d, l, E2) => (seqD d).map fun ds => (ds, l, E2)
      | none => none)
    | none => none)
  | .rng1 a, E => (match evE a E with
    | some (r, E1) => (match E1.vw r with
      | some (.int n) => (rngD 0 n 1).map fun ds => (ds, none, E1)
      | _ => none)
    | none => none)
  | .rng2 a b, E => (match evE a E with
    | some (r, E1) => (match evE b E1 with
      | some (r2, E2) => (match E2.vw r, E2.vw r2 with
        | some (.int m), some (.int n) => (rngD m n 1).map fun ds => (ds, none, E2)
        | _, _ => none)
      | none => none)
    | none => none)
  | _, _ => none
end

mutual
noncomputable def evS : CS → Env → Option Out
  | .bad, _ => none
  | .asg t e, E => (match evE C e E with
    | some (r, E1) => (match t with
      | .nm i => (match r with
        | .ow d => if E1.free i then some (.nx (E1.put i (.ow d))) else none
        | r => (match E1.tk r with
          | some (d, E2) => if E2.free i then some (.nx (E2.put i (.sh d))) else none
          | none => none))
      | .tp is => (match E1.vw r with
        | some (.tup ds) => (puts E1 is ds).map .nx
        | _ => none))
    | none => none)
  | .par is es, E => (match evEs C es E with
    | some (rs, E1) => (match E1.tks rs with
      | some (ds, E2) => (puts E2 is ds).map .nx
      | none => none)
    | none => none)
  | .aug i o e, E => (match E.get i with
    | .sh d => (match evE C e E with
      | some (r, E1) => (match E1.vw r with
        | some d2 => (match iopD o d d2 with
          | some (.sc d3) => if E1.free i then some (.nx (E1.put i (.sh d3))) else none
          | _ => none)
        | none => none)
      | none => none)
    | _ => none)
  | .augIx i k o e, E => (match E.get i with
    | .ow _ => (match evE C k E with
      | some (rk, E1) => (match E1.get i, (E1.vw rk).bind D.key with
        | .ow (.dct false kvs), some key => if key.ok false then (match kget key kvs with
          | some old => (match evE C e E1 with
            | some (r, E2) => (match E2.get i, E2.vw r with
              | .ow (.dct false kvs2), some d2 => (match inopD o old d2 with
                | some (.sc d3) => if kvs2.length < bigLine then some (.nx (E2.put i (.ow (.dct false (kput key d3 kvs2))))) else none
                | _ => none)
              | _, _ => none)
            | none => none)
          | none => none) else none
        | _, _ => none)
      | none => none)
    | _ => none)
  | .setIx i k e, E => (match evE C e E with
    | some (r, E1) => (match E1.tk r with
      | some (d, E2) => (match E2.get i with
        | .ow _ => (match evE C k E2 with
          | some (rk, E3) => (match E3.get i, E3.vw rk with
            | .ow c, some dk => (setD c dk d).map fun c2 => .nx (E3.put i (.ow c2))
            | _, _ => none)
          | none => none)
        | _ => none)
      | none => none)
    | none => none)
  | .ex e, E => (match evE C e E with
    | some (_, E1) => some (.nx E1)
    | none => none)
  | .ret e, E => (match evE C e E with
    | some (r, E1) => some (.rt r E1)
    | none => none)
  | .retN, E => some (.rt (.sh .non) E)
  | .ite c a b, E => (match evE C c E with
    | some (r, E1) => (match (E1.vw r).bind D.truth with
      | some true => evB a E1
      | some false => evB b E1
      | none => none)
    | none => none)
  | .for t it b, E => (match evI C it E with
    | some (ds, l, E1) => (match forL (fun d E' => match bindT t d E' with
          | some E2 => evB b E2
          | none => none) ds E1 with
      | some o => some (mapOut (fun E2 => unlock E2 l) o)
      | none => none)
    | none => none)
  | .whl c b, E => whl (fun E' => match evE C c E' with
      | some (r, E1) => (match (E1.vw r).bind D.truth with
        | some k => some (k, E1)
        | none => none)
      | none => none) (fun E' => evB b E') E
  | .brk, E => some (.bk E)
  | .cnt, E => some (.ct E)
  | .pas, E => some (.nx E)
noncomputable def evB : CB → Env → Option Out
  | .nil, E => some (.nx E)
  | .cons s r, E => (match evS s E with
    | some (.nx E1) => evB r E1
    | some o => some o
    | none => none)
end
end

end Fi
end

section
/-! FiB: how data lie in the abstract heap; environments; what a step leaves. Own work. -/
namespace Fi
open PySem L2

def strOf (x : Txt) : Str := ⟨x.toArray⟩
theorem strOf_length (x : Txt) : (strOf x).length = x.length := by simp [strOf, Str.length]
theorem strOf_cps (x : Txt) : (strOf x).cps.toList = x := by simp [strOf]
theorem strOf_inj {x y : Txt} : strOf x = strOf y ↔ x = y := by
  constructor
  · intro h; have := congrArg (fun s => s.cps.toList) h; simpa [strOf] using this
  · rintro rfl; rfl
theorem big_eq : bigLine = sizeLine := by rw [sizeLine_eq]; rfl

def DKey.toKey : DKey → Option Key
  | .i n => some (.inl n)
  | .s x => some (.inr (strOf x))
  | .t _ => none
def toKey1 : Sum Int Txt → Key
  | .inl n => .inl n
  | .inr x => .inr (strOf x)
def DKey.toKeys : DKey → Option (List Key)
  | .t xs => some (xs.map toKey1)
  | _ => none

section
variable (K : PySem.W.Frag) (S : Hp)
mutual
/-- the value v is the data d; all that it leans on lasts in S -/
inductive Rep : D → V → Prop
  | non : Rep .non .non
  | bl (b : Bool) : Rep (.bl b) (.bl b)
  | int (i : Int) : Rep (.int i) (.int i)
  | str (x : Txt) : Rep (.str x) (.str (strOf x))
  | ty (n : String) : Rep (.ty n) (.ty n)
  | tup {a : Addr} {vs : List V} {ds : List D} : SqT K S a vs → RepL ds vs → Rep (.tup ds) (.ref a)
  | lst {a : Addr} {vs : List V} {ds : List D} : S a = some (.lst vs) → RepL ds vs → Rep (.lst ds) (.ref a)
  | dK {a : Addr} {es : List (Key × V)} {kvs : List (DKey × D)} : S a = some (.dK es) → RepK kvs es → Rep (.dct false kvs) (.ref a)
  | dT {a : Addr} {es : List (List Key × V)} {kvs : List (DKey × D)} : S a = some (.dT es) → RepT kvs es → Rep (.dct true kvs) (.ref a)
  | scr {a : Addr} {ns : List Int} : SqL K S a (ns.map V.int) → Rep (.scr ns) (.ref a)
inductive RepL : List D → List V → Prop
  | nil : RepL [] []
  | cons {d : D} {v : V} {ds : List D} {vs : List V} : Rep d v → RepL ds vs → RepL (d :: ds) (v :: vs)
inductive RepK : List (DKey × D) → List (Key × V) → Prop
  | nil : RepK [] []
  | cons {k : DKey} {j : Key} {d : D} {v : V} {ds : List (DKey × D)} {vs : List (Key × V)} : k.toKey = some j → Rep d v → RepK ds vs → RepK ((k, d) :: ds) ((j, v) :: vs)
inductive RepT : List (DKey × D) → List (List Key × V) → Prop
  | nil : RepT [] []
  | cons {k : DKey} {j : List Key} {d : D} {v : V} {ds : List (DKey × D)} {vs : List (List Key × V)} : k.toKeys = some j → Rep d v → RepT ds vs → RepT ((k, d) :: ds) ((j, v) :: vs)
end
/-- what a container is, by what stands at its place -/
inductive OwnAt : Option HO → D → Prop
  | lst {vs : List V} {ds : List D} : RepL K S ds vs → OwnAt (some (.lst vs)) (.lst ds)
  | dK {es : List (Key × V)} {kvs : List (DKey × D)} : RepK K S kvs es → OwnAt (some (.dK es)) (.dct false kvs)
  | dT {es : List (List Key × V)} {kvs : List (DKey × D)} : RepT K S kvs es → OwnAt (some (.dT es)) (.dct true kvs)
/-- the value v may be read as d in the heap H -/
def Vw (H : Hp) (d : D) (v : V) : Prop := Rep K S d v ∨ ∃ a, v = .ref a ∧ OwnAt K S (H a) d
end

section
variable {K : PySem.W.Frag} {S S' H H' : Hp}
theorem sqT_mono {a : Addr} {xs : List V} (e : Same S S') (h : SqT K S a xs) : SqT K S' a xs := by
  rcases h with (h | ⟨o, h⟩) | h
  · exact .inl (.inl (e _ _ h))
  · exact .inl (.inr ⟨o, e _ _ h⟩)
  · exact .inr h
mutual
theorem Rep.mono (e : Same S S') : ∀ {d : D} {v : V}, Rep K S d v → Rep K S' d v
  | _, _, .non => .non
  | _, _, .bl b => .bl b
  | _, _, .int i => .int i
  | _, _, .str x => .str x
  | _, _, .ty n => .ty n
  | _, _, .tup h r => .tup (sqT_mono e h) (RepL.mono e r)
  | _, _, .lst h r => .lst (e _ _ h) (RepL.mono e r)
  | _, _, .dK h r => .dK (e _ _ h) (RepK.mono e r)
  | _, _, .dT h r => .dT (e _ _ h) (RepT.mono e r)
  | _, _, .scr h => .scr (e.seq h)
theorem RepL.mono (e : Same S S') : ∀ {ds : List D} {vs : List V}, RepL K S ds vs → RepL K S' ds vs
  | _, _, .nil => .nil
  | _, _, .cons h r => .cons (Rep.mono e h) (RepL.mono e r)
theorem RepK.mono (e : Same S S') : ∀ {ds : List (DKey × D)} {vs : List (Key × V)}, RepK K S ds vs → RepK K S' ds vs
  | _, _, .nil => .nil
  | _, _, .cons k h r => .cons k (Rep.mono e h) (RepK.mono e r)
theorem RepT.mono (e : Same S S') : ∀ {ds : List (DKey × D)} {vs : List (List Key × V)}, RepT K S ds vs → RepT K S' ds vs
  | _, _, .nil => .nil
  | _, _, .cons k h r => .cons k (Rep.mono e h) (RepT.mono e r)
end
theorem OwnAt.mono (e : Same S S') {o : Option HO} {d : D} (h : OwnAt K S o d) : OwnAt K S' o d := by
  cases h with
  | lst r => exact .lst (r.mono e)
  | dK r => exact .dK (r.mono e)
  | dT r => exact .dT (r.mono e)
theorem OwnAt.some {o : Option HO} {d : D} (h : OwnAt K S o d) : ∃ x, o = some x := by
  cases h <;> exact ⟨_, rfl⟩
/-- a container that lasts from now on -/
theorem OwnAt.rep {a : Addr} {d : D} (h : OwnAt K S (S a) d) : Rep K S d (.ref a) := by
  generalize e : S a = o at h
  cases h with
  | lst r => exact .lst e r
  | dK r => exact .dK e r
  | dT r => exact .dT e r
theorem RepL.length {ds : List D} {vs : List V} (h : RepL K S ds vs) : ds.length = vs.length := by
  induction ds generalizing vs with
  | nil => cases h; rfl
  | cons d ds ih => cases h with | cons _ r => simp [ih r]
theorem RepL.get {ds : List D} {vs : List V} (h : RepL K S ds vs) : ∀ {i : Nat} {d : D}, ds[i]? = some d → ∃ v, vs[i]? = some v ∧ Rep K S d v := by
  induction ds generalizing vs with
  | nil => intro i d e; simp at e
  | cons x ds ih =>
    cases h with
    | cons h r =>
      intro i d e
      cases i with
      | zero => simp at e; subst e; exact ⟨_, rfl, h⟩
      | succ i => simpa using ih r (by simpa using e)
theorem RepL.append {ds es : List D} {vs us : List V} (h : RepL K S ds vs) (g : RepL K S es us) : RepL K S (ds ++ es) (vs ++ us) := by
  induction ds generalizing vs with
  | nil => cases h; exact g
  | cons d ds ih => cases h with | cons h r => exact .cons h (ih r)
theorem RepL.take {ds : List D} {vs : List V} (n : Nat) (h : RepL K S ds vs) : RepL K S (ds.take n) (vs.take n) := by
  induction ds generalizing vs n with
  | nil => cases h; simp; exact .nil
  | cons d ds ih => cases h with | cons h r => cases n with
    | zero => simp; exact .nil
    | succ n => simp; exact .cons h (ih n r)
theorem RepL.drop {ds : List D} {vs : List V} (n : Nat) (h : RepL K S ds vs) : RepL K S (ds.drop n) (vs.drop n) := by
  induction ds generalizing vs n with
  | nil => cases h; simp; exact .nil
  | cons d ds ih => cases h with | cons h r => cases n with
    | zero => simp; exact .cons h r
    | succ n => simp; exact ih n r
theorem RepL.set {ds : List D} {vs : List V} {d : D} {v : V} (n : Nat) (g : Rep K S d v) (h : RepL K S ds vs) : RepL K S (ds.set n d) (vs.set n v) := by
  induction ds generalizing vs n with
  | nil => cases h; simp; exact .nil
  | cons x ds ih => cases h with | cons h r => cases n with
    | zero => simp; exact .cons g r
    | succ n => simp; exact .cons h (ih n r)
theorem RepL.reverse {ds : List D} {vs : List V} (h : RepL K S ds vs) : RepL K S ds.reverse vs.reverse := by
  induction ds generalizing vs with
  | nil => cases h; exact .nil
  | cons d ds ih => cases h with | cons h r => simp only [List.reverse_cons]; exact (ih r).append (.cons h .nil)
theorem RepL.dropLast {ds : List D} {vs : List V} (h : RepL K S ds vs) : RepL K S ds.dropLast vs.dropLast := by
  rw [List.dropLast_eq_take, List.dropLast_eq_take, ← h.length]; exact h.take _

theorem same_upd {p : Addr} {o : HO} (h : S p = none) : Same S (upd S p o) := fun b x e => by
  rw [upd_ne (ne_of_none e h)]; exact e
theorem same_upd2 {p : Addr} {o : HO} (e : Same S H) : Same (upd S p o) (upd H p o) := fun b x q => by
  by_cases hb : b = p
  · subst hb; rw [upd_same] at q ⊢; exact q
  · rw [upd_ne hb] at q ⊢; exact e _ _ q
theorem same_updL {p : Addr} {o : HO} (e : Same S H) (h : H p = some o) : Same (upd S p o) H := fun b x q => by
  by_cases hb : b = p
  · subst hb; rw [upd_same] at q; rw [h]; exact q
  · rw [upd_ne hb] at q; exact e _ _ q
theorem same_none {p : Addr} (e : Same S H) (h : H p = none) : S p = none := e.free h
end

/-! ### environments -/
def Env.isOw (E : Env) (i : Nat) : Prop := ∃ d, E.get i = .ow d ∨ E.get i = .lk d
/-- the places that the environment holds as containers -/
def Own (σ : St) (E : Env) (a : Addr) : Prop := ∃ i, E.isOw i ∧ σ[i]? = some (some (.ref a))
structure EnvOk (K : PySem.W.Frag) (S H : Hp) (σ : St) (E : Env) : Prop where
  sub : Same S H
  len : σ.length = E.sl.length
  sh : ∀ i d, E.get i = .sh d → ∃ v, σ[i]? = some (some v) ∧ Rep K S d v
  ow : ∀ i d, E.get i = .ow d ∨ E.get i = .lk d → ∃ a, σ[i]? = some (some (.ref a)) ∧ S a = none ∧ OwnAt K S (H a) d
  inj : ∀ i j a, E.isOw i → E.isOw j → σ[i]? = some (some (.ref a)) → σ[j]? = some (some (.ref a)) → i = j
  ro : ∀ i ∈ E.ro, ∃ a, σ[i]? = some (some (.ref a)) ∧ (E.isOw i ∨ S a ≠ none)
/-- what a step leaves -/
structure Post (K : PySem.W.Frag) (S H : Hp) (σ : St) (E : Env) (S' H' : Hp) (σ' : St) (E' : Env) : Prop where
  ok : EnvOk K S' H' σ' E'
  grow : Same S S'
  frame : ∀ a o, ¬ Own σ E a → H a = some o → H' a = some o
  keepS : ∀ a o, ¬ Own σ E a → H a = some o → S a = none → S' a = none
  dom : ∀ a, H' a = none → H a = none
  own : ∀ a, Own σ' E' a → Own σ E a ∨ H a = none
  roE : E'.ro = E.ro
  rof : ∀ i ∈ E.ro, σ'[i]? = σ[i]?
  lkd : ∀ i d, E.get i = .lk d → E'.get i = .lk d ∧ σ'[i]? = σ[i]?
section
variable {K : PySem.W.Frag} {S S' S1 S2 H H' H1 H2 : Hp} {σ σ' σ1 σ2 : St} {E E' E1 E2 : Env}
theorem Post.refl (h : EnvOk K S H σ E) : Post K S H σ E S H σ E :=
  ⟨h, .refl _, fun _ _ _ e => e, fun _ _ _ _ e => e, fun _ e => e, fun _ e => .inl e, rfl, fun _ _ => rfl, fun _ _ e => ⟨e, rfl⟩⟩
theorem Post.trans (p : Post K S H σ E S1 H1 σ1 E1) (q : Post K S1 H1 σ1 E1 S2 H2 σ2 E2) : Post K S H σ E S2 H2 σ2 E2 := by
  have nown : ∀ a o, ¬ Own σ E a → H a = some o → ¬ Own σ1 E1 a := fun a o n e h => by
    rcases p.own a h with z | z
    · exact n z
    · rw [e] at z; cases z
  refine ⟨q.ok, p.grow.trans q.grow, fun a o n e => q.frame a o (nown a o n e) (p.frame a o n e), fun a o n e s => q.keepS a o (nown a o n e) (p.frame a o n e) (p.keepS a o n e s), fun a e => p.dom a (q.dom a e), fun a h => ?_, q.roE.trans p.roE, fun i hi => ?_, fun i d e => ?_⟩
  · rcases q.own a h with z | z
    · exact p.own a z
    · exact .inr (p.dom a z)
  · exact (q.rof i (by rw [p.roE]; exact hi)).trans (p.rof i hi)
  · obtain ⟨h1, h2⟩ := p.lkd i d e
    obtain ⟨h3, h4⟩ := q.lkd i d h1
    exact ⟨h3, h4.trans h2⟩
theorem Post.sub (p : Post K S H σ E S' H' σ' E') : Same S' H' := p.ok.sub

/-- an outcome at the value v; H0 the heap ahead of it all -/
inductive ResOk (K : PySem.W.Frag) (S H H0 : Hp) (σ : St) (E : Env) (v : V) : Rs → Prop
  | sh {d : D} : Rep K S d v → ResOk K S H H0 σ E v (.sh d)
  | ow {d : D} {a : Addr} : v = .ref a → H0 a = none → S a = none → OwnAt K S (H a) d → ¬ Own σ E a → ResOk K S H H0 σ E v (.ow d)
  | pk {i : Nat} : σ[i]? = some (some v) → ResOk K S H H0 σ E v (.pk i)
theorem ResOk.mono {v : V} {r : Rs} {H0 : Hp} (h : ResOk K S H H0 σ E v r) (p : Post K S H σ E S' H' σ E') : ResOk K S' H' H0 σ E' v r := by
  cases h with
  | sh r => exact .sh (r.mono p.grow)
  | pk e => exact .pk e
  | ow e n s o w =>
    obtain ⟨x, ex⟩ := o.some
    have e2 := p.frame _ _ w ex
    refine .ow e n (p.keepS _ _ w ex s) (by rw [e2]; rw [ex] at o; exact o.mono p.grow) fun h => ?_
    rcases p.own _ h with z | z
    · exact w z
    · rw [ex] at z; cases z
theorem ResOk.from {v : V} {r : Rs} {H0 : Hp} (h : ResOk K S H H0 σ E v r) {H3 : Hp} (d : ∀ a, H0 a = none → H3 a = none) : ResOk K S H H3 σ E v r := by
  cases h with
  | sh r => exact .sh r
  | pk e => exact .pk e
  | ow e n s o w => exact .ow e (d _ n) s o w
theorem get_lt {i : Nat} {s : Sl} (h : E.get i = s) (n : s ≠ .un) : i < E.sl.length := by
  unfold Env.get at h
  by_cases hi : i < E.sl.length
  · exact hi
  · rw [List.getD_eq_getElem?_getD, List.getElem?_eq_none (by omega)] at h
    exact absurd h.symm n
theorem vw_ok {v : V} {r : Rs} {H0 : Hp} {d : D} (I : EnvOk K S H σ E) (h : ResOk K S H H0 σ E v r) (e : E.vw r = some d) : Vw K S H d v := by
  cases h with
  | sh r => cases e; exact .inl r
  | ow e1 n s o w => cases e; exact .inr ⟨_, e1, o⟩
  | @pk i es =>
    have e : E.rd i = some d := e
    unfold Env.rd at e
    cases g : E.get i with
    | un => rw [g] at e; cases e
    | sh d' =>
      rw [g] at e; cases e
      obtain ⟨v', e1, r⟩ := I.sh i d g
      rw [es] at e1; cases e1
      exact .inl r
    | ow d' =>
      rw [g] at e; cases e
      obtain ⟨a, e1, _, o⟩ := I.ow i d (.inl g)
      rw [es] at e1; cases e1
      exact .inr ⟨a, rfl, o⟩
    | lk d' =>
      rw [g] at e; cases e
      obtain ⟨a, e1, _, o⟩ := I.ow i d (.inr g)
      rw [es] at e1; cases e1
      exact .inr ⟨a, rfl, o⟩

/-! #### slots -/
theorem get_put_same {i : Nat} {s : Sl} (h : i < E.sl.length) : (E.put i s).get i = s := by
  simp [Env.get, Env.put, List.getD_eq_getElem?_getD, h]
theorem get_put_ne {i j : Nat} {s : Sl} (h : j ≠ i) : (E.put i s).get j = E.get j := by
  simp [Env.get, Env.put, List.getD_eq_getElem?_getD, List.getElem?_set_ne (Ne.symm h)]
theorem get_put {i j : Nat} {s : Sl} : (E.put i s).get j = if j = i ∧ i < E.sl.length then s else E.get j := by
  by_cases h : j = i
  · subst h
    by_cases hi : j < E.sl.length
    · rw [if_pos ⟨rfl, hi⟩, get_put_same hi]
    · rw [if_neg (by simp [hi])]
      simp [Env.get, Env.put, List.getD_eq_getElem?_getD, hi]
  · rw [if_neg (fun z => h z.1), get_put_ne h]
theorem put_len {i : Nat} {s : Sl} : (E.put i s).sl.length = E.sl.length := by simp [Env.put]
theorem put_ro {i : Nat} {s : Sl} : (E.put i s).ro = E.ro := rfl
theorem isOw_put_ne {i j : Nat} {s : Sl} (h : j ≠ i) : (E.put i s).isOw j ↔ E.isOw j := by
  unfold Env.isOw; rw [get_put_ne h]

/-- a slot's container lasts from now on -/
theorem froz {i : Nat} {d : D} {a : Addr} (I : EnvOk K S H σ E) (g : E.get i = .ow d) (es : σ[i]? = some (some (.ref a))) :
    ∃ S1, Post K S H σ E S1 H σ (E.put i (.sh d)) ∧ Rep K S1 d (.ref a) := by
  obtain ⟨a', e1, ns, o⟩ := I.ow i d (.inl g)
  rw [es] at e1; cases e1
  obtain ⟨x, ex⟩ := o.some
  have hi := get_lt g (by simp)
  have gr : Same S (upd S a x) := same_upd ns
  have rep : Rep K (upd S a x) d (.ref a) := OwnAt.rep (by rw [upd_same, ← ex]; exact o.mono gr)
  have owi : E.isOw i := ⟨d, .inl g⟩
  have ownI : Own σ E a := ⟨i, owi, es⟩
  have isow : ∀ j, (E.put i (.sh d)).isOw j → j ≠ i ∧ E.isOw j := fun j h => by
    have hj : j ≠ i := by
      rintro rfl
      obtain ⟨d', h⟩ := h
      rw [get_put_same hi] at h
      rcases h with h | h <;> cases h
    exact ⟨hj, (isOw_put_ne hj).mp h⟩
  refine ⟨upd S a x, ⟨⟨same_updL I.sub ex, by rw [put_len]; exact I.len, fun j d' h => ?_, fun j d' h => ?_, fun j k b hj hk => I.inj j k b (isow j hj).2 (isow k hk).2, fun j hj => ?_⟩, gr, fun _ _ _ e => e, fun b o n e s => ?_, fun _ e => e, fun b h => ?_, rfl, fun _ _ => rfl, fun j d' h => ?_⟩, rep⟩
  · by_cases hj : j = i
    · subst hj
      rw [get_put_same hi] at h; cases h
      exact ⟨_, es, rep⟩
    · rw [get_put_ne hj] at h
      obtain ⟨v, e, r⟩ := I.sh j d' h
      exact ⟨v, e, r.mono gr⟩
  · obtain ⟨hj, hw⟩ := isow j ⟨d', h⟩
    rw [get_put_ne hj] at h
    obtain ⟨b, e, n, o'⟩ := I.ow j d' h
    refine ⟨b, e, ?_, o'.mono gr⟩
    have : b ≠ a := by
      rintro rfl
      exact hj (I.inj j i b hw owi e es)
    rw [upd_ne this]; exact n
  · obtain ⟨b, e, h⟩ := I.ro j hj
    refine ⟨b, e, ?_⟩
    by_cases hji : j = i
    · subst hji
      rw [es] at e; cases e
      right; rw [upd_same]; simp
    · rcases h with h | h
      · exact .inl ((isOw_put_ne hji).mpr h)
      · right
        cases z : S b with
        | none => exact absurd z h
        | some y => rw [gr b y z]; simp
  · have hb : b ≠ a := by rintro rfl; exact n ownI
    rw [upd_ne hb]; exact s
  · obtain ⟨j, hj, e⟩ := h
    exact .inl ⟨j, (isow j hj).2, e⟩
  · have hj : j ≠ i := by rintro rfl; rw [g] at h; cases h
    rw [get_put_ne hj]; exact ⟨h, rfl⟩

theorem tk_ok {v : V} {r : Rs} {H0 : Hp} {d : D} (I : EnvOk K S H σ E) (h : ResOk K S H H0 σ E v r) (nf : ∀ d, r ≠ .ow d) (e : E.tk r = some (d, E1)) :
    ∃ S1, Post K S H σ E S1 H σ E1 ∧ Rep K S1 d v := by
  cases h with
  | sh r => cases e; exact ⟨S, .refl I, r⟩
  | ow => exact absurd rfl (nf _)
  | @pk i es =>
    cases g : E.get i with
    | un => simp only [Env.tk, g] at e; cases e
    | lk d' => simp only [Env.tk, g] at e; cases e
    | sh d' =>
      simp only [Env.tk, g] at e; cases e
      obtain ⟨v', e1, r⟩ := I.sh i d g
      rw [es] at e1; cases e1
      exact ⟨S, .refl I, r⟩
    | ow d' =>
      simp only [Env.tk, g] at e; cases e
      obtain ⟨a, e1, _, o⟩ := I.ow i d (.inl g)
      rw [es] at e1; cases e1
      exact froz I g es

/-- new things beside what there is -/
structure Ext (S H S' H' : Hp) : Prop where
  grow : Same S S'
  sub : Same S' H'
  ext : Same H H'
  keepS : ∀ a o, H a = some o → S a = none → S' a = none
theorem Ext.refl (h : Same S H) : Ext S H S H := ⟨.refl _, h, .refl _, fun _ _ _ e => e⟩
theorem Ext.trans (p : Ext S H S1 H1) (q : Ext S1 H1 S2 H2) : Ext S H S2 H2 :=
  ⟨p.grow.trans q.grow, q.sub, p.ext.trans q.ext, fun a o e n => q.keepS a o (p.ext a o e) (p.keepS a o e n)⟩
theorem own_some (I : EnvOk K S H σ E) {a : Addr} (h : Own σ E a) : ∃ o, H a = some o ∧ S a = none := by
  obtain ⟨i, ⟨d, hd⟩, e⟩ := h
  obtain ⟨b, e', n, o⟩ := I.ow i d hd
  rw [e] at e'; cases e'
  obtain ⟨x, ex⟩ := o.some
  exact ⟨x, ex, n⟩
theorem Ext.post (x : Ext S H S' H') (I : EnvOk K S H σ E) : Post K S H σ E S' H' σ E := by
  refine ⟨⟨x.sub, I.len, fun i d g => ?_, fun i d g => ?_, I.inj, fun i hi => ?_⟩, x.grow, fun a o _ e => x.ext a o e, fun a o _ e s => x.keepS a o e s, fun a e => x.ext.free e, fun a h => .inl h, rfl, fun _ _ => rfl, fun _ _ g => ⟨g, rfl⟩⟩
  · obtain ⟨v, e, r⟩ := I.sh i d g
    exact ⟨v, e, r.mono x.grow⟩
  · obtain ⟨a, e, n, o⟩ := I.ow i d g
    obtain ⟨y, ey⟩ := o.some
    refine ⟨a, e, x.keepS a y ey n, ?_⟩
    rw [x.ext a y ey]; rw [ey] at o; exact o.mono x.grow
  · obtain ⟨a, e, h⟩ := I.ro i hi
    refine ⟨a, e, h.imp id fun h => ?_⟩
    cases z : S a with
    | none => exact absurd z h
    | some y => rw [x.grow a y z]; simp
/-- an operation's outcome at v -/
inductive PRes (K : PySem.W.Frag) (S' H' H : Hp) (v : V) : PR → Prop
  | sc {d : D} : Rep K S' d v → PRes K S' H' H v (.sc d)
  | fr {d : D} {a : Addr} : v = .ref a → H a = none → S' a = none → OwnAt K S' (H' a) d → PRes K S' H' H v (.fr d)
theorem PRes.res {v : V} {p : PR} (h : PRes K S' H' H v p) (I : EnvOk K S H σ E) : ResOk K S' H' H σ E v p.rs := by
  cases h with
  | sc r => exact .sh r
  | fr e n s o =>
    refine .ow e n s o fun w => ?_
    obtain ⟨x, ex, _⟩ := own_some I w
    rw [n] at ex; cases ex
/-- a new container that lasts from now on -/
theorem Post.freeze (p : Post K S H σ E S1 H1 σ1 E1) {a : Addr} {d : D} (n : H a = none) (s : S1 a = none) (o : OwnAt K S1 (H1 a) d) (w : ¬ Own σ1 E1 a) :
    ∃ S2, Post K S H σ E S2 H1 σ1 E1 ∧ Rep K S2 d (.ref a) := by
  obtain ⟨x, ex⟩ := o.some
  have gr : Same S1 (upd S1 a x) := same_upd s
  refine ⟨upd S1 a x, ⟨⟨same_updL p.ok.sub ex, p.ok.len, fun i d g => ?_, fun i d g => ?_, p.ok.inj, fun i hi => ?_⟩, p.grow.trans gr, p.frame, fun b y hb e m => ?_, p.dom, p.own, p.roE, p.rof, p.lkd⟩, OwnAt.rep (by rw [upd_same, ← ex]; exact o.mono gr)⟩
  · obtain ⟨v, e, r⟩ := p.ok.sh i d g
    exact ⟨v, e, r.mono gr⟩
  · obtain ⟨b, e, m, o'⟩ := p.ok.ow i d g
    refine ⟨b, e, ?_, o'.mono gr⟩
    have : b ≠ a := by rintro rfl; exact w ⟨i, ⟨d, g⟩, e⟩
    rw [upd_ne this]; exact m
  · obtain ⟨b, e, h⟩ := p.ok.ro i hi
    refine ⟨b, e, h.imp id fun h => ?_⟩
    cases z : S1 b with
    | none => exact absurd z h
    | some y => rw [gr b y z]; simp
  · have : b ≠ a := by rintro rfl; rw [n] at e; cases e
    rw [upd_ne this]; exact p.keepS b y hb e m
theorem Post.fz (p : Post K S H σ E S1 H1 σ1 E1) {v : V} {r : Rs} (h : ResOk K S1 H1 H σ1 E1 v r) :
    ∃ S2, Post K S H σ E S2 H1 σ1 E1 ∧ ∀ H0, ResOk K S2 H1 H0 σ1 E1 v r.fz := by
  cases h with
  | sh r => exact ⟨S1, p, fun _ => .sh r⟩
  | pk e => exact ⟨S1, p, fun _ => .pk e⟩
  | ow e n s o w =>
    subst e
    obtain ⟨S2, p2, r⟩ := p.freeze n s o w
    exact ⟨S2, p2, fun _ => .sh r⟩
theorem fz_ne (r : Rs) : ∀ d, r.fz ≠ .ow d := by intro d; cases r <;> simp [Rs.fz]
theorem vw_fz {r : Rs} : E.vw r.fz = E.vw r := by cases r <;> rfl
theorem tk_fz {r : Rs} : E.tk r.fz = E.tk r := by cases r <;> rfl

/-! #### stores -/
theorem set_get {i j : Nat} {x : Option V} (hi : i < σ.length) : (σ.set i x)[j]? = if j = i then some x else σ[j]? := by
  by_cases h : j = i
  · subst h; rw [if_pos rfl, List.getElem?_set_self hi]
  · rw [if_neg h, List.getElem?_set_ne (Ne.symm h)]
theorem free_of {i : Nat} (h : E.free i = true) : i ∉ E.ro ∧ (∀ d, E.get i ≠ .lk d) ∧ i < E.sl.length := by
  unfold Env.free at h
  simp only [Bool.and_eq_true, Bool.not_eq_true', decide_eq_true_eq] at h
  obtain ⟨⟨h1, h2⟩, h3⟩ := h
  refine ⟨by simpa using h1, fun d g => ?_, h3⟩
  rw [g] at h2; cases h2
/-- what does not come to a slot's own container -/
theorem own_put {i : Nat} {s : Sl} {v : Option V} (hs : ∀ d, s ≠ .ow d ∧ s ≠ .lk d) (hi : i < E.sl.length) (I : EnvOk K S H σ E) {a : Addr} (h : Own (σ.set i v) (E.put i s) a) : Own σ E a ∧ ∃ j, j ≠ i ∧ E.isOw j ∧ σ[j]? = some (some (.ref a)) := by
  obtain ⟨j, ⟨d, hd⟩, e⟩ := h
  have hj : j ≠ i := by
    rintro rfl
    rw [get_put_same hi] at hd
    rcases hd with hd | hd
    · exact (hs d).1 hd
    · exact (hs d).2 hd
  rw [get_put_ne hj] at hd
  rw [List.getElem?_set_ne (Ne.symm hj)] at e
  exact ⟨⟨j, ⟨d, hd⟩, e⟩, j, hj, ⟨d, hd⟩, e⟩
theorem put_sh {i : Nat} {d : D} {v : V} (I : EnvOk K S H σ E) (hf : E.free i = true) (r : Rep K S d v) : Post K S H σ E S H (σ.set i (some v)) (E.put i (.sh d)) := by
  obtain ⟨f1, f2, f3⟩ := free_of hf
  have hi : i < σ.length := by rw [I.len]; exact f3
  have no : ∀ d', (Sl.sh d) ≠ .ow d' ∧ (Sl.sh d) ≠ .lk d' := fun _ => ⟨fun h => (nomatch h), fun h => (nomatch h)⟩
  have isow : ∀ j, (E.put i (.sh d)).isOw j → j ≠ i ∧ E.isOw j := fun j h => by
    have hj : j ≠ i := by
      rintro rfl
      obtain ⟨d', h⟩ := h
      rw [get_put_same f3] at h
      rcases h with h | h <;> cases h
    exact ⟨hj, (isOw_put_ne hj).mp h⟩
  refine ⟨⟨I.sub, by rw [put_len, List.length_set]; exact I.len, fun j d' g => ?_, fun j d' g => ?_, fun j k a hj hk ej ek => ?_, fun j hj => ?_⟩, .refl _, fun _ _ _ e => e, fun _ _ _ _ e => e, fun _ e => e, fun a h => .inl (own_put no f3 I h).1, rfl, fun j hj => ?_, fun j d' g => ?_⟩
  · by_cases hj : j = i
    · subst hj
      rw [get_put_same f3] at g; cases g
      exact ⟨v, by rw [List.getElem?_set_self hi], r⟩
    · rw [get_put_ne hj] at g
      rw [List.getElem?_set_ne (Ne.symm hj)]
      exact I.sh j d' g
  · obtain ⟨hj, _⟩ := isow j ⟨d', g⟩
    rw [get_put_ne hj] at g
    rw [List.getElem?_set_ne (Ne.symm hj)]
    exact I.ow j d' g
  · obtain ⟨nj, wj⟩ := isow j hj
    obtain ⟨nk, wk⟩ := isow k hk
    rw [List.getElem?_set_ne (Ne.symm nj)] at ej
    rw [List.getElem?_set_ne (Ne.symm nk)] at ek
    exact I.inj j k a wj wk ej ek
  · have hji : j ≠ i := by rintro rfl; exact f1 hj
    obtain ⟨a, e, h⟩ := I.ro j hj
    rw [List.getElem?_set_ne (Ne.symm hji)]
    exact ⟨a, e, h.imp (fun h => (isOw_put_ne hji).mpr h) id⟩
  · have hji : j ≠ i := by rintro rfl; exact f1 hj
    rw [List.getElem?_set_ne (Ne.symm hji)]
  · have hji : j ≠ i := by rintro rfl; exact f2 d' g
    rw [get_put_ne hji, List.getElem?_set_ne (Ne.symm hji)]
    exact ⟨g, rfl⟩
theorem Post.put_ow (p : Post K S H σ E S1 H1 σ1 E1) {i : Nat} {d : D} {a : Addr} (hf : E1.free i = true) (n : H a = none) (s : S1 a = none) (o : OwnAt K S1 (H1 a) d) (w : ¬ Own σ1 E1 a) :
    Post K S H σ E S1 H1 (σ1.set i (some (.ref a))) (E1.put i (.ow d)) := by
  obtain ⟨f1, f2, f3⟩ := free_of hf
  have I := p.ok
  have hi : i < σ1.length := by rw [I.len]; exact f3
  have isow : ∀ j, (E1.put i (.ow d)).isOw j → j ≠ i → E1.isOw j := fun j h hj => (isOw_put_ne hj).mp h
  have own' : ∀ b, Own (σ1.set i (some (.ref a))) (E1.put i (.ow d)) b → b = a ∨ Own σ1 E1 b := fun b h => by
    obtain ⟨j, hj, e⟩ := h
    by_cases hji : j = i
    · subst hji
      rw [List.getElem?_set_self hi] at e; cases e
      exact .inl rfl
    · rw [List.getElem?_set_ne (Ne.symm hji)] at e
      exact .inr ⟨j, isow j hj hji, e⟩
  refine ⟨⟨I.sub, by rw [put_len, List.length_set]; exact I.len, fun j d' g => ?_, fun j d' g => ?_, fun j k b hj hk ej ek => ?_, fun j hj => ?_⟩, p.grow, p.frame, p.keepS, p.dom, fun b h => ?_, p.roE, fun j hj => ?_, fun j d' g => ?_⟩
  · by_cases hj : j = i
    · subst hj
      rw [get_put_same f3] at g; cases g
    · rw [get_put_ne hj] at g
      rw [List.getElem?_set_ne (Ne.symm hj)]
      exact I.sh j d' g
  · by_cases hj : j = i
    · subst hj
      rw [get_put_same f3] at g
      rcases g with g | g <;> cases g
      exact ⟨a, by rw [List.getElem?_set_self hi], s, o⟩
    · rw [get_put_ne hj] at g
      rw [List.getElem?_set_ne (Ne.symm hj)]
      exact I.ow j d' g
  · by_cases hji : j = i
    · by_cases hki : k = i
      · rw [hji, hki]
      · subst hji
        rw [List.getElem?_set_self hi] at ej; cases ej
        rw [List.getElem?_set_ne (Ne.symm hki)] at ek
        exact absurd ⟨k, isow k hk hki, ek⟩ w
    · by_cases hki : k = i
      · subst hki
        rw [List.getElem?_set_self hi] at ek; cases ek
        rw [List.getElem?_set_ne (Ne.symm hji)] at ej
        exact absurd ⟨j, isow j hj hji, ej⟩ w
      · rw [List.getElem?_set_ne (Ne.symm hji)] at ej
        rw [List.getElem?_set_ne (Ne.symm hki)] at ek
        exact I.inj j k b (isow j hj hji) (isow k hk hki) ej ek
  · have hji : j ≠ i := by rintro rfl; exact f1 hj
    obtain ⟨b, e, h⟩ := I.ro j hj
    rw [List.getElem?_set_ne (Ne.symm hji)]
    exact ⟨b, e, h.imp (fun h => (isOw_put_ne hji).mpr h) id⟩
  · rcases own' b h with rfl | h
    · exact .inr n
    · exact p.own b h
  · have hji : j ≠ i := by rintro rfl; exact f1 (by rw [p.roE]; exact hj)
    rw [List.getElem?_set_ne (Ne.symm hji)]
    exact p.rof j hj
  · obtain ⟨g1, g2⟩ := p.lkd j d' g
    have hji : j ≠ i := by rintro rfl; exact f2 d' g1
    rw [get_put_ne hji, List.getElem?_set_ne (Ne.symm hji)]
    exact ⟨g1, g2⟩
/-- a slot's container is changed -/
theorem upd_ow {i : Nat} {c c' : D} {a : Addr} {o : HO} (I : EnvOk K S H σ E) (g : E.get i = .ow c) (es : σ[i]? = some (some (.ref a))) (h : OwnAt K S (some o) c') :
    Post K S H σ E S (upd H a o) σ (E.put i (.ow c')) := by
  have hi := get_lt g (by simp)
  obtain ⟨a', e1, ns, oa⟩ := I.ow i c (.inl g)
  rw [es] at e1; cases e1
  have owi : E.isOw i := ⟨c, .inl g⟩
  have isow : ∀ j, (E.put i (.ow c')).isOw j → E.isOw j := fun j h => by
    by_cases hj : j = i
    · subst hj; exact owi
    · exact (isOw_put_ne hj).mp h
  have nS : ∀ b x, S b = some x → b ≠ a := fun b x e => by rintro rfl; rw [ns] at e; cases e
  refine ⟨⟨fun b x e => by rw [upd_ne (nS b x e)]; exact I.sub b x e, by rw [put_len]; exact I.len, fun j d' g' => ?_, fun j d' g' => ?_, fun j k b hj hk => I.inj j k b (isow j hj) (isow k hk), fun j hj => ?_⟩, .refl _, fun b x n e => ?_, fun _ _ _ _ e => e, fun b e => ?_, fun b ⟨j, hj, e⟩ => .inl ⟨j, isow j hj, e⟩, rfl, fun _ _ => rfl, fun j d' g' => ?_⟩
  · have hj : j ≠ i := by rintro rfl; rw [get_put_same hi] at g'; cases g'
    rw [get_put_ne hj] at g'
    exact I.sh j d' g'
  · by_cases hj : j = i
    · subst hj
      rw [get_put_same hi] at g'
      rcases g' with g' | g' <;> cases g'
      exact ⟨a, es, ns, by rw [upd_same]; exact h⟩
    · rw [get_put_ne hj] at g'
      obtain ⟨b, e, m, o'⟩ := I.ow j d' g'
      have hb : b ≠ a := by rintro rfl; exact hj (I.inj j i b ⟨d', g'⟩ owi e es)
      exact ⟨b, e, m, by rw [upd_ne hb]; exact o'⟩
  · obtain ⟨b, e, h⟩ := I.ro j hj
    refine ⟨b, e, h.imp (fun h => ?_) id⟩
    by_cases hji : j = i
    · subst hji; exact ⟨c', .inl (get_put_same hi)⟩
    · exact (isOw_put_ne hji).mpr h
  · have hb : b ≠ a := by rintro rfl; exact n ⟨i, owi, es⟩
    rw [upd_ne hb]; exact e
  · by_cases hb : b = a
    · subst hb; rw [upd_same] at e; cases e
    · rw [upd_ne hb] at e; exact e
  · have hj : j ≠ i := by rintro rfl; rw [g] at g'; cases g'
    rw [get_put_ne hj]; exact ⟨g', rfl⟩
/-- a slot is locked -/
theorem put_lk {i : Nat} {d : D} (I : EnvOk K S H σ E) (g : E.get i = .ow d) : Post K S H σ E S H σ (E.put i (.lk d)) := by
  have hi := get_lt g (by simp)
  have owi : E.isOw i := ⟨d, .inl g⟩
  have isow : ∀ j, (E.put i (.lk d)).isOw j → E.isOw j := fun j h => by
    by_cases hj : j = i
    · subst hj; exact owi
    · exact (isOw_put_ne hj).mp h
  refine ⟨⟨I.sub, by rw [put_len]; exact I.len, fun j d' g' => ?_, fun j d' g' => ?_, fun j k b hj hk => I.inj j k b (isow j hj) (isow k hk), fun j hj => ?_⟩, .refl _, fun _ _ _ e => e, fun _ _ _ _ e => e, fun _ e => e, fun b ⟨j, hj, e⟩ => .inl ⟨j, isow j hj, e⟩, rfl, fun _ _ => rfl, fun j d' g' => ?_⟩
  · have hj : j ≠ i := by rintro rfl; rw [get_put_same hi] at g'; cases g'
    rw [get_put_ne hj] at g'
    exact I.sh j d' g'
  · by_cases hj : j = i
    · subst hj
      rw [get_put_same hi] at g'
      rcases g' with g' | g' <;> cases g'
      exact I.ow j _ (.inl g)
    · rw [get_put_ne hj] at g'
      exact I.ow j d' g'
  · obtain ⟨b, e, h⟩ := I.ro j hj
    refine ⟨b, e, h.imp (fun h => ?_) id⟩
    by_cases hji : j = i
    · subst hji; exact ⟨d, .inr (get_put_same hi)⟩
    · exact (isOw_put_ne hji).mpr h
  · have hj : j ≠ i := by rintro rfl; rw [g] at g'; cases g'
    rw [get_put_ne hj]; exact ⟨g', rfl⟩
/-- .. and unlocked, if it was not locked at the start -/
theorem Post.unlock (p : Post K S H σ E S1 H1 σ1 E1) {l : Option (Nat × Bool)} (hl : ∀ i, l = Option.some (i, true) → ∀ d, E.get i ≠ .lk d) : Post K S H σ E S1 H1 σ1 (unlock E1 l) := by
  cases l with
  | none => exact p
  | some ib =>
    obtain ⟨i, bb⟩ := ib
    cases bb with
    | false => exact p
    | true =>
      cases g : E1.get i with
      | un => rw [show Fi.unlock E1 (Option.some (i, true)) = E1 by simp only [Fi.unlock, g]]; exact p
      | sh _ => rw [show Fi.unlock E1 (Option.some (i, true)) = E1 by simp only [Fi.unlock, g]]; exact p
      | ow _ => rw [show Fi.unlock E1 (Option.some (i, true)) = E1 by simp only [Fi.unlock, g]]; exact p
      | lk d =>
        rw [show Fi.unlock E1 (Option.some (i, true)) = E1.put i (.ow d) by simp only [Fi.unlock, g]]
        have I := p.ok
        have hi := get_lt g (by simp)
        have owi : E1.isOw i := ⟨d, .inr g⟩
        have isow : ∀ j, (E1.put i (.ow d)).isOw j → E1.isOw j := fun j h => by
          by_cases hj : j = i
          · subst hj; exact owi
          · exact (isOw_put_ne hj).mp h
        refine ⟨⟨I.sub, by show _ = (E1.put i (.ow d)).sl.length; rw [put_len]; exact I.len, fun j d' g' => ?_, fun j d' g' => ?_, fun j k b hj hk => I.inj j k b (isow j hj) (isow k hk), fun j hj => ?_⟩, p.grow, p.frame, p.keepS, p.dom, fun b ⟨j, hj, e⟩ => p.own b ⟨j, isow j hj, e⟩, p.roE, p.rof, fun j d' g' => ?_⟩
        · have hj : j ≠ i := by rintro rfl; rw [get_put_same hi] at g'; cases g'
          rw [get_put_ne hj] at g'
          exact I.sh j d' g'
        · by_cases hj : j = i
          · subst hj
            rw [get_put_same hi] at g'
            rcases g' with g' | g' <;> cases g'
            exact I.ow j _ (.inr g)
          · rw [get_put_ne hj] at g'
            exact I.ow j d' g'
        · obtain ⟨b, e, h⟩ := I.ro j hj
          refine ⟨b, e, h.imp (fun h => ?_) id⟩
          by_cases hji : j = i
          · subst hji; exact ⟨d, .inl (get_put_same hi)⟩
          · exact (isOw_put_ne hji).mpr h
        · obtain ⟨g1, g2⟩ := p.lkd j d' g'
          have hj : j ≠ i := by rintro rfl; exact hl j rfl d' g'
          rw [get_put_ne hj]; exact ⟨g1, g2⟩
end
end Fi
end

section
/-! FiC: the operations by data are the operations of the machine. Own work. -/
namespace Fi
open PySem PySem.Spec PyProof.Rows L2
section
variable {K : PySem.W.Frag} {S H : Hp} {v : V}
theorem Vw.non (h : Vw K S H .non v) : v = .non := by
  rcases h with h | ⟨a, _, h⟩
  · cases h; rfl
  · generalize H a = o at h; cases h
theorem Vw.bl {b : Bool} (h : Vw K S H (.bl b) v) : v = .bl b := by
  rcases h with h | ⟨a, _, h⟩
  · cases h; rfl
  · generalize H a = o at h; cases h
theorem Vw.int {i : Int} (h : Vw K S H (.int i) v) : v = .int i := by
  rcases h with h | ⟨a, _, h⟩
  · cases h; rfl
  · generalize H a = o at h; cases h
theorem Vw.str {x : Txt} (h : Vw K S H (.str x) v) : v = .str (strOf x) := by
  rcases h with h | ⟨a, _, h⟩
  · cases h; rfl
  · generalize H a = o at h; cases h
theorem Vw.tup {ds : List D} (e : Same S H) (h : Vw K S H (.tup ds) v) : ∃ a vs, v = .ref a ∧ SqT K H a vs ∧ RepL K S ds vs := by
  rcases h with h | ⟨a, _, h⟩
  · cases h with
    | tup h r => exact ⟨_, _, rfl, sqT_mono e h, r⟩
  · generalize H a = o at h; cases h
theorem Vw.lst {ds : List D} (e : Same S H) (h : Vw K S H (.lst ds) v) : ∃ a vs, v = .ref a ∧ H a = some (.lst vs) ∧ RepL K S ds vs := by
  rcases h with h | ⟨a, rfl, h⟩
  · cases h with
    | lst h r => exact ⟨_, _, rfl, e _ _ h, r⟩
  · generalize q : H a = o at h
    cases h with
    | lst r => exact ⟨a, _, rfl, q, r⟩
theorem Vw.dK {kvs : List (DKey × D)} (e : Same S H) (h : Vw K S H (.dct false kvs) v) : ∃ a es, v = .ref a ∧ H a = some (.dK es) ∧ RepK K S kvs es := by
  rcases h with h | ⟨a, rfl, h⟩
  · cases h with
    | dK h r => exact ⟨_, _, rfl, e _ _ h, r⟩
  · generalize q : H a = o at h
    cases h with
    | dK r => exact ⟨a, _, rfl, q, r⟩
theorem Vw.dT {kvs : List (DKey × D)} (e : Same S H) (h : Vw K S H (.dct true kvs) v) : ∃ a es, v = .ref a ∧ H a = some (.dT es) ∧ RepT K S kvs es := by
  rcases h with h | ⟨a, rfl, h⟩
  · cases h with
    | dT h r => exact ⟨_, _, rfl, e _ _ h, r⟩
  · generalize q : H a = o at h
    cases h with
    | dT r => exact ⟨a, _, rfl, q, r⟩
theorem Vw.scr {ns : List Int} (e : Same S H) (h : Vw K S H (.scr ns) v) : ∃ a, v = .ref a ∧ SqL K H a (ns.map V.int) := by
  rcases h with h | ⟨a, _, h⟩
  · cases h with
    | scr h => exact ⟨_, rfl, e.seq h⟩
  · generalize H a = o at h; cases h
/-- a new container -/
theorem ext_new {p : Addr} {o : HO} (e : Same S H) (h : H p = none) : Ext S H S (upd H p o) :=
  ⟨.refl _, e.trans (same_upd h), same_upd h, fun _ _ _ n => n⟩
theorem new_fr {p : Addr} {o : HO} {d : D} (e : Same S H) (h : H p = none) (q : OwnAt K S (some o) d) : PRes K S (upd H p o) H (.ref p) (.fr d) :=
  .fr rfl h (same_none e h) (by rw [upd_same]; exact q)
/-- a new tuple, lasting -/
theorem ext_tup {p : Addr} {o : HO} (e : Same S H) (h : H p = none) : Ext S H (upd S p o) (upd H p o) :=
  ⟨same_upd (same_none e h), same_upd2 e, same_upd h, fun a x ex n => by
    have : a ≠ p := by rintro rfl; rw [h] at ex; cases ex
    rw [upd_ne this]; exact n⟩
theorem new_tup {p : Addr} {vs : List V} {ds : List D} (e : Same S H) (h : H p = none) (r : RepL K S ds vs) : Rep K (upd S p (.tup vs)) (.tup ds) (.ref p) :=
  .tup (.inl (.inl upd_same)) (r.mono (same_upd (same_none e h)))

mutual
theorem Rep.dp (e : Same S H) : ∀ {d : D} {v : V} {p : PyData}, Rep K S d v → d.py = some p → Dp K H v p
  | .non, _, _, .non, q => by cases q; exact .non
  | .bl b, _, _, .bl _, q => by cases q; exact .bl b
  | .int i, _, _, .int _, q => by cases q; exact .int i
  | .str x, _, _, .str _, q => by cases q; exact .str _
  | .tup xs, _, p, .tup h r, q => by
    unfold D.py at q
    cases z : D.pys xs with
    | none => rw [z] at q; cases q
    | some ps =>
      rw [z] at q; cases q
      exact .tup (sqT_mono e h) (RepL.dp e r z)
  | .lst xs, _, p, .lst h r, q => by
    unfold D.py at q
    cases z : D.pys xs with
    | none => rw [z] at q; cases q
    | some ps =>
      rw [z] at q; cases q
      exact .lst (.of (e _ _ h)) (RepL.dp e r z)
theorem RepL.dp (e : Same S H) : ∀ {ds : List D} {vs : List V} {ps : List PyData}, RepL K S ds vs → D.pys ds = some ps → DpAll K H vs ps
  | [], _, _, .nil, q => by cases q; exact .nil
  | d :: ds, _, ps, .cons h r, q => by
    unfold D.pys at q
    cases z : d.py with
    | none => rw [z] at q; cases q
    | some p =>
      cases y : D.pys ds with
      | none => rw [z, y] at q; cases q
      | some ps' =>
        rw [z, y] at q; cases q
        exact .cons (Rep.dp e h z) (RepL.dp e r y)
end
theorem Vw.dp {d : D} {p : PyData} (e : Same S H) (h : Vw K S H d v) (q : d.py = some p) : Dp K H v p := by
  rcases h with h | ⟨a, rfl, h⟩
  · exact h.dp e q
  · generalize z : H a = o at h
    cases h with
    | @lst vs ds r =>
      unfold D.py at q
      cases y : D.pys ds with
      | none => rw [y] at q; cases q
      | some ps => rw [y] at q; cases q; exact .lst (.of z) (RepL.dp e r y)
    | dK r => cases q
    | dT r => cases q
end

/-! ### two operands -/
def Prim2 (K : PySem.W.Frag) (r : R2) (f : D → D → Option PR) : Prop :=
  ∀ (S H : Hp) (x y : V) (dx dy : D) (p : PR) (Q : VK), Same S H → Vw K S H dx x → Vw K S H dy y → f dx dy = some p → (∀ v H' S', Ext S H S' H' → PRes K S' H' H v p → Q v H') → r x y H Q
theorem Prim2.l {K : PySem.W.Frag} {r r' : R2} {f : D → D → Option PR} (h : Prim2 K r f) : Prim2 K (fun x y H Q => r x y H Q ∨ r' x y H Q) f := fun S H x y dx dy p Q a b c d e => .inl (h S H x y dx dy p Q a b c d e)

section
variable {X : Cx}
theorem eqv_some {a b : D} {r : Bool} (h : a.eqv b = some r) : ∃ x y, a.py = some x ∧ b.py = some y ∧ min x.depth y.depth ≤ 64 ∧ r = PyData.eqv x y := by
  unfold D.eqv at h
  cases ha : a.py with
  | none => rw [ha] at h; cases h
  | some x =>
    cases hb : b.py with
    | none => rw [ha, hb] at h; cases h
    | some y =>
      rw [ha, hb] at h
      simp only at h
      split at h
      · rename_i q
        cases h
        exact ⟨x, y, rfl, rfl, q, rfl⟩
      · cases h
theorem inListD_some {a : D} {ys : List D} {r : Bool} (h : inListD a ys = some r) : ∃ x ps, a.py = some x ∧ D.pys ys = some ps ∧ x.depth ≤ 64 ∧ r = ps.any fun z => PyData.eqv z x := by
  unfold inListD at h
  cases ha : a.py with
  | none => rw [ha] at h; cases h
  | some x =>
    cases hb : D.pys ys with
    | none => rw [ha, hb] at h; cases h
    | some ps =>
      rw [ha, hb] at h
      simp only at h
      split at h
      · rename_i q
        cases h
        exact ⟨x, ps, rfl, rfl, q, rfl⟩
      · cases h
mutual
theorem py_plain : ∀ {d : D} {p : PyData}, d.py = some p → p.plain = true
  | .non, _, h => by cases h; rfl
  | .bl _, _, h => by cases h; rfl
  | .int _, _, h => by cases h; rfl
  | .str _, _, h => by cases h; rfl
  | .tup xs, _, h => by
    unfold D.py at h
    cases z : D.pys xs with
    | none => rw [z] at h; cases h
    | some ps => rw [z] at h; cases h; unfold PyData.plain; exact pys_plain z
  | .lst xs, _, h => by
    unfold D.py at h
    cases z : D.pys xs with
    | none => rw [z] at h; cases h
    | some ps => rw [z] at h; cases h; unfold PyData.plain; exact pys_plain z
theorem pys_plain : ∀ {ds : List D} {ps : List PyData}, D.pys ds = some ps → PyData.plainAll ps = true
  | [], _, h => by cases h; rfl
  | d :: ds, _, h => by
    unfold D.pys at h
    cases z : d.py with
    | none => rw [z] at h; cases h
    | some p =>
      cases y : D.pys ds with
      | none => rw [z, y] at h; cases h
      | some qs =>
        rw [z, y] at h; cases h
        unfold PyData.plainAll
        rw [py_plain z, pys_plain y]; rfl
end
def rEqP (K : PySem.W.Frag) (neg : Bool) : R2 := fun x y H Q => ∃ d e, Dp K H x d ∧ Dp K H y e ∧ d.plain = true ∧ e.plain = true ∧ min d.depth e.depth ≤ 64 ∧ Q (.bl (if neg then !PyData.eqv d e else PyData.eqv d e)) H
theorem op_eqP (hu : X.A.units + 66 < cLine) : OpR X (compareOp .Eq) (rEqP X.K false) := by
  intro pins s σ H x y v u Q I rx ry ⟨d, e, hd, he, pd, pe, sm, q⟩
  obtain ⟨as, r1⟩ := Dp.reads I d x v hd rx
  obtain ⟨bs, r2⟩ := Dp.reads I e y u he ry
  exact PySem.SeqAt.eq_plain r1 r2 pd pe (by omega) ⟨.bl _, H, I, rfl, q⟩
theorem op_neP (hu : X.A.units + 66 < cLine) : OpR X (compareOp .NotEq) (rEqP X.K true) := by
  intro pins s σ H x y v u Q I rx ry ⟨d, e, hd, he, pd, pe, sm, q⟩
  obtain ⟨as, r1⟩ := Dp.reads I d x v hd rx
  obtain ⟨bs, r2⟩ := Dp.reads I e y u he ry
  exact PySem.SeqAt.ne_plain r1 r2 pd pe (by omega) ⟨.bl _, H, I, rfl, q⟩
def rInP (K : PySem.W.Frag) (neg : Bool) : R2 := fun x y H Q => ∃ d ds, Dp K H x d ∧ (Dp K H y (.list ds) ∨ Dp K H y (.tuple ds)) ∧ d.plain = true ∧ PyData.plainAll ds = true ∧ d.depth ≤ 64 ∧ Q (.bl (if neg then !(ds.any fun z => PyData.eqv z d) else ds.any fun z => PyData.eqv z d)) H
theorem op_inP (hu : X.A.units + 66 < cLine) : OpR X (compareOp .In) (rInP X.K false) := by
  intro pins s σ H x y v u Q I rx ry ⟨d, ds, hd, he, pd, pe, sm, q⟩
  obtain ⟨as, r1⟩ := Dp.reads I d x v hd rx
  have m : X.A.units + 1 + min (PyData.depthAll ds) d.depth < cLine := by have := Nat.min_le_right (PyData.depthAll ds) d.depth; omega
  rcases he with he | he
  · obtain ⟨bs, r2⟩ := Dp.reads I _ y u he ry
    exact PySem.SeqAt.in_list_data r2 r1 pe pd m ⟨.bl _, H, I, rfl, q⟩
  · obtain ⟨bs, r2⟩ := Dp.reads I _ y u he ry
    exact PySem.SeqAt.in_tuple_data r2 r1 pe pd m ⟨.bl _, H, I, rfl, q⟩
theorem op_ninP (hu : X.A.units + 66 < cLine) : OpR X (compareOp .NotIn) (rInP X.K true) := by
  intro pins s σ H x y v u Q I rx ry ⟨d, ds, hd, he, pd, pe, sm, q⟩
  obtain ⟨as, r1⟩ := Dp.reads I d x v hd rx
  have m : X.A.units + 1 + min (PyData.depthAll ds) d.depth < cLine := by have := Nat.min_le_right (PyData.depthAll ds) d.depth; omega
  rcases he with he | he
  · obtain ⟨bs, r2⟩ := Dp.reads I _ y u he ry
    exact PySem.SeqAt.notIn_list_data r2 r1 pe pd m ⟨.bl _, H, I, rfl, q⟩
  · obtain ⟨bs, r2⟩ := Dp.reads I _ y u he ry
    exact PySem.SeqAt.notIn_tuple_data r2 r1 pe pd m ⟨.bl _, H, I, rfl, q⟩
theorem flat_rep {K : PySem.W.Frag} {S : Hp} {d : D} {v : V} (f : flatD d = true) (h : Rep K S d v) : flatV v = true := by
  cases h <;> first | rfl | cases f
theorem flat_eq {K : PySem.W.Frag} {S : Hp} {d e : D} {v u : V} (f : flatD d = true) (g : flatD e = true) (h : Rep K S d v) (h' : Rep K S e u) : eqV v u = eqF d e := by
  cases h <;> first | (cases f; done) | skip
  all_goals (cases h' <;> first | (cases g; done) | rfl | skip)
  rename_i x y
  show (strOf x == strOf y) = (x == y)
  rw [Bool.eq_iff_iff, beq_iff_eq, beq_iff_eq, strOf_inj]
theorem flat_all {K : PySem.W.Frag} {S : Hp} {ds : List D} {vs : List V} (f : ds.all flatD = true) (h : RepL K S ds vs) : vs.all flatV = true := by
  induction ds generalizing vs with
  | nil => cases h; rfl
  | cons d ds ih =>
    cases h with
    | cons h r =>
      simp only [List.all_cons, Bool.and_eq_true] at f ⊢
      exact ⟨flat_rep f.1 h, ih f.2 r⟩
theorem flat_any {K : PySem.W.Frag} {S : Hp} {a : D} {u : V} {ds : List D} {vs : List V} (fa : flatD a = true) (ha : Rep K S a u) (f : ds.all flatD = true) (h : RepL K S ds vs) : inV u vs = ds.any fun z => eqF z a := by
  induction ds generalizing vs with
  | nil => cases h; rfl
  | cons d ds ih =>
    cases h with
    | cons h r =>
      simp only [List.all_cons, Bool.and_eq_true] at f
      show (eqV _ u || inV u _) = _
      rw [flat_eq f.1 fa h ha, ih f.2 r]; rfl
theorem vw_flat {K : PySem.W.Frag} {S H : Hp} {d : D} {v : V} (f : flatD d = true) (h : Vw K S H d v) : Rep K S d v := by
  rcases h with h | ⟨a, _, h⟩
  · exact h
  · generalize H a = o at h; cases h <;> cases f

theorem vw_tup {K : PySem.W.Frag} {S H : Hp} {ds : List D} {v : V} (h : Vw K S H (.tup ds) v) : Rep K S (.tup ds) v := by
  rcases h with h | ⟨a, _, h⟩
  · exact h
  · generalize H a = o at h; cases h

/-! a dict's keys -/
theorem toKey_inj {j k : DKey} {a : Key} (h : j.toKey = some a) (g : k.toKey = some a) : j = k := by
  cases j <;> cases k <;> simp [DKey.toKey] at h g <;> subst h <;> simp_all [strOf_inj]
theorem key_rep {K : PySem.W.Frag} {S H : Hp} {d : D} {v : V} {k : DKey} (h : Vw K S H d v) (e : d.key = some k) (o : k.ok false = true) : ∃ j, k.toKey = some j ∧ v = kV j := by
  cases d <;> simp only [D.key] at e <;> try (cases e; done)
  · cases e; exact ⟨_, rfl, h.int⟩
  · cases e; exact ⟨_, rfl, h.str⟩
  · rename_i xs
    cases z : flatKs xs with
    | none => rw [z] at e; cases e
    | some y => rw [z] at e; cases e; cases o
theorem get_rep {K : PySem.W.Frag} {S : Hp} {kvs : List (DKey × D)} {es : List (Key × V)} {k : DKey} {j : Key} (r : RepK K S kvs es) (hj : k.toKey = some j) :
    (∀ d, kget k kvs = some d → ∃ v, valV es j = some v ∧ Rep K S d v) ∧ (kget k kvs = none → valV es j = none) := by
  induction kvs generalizing es with
  | nil => cases r; exact ⟨fun d h => (nomatch h), fun _ => rfl⟩
  | cons x kvs ih =>
    cases r with
    | @cons k' j' d v _ vs hk hd r =>
      obtain ⟨i1, i2⟩ := ih r
      by_cases e : k = k'
      · subst e
        rw [hj] at hk; cases hk
        have e1 : kget k ((k, d) :: kvs) = some d := by simp [kget]
        have e2 : valV ((j, v) :: vs) j = some v := by simp [valV]
        exact ⟨fun d' h => by rw [e1] at h; cases h; exact ⟨v, e2, hd⟩, fun h => (by rw [e1] at h; cases h)⟩
      · have ej : j' ≠ j := by rintro rfl; exact e (toKey_inj hj hk)
        have e1 : kget k ((k', d) :: kvs) = kget k kvs := by
          simp only [kget, List.lookup_cons]
          rw [show (k == k') = false by simpa using e]
        have e2 : valV ((j', v) :: vs) j = valV vs j := by simp [valV, List.find?_cons, ej]
        rw [e1, e2]
        exact ⟨i1, i2⟩
theorem put_rep {K : PySem.W.Frag} {S : Hp} {kvs : List (DKey × D)} {es : List (Key × V)} {k : DKey} {j : Key} {d : D} {v : V} (r : RepK K S kvs es) (hj : k.toKey = some j) (hd : Rep K S d v) :
    RepK K S (kput k d kvs) (putK es j v) := by
  have any : ∀ (kvs : List (DKey × D)) (es : List (Key × V)), RepK K S kvs es → (kvs.any fun kv => decide (kv.1 = k)) = (es.any fun kv => decide (kv.1 = j)) := by
    intro kvs
    induction kvs with
    | nil => intro es r; cases r; rfl
    | cons x kvs ih =>
      intro es r
      cases r with
      | @cons k' j' d' v' _ vs hk hd' r =>
        simp only [List.any_cons, ih vs r]
        congr 1
        rw [Bool.eq_iff_iff, decide_eq_true_eq, decide_eq_true_eq]
        constructor
        · intro (e : k' = k); subst e; rw [hj] at hk; cases hk; rfl
        · intro (e : j' = j); subst e; exact toKey_inj hk hj
  have map : ∀ (kvs : List (DKey × D)) (es : List (Key × V)), RepK K S kvs es → RepK K S (kvs.map (fun kv => if kv.1 = k then (kv.1, d) else kv)) (es.map (fun kv => if kv.1 = j then (kv.1, v) else kv)) := by
    intro kvs
    induction kvs with
    | nil => intro es r; cases r; exact .nil
    | cons x kvs ih =>
      intro es r
      cases r with
      | @cons k' j' d' v' _ vs hk hd' r =>
        simp only [List.map_cons]
        by_cases e : k' = k
        · subst e
          rw [hj] at hk; cases hk
          simp only [if_true]
          exact .cons hj hd (ih vs r)
        · have ej : j' ≠ j := by rintro rfl; exact e (toKey_inj hk hj)
          simp only [e, ej, if_false]
          exact .cons hk hd' (ih vs r)
  have app : ∀ (kvs : List (DKey × D)) (es : List (Key × V)), RepK K S kvs es → RepK K S (kvs ++ [(k, d)]) (es ++ [(j, v)]) := by
    intro kvs
    induction kvs with
    | nil => intro es r; cases r; exact .cons hj hd .nil
    | cons x kvs ih => intro es r; cases r with | cons a b r => exact .cons a b (ih _ r)
  unfold kput putK
  rw [any kvs es r]
  split
  · exact map kvs es r
  · exact app kvs es r
theorem repK_len {K : PySem.W.Frag} {S : Hp} {kvs : List (DKey × D)} {es : List (Key × V)} (r : RepK K S kvs es) : kvs.length = es.length := by
  induction kvs generalizing es with
  | nil => cases r; rfl
  | cons x kvs ih => cases r with | cons a b r => simp [ih r]

/-! ### the operators -/
theorem sc_of {K : PySem.W.Frag} {S H : Hp} {d : D} {v : V} {Q : VK} (e : Same S H) (q : ∀ v H' S', Ext S H S' H' → PRes K S' H' H v (.sc d) → Q v H') (r : Rep K S d v) : Q v H := q v H S (.refl e) (.sc r)
def rAddA (K : PySem.W.Frag) : R2 := fun x y H Q => rI0 (fun i j => .int (i + j)) x y H Q ∨ (∃ i j, x = .str i ∧ y = .str j ∧ i.length + j.length ≤ sizeLine ∧ Q (.str (i ++ j)) H) ∨ rCat x y H Q ∨ rCatA K x y H Q
theorem op_addA : OpR X (binaryOp .Add) (rAddA X.K) := op_add.or (op_add_str.or (op_cat.or op_catA))
theorem strOf_append (x y : Txt) : strOf x ++ strOf y = strOf (x ++ y) := by
  show Str.mk _ = _
  unfold strOf
  congr 1
  simp
theorem prim_add : Prim2 X.K (rAddA X.K) addD := by
  intro S H x y dx dy p Q e hx hy hp q
  unfold addD at hp
  split at hp
  · cases hp
    exact .inl ⟨_, _, hx.int, hy.int, sc_of e q (.int _)⟩
  · split at hp
    · rename_i hl
      cases hp
      refine .inr (.inl ⟨_, _, hx.str, hy.str, ?_, ?_⟩)
      · rw [strOf_length, strOf_length, ← big_eq]; exact hl
      · rw [strOf_append]; exact sc_of e q (.str _)
    · cases hp
  · split at hp
    · rename_i hl
      cases hp
      obtain ⟨a, xs, rfl, ha, ra⟩ := hx.lst e
      obtain ⟨b, ys, rfl, hb, rb⟩ := hy.lst e
      refine .inr (.inr (.inl ⟨a, b, xs, ys, rfl, rfl, ha, hb, ?_, fun p hp => q _ _ S (ext_new e hp) (new_fr e hp (.lst (ra.append rb)))⟩))
      rw [← ra.length, ← rb.length, ← big_eq]; exact hl
    · cases hp
  · split at hp
    · rename_i hl
      cases hp
      obtain ⟨a, xs, ea, ha, ra⟩ := hx.tup e
      obtain ⟨b, ys, eb, hb, rb⟩ := hy.tup e
      refine .inr (.inr (.inr ⟨a, b, xs, ys, ea, eb, ha, hb, ?_, fun hx0 => ?_, fun hx0 hy0 => ?_, fun _ _ p hp => q _ _ _ (ext_tup e hp) (.sc (new_tup e hp (ra.append rb)))⟩))
      · rw [← ra.length, ← rb.length, ← big_eq]; exact hl
      · subst hx0
        cases ra
        rw [← eb]
        exact sc_of e q (vw_tup hy)
      · subst hy0
        cases rb
        rw [← ea, List.append_nil] at *
        exact sc_of e q (vw_tup hx)
    · cases hp
  · cases hp
/-- two ints -/
theorem prim_I {f : Int → Int → D} {g : Int → Int → V} {h : D → D → Option PR} (hg : ∀ K S i j, Rep K S (f i j) (g i j)) (hh : ∀ a b p, h a b = some p → ∃ i j, a = .int i ∧ b = .int j ∧ p = .sc (f i j)) {K : PySem.W.Frag} : Prim2 K (rI0 g) h := by
  intro S H x y dx dy p Q e hx hy hp q
  obtain ⟨i, j, rfl, rfl, rfl⟩ := hh _ _ _ hp
  exact ⟨i, j, hx.int, hy.int, sc_of e q (hg _ _ _ _)⟩
theorem prim_IC {C : Int → Int → Prop} {f : Int → Int → D} {g : Int → Int → V} {h : D → D → Option PR} (hg : ∀ K S i j, Rep K S (f i j) (g i j)) (hh : ∀ a b p, h a b = some p → ∃ i j, a = .int i ∧ b = .int j ∧ C i j ∧ p = .sc (f i j)) {K : PySem.W.Frag} : Prim2 K (rI C g) h := by
  intro S H x y dx dy p Q e hx hy hp q
  obtain ⟨i, j, rfl, rfl, c, rfl⟩ := hh _ _ _ hp
  exact ⟨i, j, hx.int, hy.int, c, sc_of e q (hg _ _ _ _)⟩
theorem prim_sub {K : PySem.W.Frag} : Prim2 K (rI0 fun i j => .int (i - j)) subD := prim_I (f := fun i j => .int (i - j)) (fun _ _ _ _ => .int _) fun a b p h => by
  unfold subD at h
  split at h
  · cases h; exact ⟨_, _, rfl, rfl, rfl⟩
  · cases h
theorem prim_mul {K : PySem.W.Frag} : Prim2 K (rI CMul fun i j => .int (i * j)) mulD := prim_IC (f := fun i j => .int (i * j)) (fun _ _ _ _ => .int _) fun a b p h => by
  unfold mulD at h
  split at h
  · split at h
    · cases h; exact ⟨_, _, rfl, rfl, by assumption, rfl⟩
    · cases h
  · cases h
theorem prim_fdiv {K : PySem.W.Frag} : Prim2 K (rI CDivN fun i j => .int (i.fdiv j)) fdivD := prim_IC (f := fun i j => .int (i.fdiv j)) (fun _ _ _ _ => .int _) fun a b p h => by
  unfold fdivD at h
  split at h
  · split at h
    · cases h; exact ⟨_, _, rfl, rfl, by assumption, rfl⟩
    · cases h
  · cases h
theorem prim_mod {K : PySem.W.Frag} : Prim2 K (rI (fun _ j => j ≠ 0) fun i j => .int (i.fmod j)) modD := prim_IC (f := fun i j => .int (i.fmod j)) (fun _ _ _ _ => .int _) fun a b p h => by
  unfold modD at h
  split at h
  · split at h
    · cases h; exact ⟨_, _, rfl, rfl, by assumption, rfl⟩
    · cases h
  · cases h
theorem prim_pow {K : PySem.W.Frag} : Prim2 K (rI CPow fun i j => .int (i ^ j.toNat)) powD := prim_IC (f := fun i j => .int (i ^ j.toNat)) (fun _ _ _ _ => .int _) fun a b p h => by
  unfold powD at h
  split at h
  · split at h
    · cases h; exact ⟨_, _, rfl, rfl, by assumption, rfl⟩
    · cases h
  · cases h
def rOrd (K : PySem.W.Frag) (f : PyData → PyData → Bool) : R2 := fun x y H Q => ∃ d e, Dp K H x d ∧ Dp K H y e ∧ PySem.W.alike d e = true ∧ d ≠ .none ∧ min d.depth e.depth ≤ 64 ∧ Q (.bl (f d e)) H
theorem op_ltA (hu : X.A.units + 66 < cLine) : OpR X (compareOp .Lt) (fun x y H Q => rI0 (fun i j => .bl (decide (i < j))) x y H Q ∨ rOrd X.K (fun x y => PySem.W.dataLt x y) x y H Q) := op_lt.or (by
  intro pins s σ H x y v u Q I rx ry ⟨d, e, hd, he, al, nn, sm, q⟩
  obtain ⟨as, r1⟩ := Dp.reads I d x v hd rx
  obtain ⟨bs, r2⟩ := Dp.reads I e y u he ry
  exact PySem.W.lt_data r1 r2 al nn (by omega) ⟨.bl _, H, I, rfl, q⟩)
theorem op_leA (hu : X.A.units + 66 < cLine) : OpR X (compareOp .LtE) (fun x y H Q => rI0 (fun i j => .bl (decide (i ≤ j))) x y H Q ∨ rOrd X.K (fun x y => !PySem.W.dataLt y x) x y H Q) := op_le.or (by
  intro pins s σ H x y v u Q I rx ry ⟨d, e, hd, he, al, nn, sm, q⟩
  obtain ⟨as, r1⟩ := Dp.reads I d x v hd rx
  obtain ⟨bs, r2⟩ := Dp.reads I e y u he ry
  exact PySem.W.le_data r1 r2 al nn (by omega) ⟨.bl _, H, I, rfl, q⟩)
theorem op_gtA (hu : X.A.units + 66 < cLine) : OpR X (compareOp .Gt) (fun x y H Q => rI0 (fun i j => .bl (decide (j < i))) x y H Q ∨ rOrd X.K (fun x y => PySem.W.dataLt y x) x y H Q) := op_gt.or (by
  intro pins s σ H x y v u Q I rx ry ⟨d, e, hd, he, al, nn, sm, q⟩
  obtain ⟨as, r1⟩ := Dp.reads I d x v hd rx
  obtain ⟨bs, r2⟩ := Dp.reads I e y u he ry
  exact PySem.W.gt_data r1 r2 al nn (by omega) ⟨.bl _, H, I, rfl, q⟩)
theorem op_geA (hu : X.A.units + 66 < cLine) : OpR X (compareOp .GtE) (fun x y H Q => rI0 (fun i j => .bl (decide (j ≤ i))) x y H Q ∨ rOrd X.K (fun x y => !PySem.W.dataLt x y) x y H Q) := op_ge.or (by
  intro pins s σ H x y v u Q I rx ry ⟨d, e, hd, he, al, nn, sm, q⟩
  obtain ⟨as, r1⟩ := Dp.reads I d x v hd rx
  obtain ⟨bs, r2⟩ := Dp.reads I e y u he ry
  exact PySem.W.ge_data r1 r2 al nn (by omega) ⟨.bl _, H, I, rfl, q⟩)
theorem prim_cmp {K : PySem.W.Frag} (c : Int → Int → Bool) (f : PyData → PyData → Bool) : Prim2 K (fun x y H Q => rI0 (fun i j => .bl (c i j)) x y H Q ∨ rOrd K f x y H Q) (cmpA c f) := by
  intro S H x y dx dy p Q e hx hy hp q
  unfold cmpA at hp
  split at hp
  · cases hp
    exact .inl ⟨_, _, hx.int, hy.int, sc_of e q (.bl _)⟩
  · unfold ordD at hp
    split at hp
    · rename_i a b pa pb
      split at hp
      · rename_i c
        cases hp
        exact .inr ⟨a, b, hx.dp e pa, hy.dp e pb, c.1, (fun z => by have := c.2.1; rw [z] at this; cases this), c.2.2, sc_of e q (.bl _)⟩
      · cases hp
    · cases hp
theorem prim_eq : Prim2 X.K (rEqP X.K false) (op2D .eq) := by
  intro S H x y dx dy p Q e hx hy hp q
  simp only [op2D, Option.map_eq_some_iff] at hp
  obtain ⟨r, hr, rfl⟩ := hp
  obtain ⟨a, b, pa, pb, sm, rfl⟩ := eqv_some hr
  exact ⟨a, b, hx.dp e pa, hy.dp e pb, py_plain pa, py_plain pb, sm, sc_of e q (.bl _)⟩
theorem prim_ne : Prim2 X.K (rEqP X.K true) (op2D .ne) := by
  intro S H x y dx dy p Q e hx hy hp q
  simp only [op2D, Option.map_eq_some_iff] at hp
  obtain ⟨r, hr, rfl⟩ := hp
  obtain ⟨a, b, pa, pb, sm, rfl⟩ := eqv_some hr
  exact ⟨a, b, hx.dp e pa, hy.dp e pb, py_plain pa, py_plain pb, sm, sc_of e q (.bl _)⟩
theorem vw_non_iff {K : PySem.W.Frag} {S H : Hp} {d : D} {v : V} (h : Vw K S H d v) : decide (v = .non) = d.isNon := by
  rcases h with h | ⟨a, rfl, h⟩
  · cases h <;> rfl
  · generalize H a = o at h; cases h <;> rfl
theorem prim_is {K : PySem.W.Frag} : Prim2 K (fun x y H Q => y = .non ∧ Q (.bl (decide (x = .non))) H) (op2D .is) := by
  intro S H x y dx dy p Q e hx hy hp q
  simp only [op2D] at hp
  unfold isD at hp
  split at hp
  · cases hp
    refine ⟨hy.non, ?_⟩
    rw [vw_non_iff hx]
    exact sc_of e q (.bl _)
  · cases hp
theorem prim_isn {K : PySem.W.Frag} : Prim2 K (fun x y H Q => y = .non ∧ Q (.bl (!decide (x = .non))) H) (op2D .isn) := by
  intro S H x y dx dy p Q e hx hy hp q
  simp only [op2D] at hp
  unfold isD at hp
  split at hp
  · cases hp
    refine ⟨hy.non, ?_⟩
    rw [vw_non_iff hx]
    exact sc_of e q (.bl _)
  · cases hp
/-- in, not in -/
def rInA (K : PySem.W.Frag) (neg : Bool) : R2 := fun x y H Q =>
  (∃ i j, x = .str i ∧ y = .str j ∧ Q (.bl (if neg then !(!(Builtin.Str.occurrences j i 0 j.length 1).isEmpty) else !(Builtin.Str.occurrences j i 0 j.length 1).isEmpty)) H) ∨ rInP K neg x y H Q
theorem op_inA (hu : X.A.units + 66 < cLine) : OpR X (compareOp .In) (rInA X.K false) := op_in_str.or (op_inP hu)
theorem op_ninA (hu : X.A.units + 66 < cLine) : OpR X (compareOp .NotIn) (rInA X.K true) := L2.op_notIn_str.or (op_ninP hu)
def notDct : D → Bool
  | .dct _ _ => false
  | _ => true
theorem prim_in (neg : Bool) {S H : Hp} {x y : V} {dx dy : D} {r : Bool} {Q : VK} (e : Same S H) (hx : Vw X.K S H dx x) (hy : Vw X.K S H dy y) (hp : inD dx dy = some r) (nd : notDct dy = true)
    (q : ∀ v H' S', Ext S H S' H' → PRes X.K S' H' H v (.sc (.bl (if neg then !r else r))) → Q v H') : rInA X.K neg x y H Q := by
  unfold inD at hp
  split at hp
  · rename_i z
    split at hp
    · rename_i c
      cases hp
      refine .inl ⟨_, _, hx.str, hy.str, ?_⟩
      have h := StrLaws.found_one (strOf z) c
      rw [strOf_cps] at h
      have h' : (!(Builtin.Str.occurrences (strOf z) (strOf [c]) 0 (strOf z).length 1).isEmpty) = decide (c ∈ z) := h
      rw [h']
      exact sc_of e q (.bl _)
    · cases hp
  · rename_i ys
    obtain ⟨a, ps, pa, pb, sm, rfl⟩ := inListD_some hp
    exact .inr ⟨a, ps, hx.dp e pa, .inl (hy.dp e (by unfold D.py; rw [pb]; rfl)), py_plain pa, pys_plain pb, sm, sc_of e q (.bl _)⟩
  · rename_i ys
    obtain ⟨a, ps, pa, pb, sm, rfl⟩ := inListD_some hp
    exact .inr ⟨a, ps, hx.dp e pa, .inr (hy.dp e (by unfold D.py; rw [pb]; rfl)), py_plain pa, pys_plain pb, sm, sc_of e q (.bl _)⟩
  · cases nd
  · cases hp

/-! ### places, slices -/
theorem ix_eq (n : Nat) (i : Int) : ix n i = ixN n i := rfl
theorem cut_eq {α : Type} (xs : List α) (lo hi : Option Int) : cut xs lo hi = (xs.drop (HT.sIx xs.length 0 lo)).take (HT.sIx xs.length xs.length hi - HT.sIx xs.length 0 lo) := by
  have e : ∀ n d o, cutAt n d o = HT.sIx n d o := fun n d o => by cases o <;> rfl
  unfold cut
  rw [e, e]
theorem RepL.cut {K : PySem.W.Frag} {S : Hp} {ds : List D} {vs : List V} (h : RepL K S ds vs) (lo hi : Option Int) : RepL K S (Fi.cut ds lo hi) (cutV vs lo hi) := by
  rw [cut_eq]
  unfold cutV
  rw [h.length]
  exact (h.drop _).take _
theorem prim_ix {S H : Hp} {x y : V} {dx dy : D} {p : PR} {Q : VK} (e : Same S H) (hx : Vw X.K S H dx x) (hy : Vw X.K S H dy y) (hp : ixD dx dy = some p) (nd : notDct dx = true)
    (q : ∀ v H' S', Ext S H S' H' → PRes X.K S' H' H v p → Q v H') : rIx X.K x y H Q := by
  unfold ixD at hp
  have at_ : ∀ {ds : List D} {vs : List V} {i : Int} {p : PR}, RepL X.K S ds vs → ((ix ds.length i).bind fun j => ds[j]?.map PR.sc) = some p → ∃ d v, p = .sc d ∧ atI vs i = some v ∧ Rep X.K S d v := by
    intro ds vs i p r h
    cases z : ix ds.length i with
    | none => rw [z] at h; cases h
    | some j =>
      rw [z] at h
      simp only [Option.bind_some, Option.map_eq_some_iff] at h
      obtain ⟨d, hd, rfl⟩ := h
      obtain ⟨v, hv, rv⟩ := r.get hd
      refine ⟨d, v, rfl, ?_, rv⟩
      unfold atI
      rw [← r.length, ← ix_eq, z]
      exact hv
  split at hp
  · obtain ⟨a, vs, rfl, ha, r⟩ := hx.lst e
    obtain ⟨d, v, rfl, hv, rv⟩ := at_ r hp
    exact .inl ⟨a, vs, _, v, rfl, hy.int, .of ha, hv, sc_of e q rv⟩
  · obtain ⟨a, vs, rfl, ha, r⟩ := hx.tup e
    obtain ⟨d, v, rfl, hv, rv⟩ := at_ r hp
    exact .inr (.inl ⟨a, vs, _, v, rfl, hy.int, ha, hv, sc_of e q rv⟩)
  · rename_i ns i
    obtain ⟨a, rfl, ha⟩ := hx.scr e
    cases z : ix ns.length i with
    | none => rw [z] at hp; cases hp
    | some j =>
      rw [z] at hp
      simp only [Option.bind_some, Option.map_eq_some_iff] at hp
      obtain ⟨n, hn, rfl⟩ := hp
      refine .inl ⟨a, _, i, .int n, rfl, hy.int, ha, ?_, sc_of e q (.int n)⟩
      unfold atI
      rw [List.length_map, ← ix_eq, z]
      show (ns.map V.int)[j]? = _
      rw [List.getElem?_map, hn]; rfl
  · rename_i xs i
    split at hp
    · rename_i hl
      cases z : ix xs.length i with
      | none => rw [z] at hp; cases hp
      | some j =>
        rw [z] at hp
        simp only [Option.bind_some, Option.map_eq_some_iff] at hp
        obtain ⟨c, hc, rfl⟩ := hp
        refine .inr (.inr ⟨strOf xs, i, c, hx.str, hy.int, ?_, ?_, sc_of e q (.str [c])⟩)
        · rw [strOf_length, ← big_eq]; exact hl
        · rw [strOf_cps]
          unfold atI
          rw [← ix_eq, z]
          exact hc
    · cases hp
  · cases nd
  · cases hp
def rSlX (K : PySem.W.Frag) : V → Option Int → Option Int → Hp → VK → Prop := fun x lo hi H Q => rSlL K x lo hi H Q ∨ rSlA K x lo hi H Q ∨ rSlS x lo hi H Q
theorem sl_any : SlR X (rSlX X.K) := sl_list.or (sl_tupA.or sl_str)
theorem whole_cut (vs : List V) (lo hi : Option Int) (h : HT.sIx vs.length 0 lo = 0 ∧ HT.sIx vs.length vs.length hi = vs.length) : cutV vs lo hi = vs := by
  unfold cutV
  rw [h.1, h.2]
  simp
theorem whole_cutD {ds : List D} {vs : List V} (hl : ds.length = vs.length) (lo hi : Option Int) (h : HT.sIx vs.length 0 lo = 0 ∧ HT.sIx vs.length vs.length hi = vs.length) : cut ds lo hi = ds := by
  rw [cut_eq, hl, h.1, h.2]
  simp [← hl]
theorem prim_cut {S H : Hp} {x : V} {dx : D} {lo hi : Option Int} {p : PR} {Q : VK} (e : Same S H) (hx : Vw X.K S H dx x) (hp : cutD dx lo hi = some p)
    (q : ∀ v H' S', Ext S H S' H' → PRes X.K S' H' H v p → Q v H') : rSlX X.K x lo hi H Q := by
  unfold cutD at hp
  split at hp
  · cases hp
    obtain ⟨a, vs, rfl, ha, r⟩ := hx.lst e
    exact .inl ⟨a, vs, rfl, .of ha, fun p hp => q _ _ S (ext_new e hp) (new_fr e hp (.lst (r.cut lo hi)))⟩
  · cases hp
    obtain ⟨a, vs, ea, ha, r⟩ := hx.tup e
    refine .inr (.inl ⟨a, vs, ea, ha, fun w => ?_, fun _ p hp => q _ _ _ (ext_tup e hp) (.sc (new_tup e hp (r.cut lo hi)))⟩)
    rw [whole_cutD r.length lo hi w] at q
    rw [← ea]
    exact sc_of e q (vw_tup hx)
  · split at hp
    · rename_i xs hl
      cases hp
      refine .inr (.inr ⟨strOf xs, hx.str, ?_, ?_⟩)
      · rw [strOf_length, ← big_eq]; exact hl
      · have : cutS (strOf xs) lo hi = strOf (cut xs lo hi) := by
          rw [cut_eq]
          unfold cutS
          rw [strOf_cps, strOf_length]; rfl
        rw [this]
        exact sc_of e q (.str _)
    · cases hp
  · cases hp

/-! ### truth, built-ins -/
theorem vw_truth {S H : Hp} {x : V} {d : D} {k : Bool} (e : Same S H) (hx : Vw X.K S H d x) (h : d.truth = some k) : TruV X.K x H k := by
  cases d <;> simp only [D.truth] at h <;> try (cases h; done)
  · cases h; rw [hx.non]; exact rfl
  · cases h; rw [hx.bl]; exact rfl
  · cases h; rw [hx.int]; exact rfl
  · rename_i xs
    split at h
    · rename_i hl
      cases h
      rw [hx.str]
      refine ⟨by rw [strOf_length, ← big_eq]; exact hl, ?_⟩
      rw [strOf_length]
      cases xs with
      | nil => rfl
      | cons a r => simp; omega
    · cases h
  · cases h
    obtain ⟨a, vs, rfl, ha, r⟩ := hx.tup e
    refine .inr (.inl ⟨vs, ha, ?_⟩)
    cases r <;> rfl
  · cases h
    obtain ⟨a, vs, rfl, ha, r⟩ := hx.lst e
    refine .inl ⟨vs, .of ha, ?_⟩
    cases r <;> rfl
  · rename_i t kvs
    cases t with
    | true => simp only [D.truth] at h; cases h
    | false =>
      simp only [D.truth] at h; cases h
      obtain ⟨a, es, rfl, ha, r⟩ := hx.dK e
      refine .inr (.inr ⟨es, ha, ?_⟩)
      cases r <;> rfl
inductive VwL (K : PySem.W.Frag) (S H : Hp) : List D → List V → Prop
  | nil : VwL K S H [] []
  | cons {d : D} {v : V} {ds : List D} {vs : List V} : Vw K S H d v → VwL K S H ds vs → VwL K S H (d :: ds) (v :: vs)
def PrimC (K : PySem.W.Frag) (r : List V → Hp → VK → Prop) (f : List D → Option PR) : Prop :=
  ∀ (S H : Hp) (vs : List V) (ds : List D) (p : PR) (Q : VK), Same S H → VwL K S H ds vs → f ds = some p → (∀ v H' S', Ext S H S' H' → PRes K S' H' H v p → Q v H') → r vs H Q
def rLen (K : PySem.W.Frag) : List V → Hp → VK → Prop := fun xs H Q => (∃ x n, xs = [x] ∧ LenV K x H n ∧ Q (.int n) H) ∨ (∃ a kvs, xs = [V.ref a] ∧ H a = some (.dK kvs) ∧ Q (.int kvs.length) H)
theorem cr_len : CallR X (.builtin "len") (rLen X.K) := call_len.or call_lenD
theorem prim_len : PrimC X.K (rLen X.K) lenB := by
  intro S H vs ds p Q e hv hp q
  unfold lenB at hp
  split at hp
  · rename_i d
    cases hv with
    | cons hd hr =>
      cases hr
      simp only [Option.map_eq_some_iff] at hp
      obtain ⟨n, hn, rfl⟩ := hp
      cases d <;> simp only [D.len] at hn <;> try (cases hn; done)
      · split at hn
        · rename_i xs hl
          cases hn
          refine .inl ⟨_, _, rfl, ?_, sc_of e q (.int _)⟩
          rw [hd.str]
          exact ⟨by rw [strOf_length, ← big_eq]; exact hl, by rw [strOf_length]⟩
        · cases hn
      · cases hn
        obtain ⟨a, us, rfl, ha, r⟩ := hd.tup e
        exact .inl ⟨_, _, rfl, .inr ⟨us, ha, r.length⟩, sc_of e q (.int _)⟩
      · cases hn
        obtain ⟨a, us, rfl, ha, r⟩ := hd.lst e
        exact .inl ⟨_, _, rfl, .inl ⟨us, .of ha, r.length⟩, sc_of e q (.int _)⟩
      · rename_i t kvs
        cases t with
        | true => simp only [D.len] at hn; cases hn
        | false =>
          simp only [D.len] at hn; cases hn
          obtain ⟨a, es, rfl, ha, r⟩ := hd.dK e
          refine .inr ⟨a, es, rfl, ha, ?_⟩
          rw [← repK_len r]
          exact sc_of e q (.int _)
      · rename_i ns
        cases hn
        obtain ⟨a, rfl, ha⟩ := hd.scr e
        exact .inl ⟨_, _, rfl, .inl ⟨_, ha, (List.length_map _).symm⟩, sc_of e q (.int _)⟩
  · cases hp
theorem vwl1 {K : PySem.W.Frag} {S H : Hp} {d : D} {vs : List V} (h : VwL K S H [d] vs) : ∃ v, vs = [v] ∧ Vw K S H d v := by
  cases h with | cons a r => cases r; exact ⟨_, rfl, a⟩
theorem vwl2 {K : PySem.W.Frag} {S H : Hp} {d e : D} {vs : List V} (h : VwL K S H [d, e] vs) : ∃ v u, vs = [v, u] ∧ Vw K S H d v ∧ Vw K S H e u := by
  cases h with | cons a r => cases r with | cons b r => cases r; exact ⟨_, _, rfl, a, b⟩
theorem prim_abs : PrimC X.K (fun xs H Q => ∃ i, xs = [.int i] ∧ Q (.int (if i < 0 then -i else i)) H) absB := by
  intro S H vs ds p Q e hv hp q
  unfold absB at hp
  split at hp
  · cases hp
    obtain ⟨v, rfl, h⟩ := vwl1 hv
    exact ⟨_, by rw [h.int], sc_of e q (.int _)⟩
  · cases hp
theorem prim_int : PrimC X.K (fun xs H Q => (∃ i, xs = [.int i] ∧ Q (.int i) H) ∨ ∃ k, xs = [.bl k] ∧ Q (.int (if k then 1 else 0)) H) intB := by
  intro S H vs ds p Q e hv hp q
  unfold intB at hp
  split at hp
  · cases hp
    obtain ⟨v, rfl, h⟩ := vwl1 hv
    exact .inl ⟨_, by rw [h.int], sc_of e q (.int _)⟩
  · cases hp
theorem prim_tuple : PrimC X.K (fun xs H Q => ∃ p ys, xs = [.ref p] ∧ ((SqL X.K H p ys ∧ ∀ l, H l = none → Q (.ref l) (upd H l (.tup ys))) ∨ (SqT X.K H p ys ∧ Q (.ref p) H))) tupleB := by
  intro S H vs ds p Q e hv hp q
  unfold tupleB at hp
  split at hp
  · cases hp
    obtain ⟨v, rfl, h⟩ := vwl1 hv
    obtain ⟨a, us, rfl, ha, r⟩ := h.lst e
    exact ⟨a, us, rfl, .inl ⟨.of ha, fun p hp => q _ _ _ (ext_tup e hp) (.sc (new_tup e hp r))⟩⟩
  · cases hp
    obtain ⟨v, rfl, h⟩ := vwl1 hv
    obtain ⟨a, us, ea, ha, r⟩ := h.tup e
    refine ⟨a, us, by rw [ea], .inr ⟨ha, ?_⟩⟩
    rw [← ea]
    exact sc_of e q (vw_tup h)
  · cases hp
theorem prim_list : PrimC X.K (fun xs H Q => ∃ p ys, xs = [.ref p] ∧ (SqL X.K H p ys ∨ SqT X.K H p ys) ∧ ∀ l, H l = none → Q (.ref l) (upd H l (.lst ys))) listB := by
  intro S H vs ds p Q e hv hp q
  unfold listB at hp
  split at hp
  · cases hp
    obtain ⟨v, rfl, h⟩ := vwl1 hv
    obtain ⟨a, us, rfl, ha, r⟩ := h.lst e
    exact ⟨a, us, rfl, .inl (.of ha), fun p hp => q _ _ S (ext_new e hp) (new_fr e hp (.lst r))⟩
  · cases hp
    obtain ⟨v, rfl, h⟩ := vwl1 hv
    obtain ⟨a, us, rfl, ha, r⟩ := h.tup e
    exact ⟨a, us, rfl, .inr ha, fun p hp => q _ _ S (ext_new e hp) (new_fr e hp (.lst r))⟩
  · cases hp
theorem bls_rep {K : PySem.W.Frag} {S : Hp} : ∀ {ds : List D} {vs : List V} {bs : List Bool}, RepL K S ds vs → bls ds = some bs → vs = bs.map V.bl
  | [], _, _, .nil, h => by cases h; rfl
  | d :: ds, _, bs, .cons hd r, h => by
    unfold bls at h
    split at h
    · rename_i heq; cases heq
    · rename_i b r' heq
      cases heq
      simp only [Option.map_eq_some_iff] at h
      obtain ⟨bs', h', rfl⟩ := h
      rw [bls_rep r h']
      cases hd; rfl
    · cases h
theorem prim_any : PrimC X.K (rAny X.K) anyB := by
  intro S H vs ds p Q e hv hp q
  unfold anyB at hp
  split at hp
  · simp only [Option.map_eq_some_iff] at hp
    obtain ⟨bs, hb, rfl⟩ := hp
    obtain ⟨v, rfl, h⟩ := vwl1 hv
    obtain ⟨a, us, rfl, ha, r⟩ := h.lst e
    have := bls_rep r hb
    subst this
    exact ⟨a, bs, rfl, .of ha, sc_of e q (.bl _)⟩
  · cases hp
theorem prim_all : PrimC X.K (rAll X.K) allB := by
  intro S H vs ds p Q e hv hp q
  unfold allB at hp
  split at hp
  · simp only [Option.map_eq_some_iff] at hp
    obtain ⟨bs, hb, rfl⟩ := hp
    obtain ⟨v, rfl, h⟩ := vwl1 hv
    obtain ⟨a, us, rfl, ha, r⟩ := h.lst e
    have := bls_rep r hb
    subst this
    exact ⟨a, bs, rfl, .of ha, sc_of e q (.bl _)⟩
  · cases hp
theorem kit_all : (["NoneType", "bool", "int", "str", "tuple", "list", "dict"].all fun a => tyNames.all fun b => kitB a b == some (tySub a b)) = true := by decide +kernel
theorem ty_of {S H : Hp} {d : D} {v : V} {a : String} (e : Same S H) (h : Vw X.K S H d v) (n : d.tyName = some a) : TyX X.K H v (.type a) := by
  cases d <;> simp only [D.tyName] at n <;> try (cases n; done)
  · cases n; rw [h.non]; exact .base .non
  · cases n; rw [h.bl]; exact .base (.bl _)
  · cases n; rw [h.int]; exact .base (.int _)
  · cases n; rw [h.str]; exact .base (.str _)
  · cases n
    obtain ⟨a, us, rfl, ha, r⟩ := h.tup e
    rcases ha with (ha | ⟨o, ha⟩) | ⟨o, its, m, ha, hc, _⟩
    · exact .base (.tup ha)
    · exact .fTuple ha
    · exact .kTuple ha hc
  · cases n
    obtain ⟨a, us, rfl, ha, r⟩ := h.lst e
    exact .base (.lst ha)
  · rename_i t kvs
    cases n
    cases t with
    | false => obtain ⟨a, es, rfl, ha, r⟩ := h.dK e; exact .base (.dK ha)
    | true => obtain ⟨a, es, rfl, ha, r⟩ := h.dT e; exact .base (.dT ha)
theorem tyName_in {d : D} {a : String} (h : d.tyName = some a) : a ∈ ["NoneType", "bool", "int", "str", "tuple", "list", "dict"] := by
  cases d <;> simp only [D.tyName] at h <;> first | (cases h; done) | (cases h; simp)
theorem vw_ty {K : PySem.W.Frag} {S H : Hp} {v : V} {n : String} (h : Vw K S H (.ty n) v) : v = .ty n := by
  rcases h with h | ⟨a, _, h⟩
  · cases h; rfl
  · generalize H a = o at h; cases h
theorem prim_isinst : PrimC X.K (rIsi X.K) isinstB := by
  intro S H vs ds p Q e hv hp q
  unfold isinstB at hp
  split at hp
  · rename_i d b
    split at hp
    · rename_i hb
      simp only [Option.map_eq_some_iff] at hp
      obtain ⟨a, ha, rfl⟩ := hp
      obtain ⟨v, u, rfl, h, hu⟩ := vwl2 hv
      rw [vw_ty hu]
      have ka := kit_all
      rw [List.all_eq_true] at ka
      have kb := ka a (tyName_in ha)
      rw [List.all_eq_true] at kb
      have kc := kb b (by simpa using hb)
      rw [beq_iff_eq] at kc
      exact ⟨v, .ty b, _, _, _, rfl, .ty b, ty_of e h ha, kit_ty kc, sc_of e q (.bl _)⟩
    · cases hp
  · cases hp
/-! ### methods that change nothing -/
theorem txts_rep {K : PySem.W.Frag} {S : Hp} : ∀ {ds : List D} {vs : List V} {xs : List Txt}, RepL K S ds vs → txts ds = some xs → vs = xs.map fun x => V.str (strOf x)
  | [], _, _, .nil, h => by cases h; rfl
  | d :: ds, _, bs, .cons hd r, h => by
    unfold txts at h
    split at h
    · rename_i heq; cases heq
    · rename_i b r' heq
      cases heq
      simp only [Option.map_eq_some_iff] at h
      obtain ⟨bs', h', rfl⟩ := h
      rw [txts_rep r h']
      cases hd; rfl
    · cases h
theorem joinT_eq (s : Txt) : ∀ ts, joinT s ts = TL.joinL s ts
  | [] => rfl
  | [_] => rfl
  | p :: q :: r => by
    show p ++ (s ++ joinT s (q :: r)) = p ++ (s ++ TL.joinL s (q :: r))
    rw [joinT_eq s (q :: r)]
def rJoin (K : PySem.W.Frag) : V → List V → Hp → VK → Prop := fun x xs H Q => ∃ a p, ∃ ys : List Str, x = .str a ∧ xs = [.ref p] ∧ (SqL K H p (ys.map V.str) ∨ SqT K H p (ys.map V.str)) ∧
    (ys.map (·.length)).sum + ys.length * a.length ≤ 16777216 ∧ Q (.str (Txt.join a ys)) H
theorem cr_join : MtR X "str.join" (rJoin X.K) := mt_join
theorem prim_join {S H : Hp} {x : V} {vs : List V} {d : D} {ds : List D} {p : PR} {Q : VK} (e : Same S H) (hx : Vw X.K S H d x) (hv : VwL X.K S H ds vs) (hp : joinB d ds = some p)
    (q : ∀ v H' S', Ext S H S' H' → PRes X.K S' H' H v p → Q v H') : rJoin X.K x vs H Q ∧ tyV X.K "str" x H := by
  have fin : ∀ {s : Txt} {ts : List Txt}, (ts.map List.length).sum + ts.length * s.length ≤ bigLine → p = .sc (.str (joinT s ts)) → ((ts.map strOf).map (·.length)).sum + (ts.map strOf).length * (strOf s).length ≤ 16777216 ∧ Q (.str (Txt.join (strOf s) (ts.map strOf))) H := by
    intro s ts hl hp
    subst hp
    refine ⟨?_, ?_⟩
    · rw [List.map_map, List.length_map, strOf_length, show ((fun x : Str => x.length) ∘ strOf) = List.length by funext z; exact strOf_length z]; exact hl
    · have := SX.join_S s ts
      rw [show ts.map strOf = ts.map SX.S from rfl, show Txt.join (strOf s) (ts.map SX.S) = SX.S (TL.joinL s ts) from this, ← joinT_eq]
      exact sc_of e q (.str _)
  unfold joinB at hp
  split at hp
  · simp only [Option.bind_eq_some_iff] at hp
    obtain ⟨ts, ht, hp⟩ := hp
    split at hp
    · rename_i hl
      cases hp
      obtain ⟨v, rfl, h⟩ := vwl1 hv
      obtain ⟨a, us, rfl, ha, r⟩ := h.lst e
      have := txts_rep r ht
      subst this
      rw [hx.str]
      obtain ⟨f1, f2⟩ := fin hl rfl
      exact ⟨⟨_, a, _, rfl, rfl, .inl (.of (by rw [List.map_map]; exact ha)), f1, f2⟩, rfl⟩
    · cases hp
  · simp only [Option.bind_eq_some_iff] at hp
    obtain ⟨ts, ht, hp⟩ := hp
    split at hp
    · rename_i hl
      cases hp
      obtain ⟨v, rfl, h⟩ := vwl1 hv
      obtain ⟨a, us, rfl, ha, r⟩ := h.tup e
      have := txts_rep r ht
      subst this
      rw [hx.str]
      obtain ⟨f1, f2⟩ := fin hl rfl
      exact ⟨⟨_, a, _, rfl, rfl, .inr (by rw [List.map_map]; exact ha), f1, f2⟩, rfl⟩
    · cases hp
  · cases hp
end
end Fi
end

section
/-! FiCs: lists sorted. Own work. -/
namespace Fi
open PySem PySem.Spec L2
open PySem.W (EachIs AllAlike Sortable)
/-- sorted(xs): xs a list that reads as data that can be sorted -/
def rSortD (K : PySem.W.Frag) : List V → Hp → VK → Prop := fun vs H Q => ∃ (a : Addr) (zs : List (V × PyData)), vs = [V.ref a] ∧ SqL K H a (zs.map Prod.fst) ∧ DpAll K H (zs.map Prod.fst) (zs.map Prod.snd) ∧
  AllAlike (zs.map Prod.snd) ∧ Sortable (zs.map Prod.snd) ∧ (∀ z ∈ zs, z.2.depth ≤ 64) ∧
  ∀ p, H p = none → Q (.ref p) (upd H p (.lst ((zs.mergeSort (PySem.W.dataLe false Prod.snd)).map Prod.fst)))
theorem each_of_vals : ∀ {zs : List (V × PyData)} {us : List Value}, Vals (zs.map Prod.fst) us → EachIs (fun u (z : V × PyData) => RelV z.1 u) us zs
  | [], _, .nil => .nil
  | _ :: _, _, .cons h r => .cons h (each_of_vals r)
theorem vals_of_each : ∀ {us : List Value} {zs : List (V × PyData)}, EachIs (fun u (z : V × PyData) => RelV z.1 u) us zs → Vals (zs.map Prod.fst) us
  | _, _, .nil => .nil
  | _, _, .cons h r => .cons h (vals_of_each r)
section
variable {X : Cx}
theorem each_reads {pins : List (Addr × Obj)} {σ : L2.St} {H : Hp} {s : Shared} (I : Inv X pins σ H s) : ∀ {zs : List (V × PyData)} {us : List Value}, Vals (zs.map Prod.fst) us → DpAll X.K H (zs.map Prod.fst) (zs.map Prod.snd) →
    EachIs (fun u (z : V × PyData) => ∃ as, Reads s.heap u z.2 as) us zs
  | [], _, .nil, _ => .nil
  | _ :: _, _, .cons h r, .cons d ds => .cons (Dp.reads I _ _ _ d h) (each_reads I r ds)
theorem cr_sortD (hu : X.A.units + 67 < cLine) : CallR X (.builtin "sorted") (rSortD X.K) := by
  intro pins s σ H vs us Q I r h
  obtain ⟨a, zs, rfl, hl, hd, hal, hs, hdep, q⟩ := h
  rw [Vals.ref1 r]
  obtain ⟨its, rv, pl, hz⟩ := I.list hl
  rw [List.length_map] at hz
  refine PySem.W.sorted_data pl.isList (each_of_vals rv) (each_reads I rv hd) hal hs hz (fun z hz => by have := hdep z hz; omega) fun out hlen eo => ?_
  obtain ⟨ep, he⟩ := PyProof.Rows.sortedAll_at s.heap its out.toArray
  have hz2 : ((zs.mergeSort (PySem.W.dataLe false Prod.snd)).map Prod.fst).length ≤ sizeLine := by rw [List.length_map, List.length_mergeSort]; exact hz
  exact ⟨.ref _, upd H (s.heap.objs.size + 1) (.lst ((zs.mergeSort (PySem.W.dataLe false Prod.snd)).map Prod.fst)), I.laid (t' := s.toks) (fun _ _ => PyProof.Rows.sortedAll_old) (Nat.le_succ _) ⟨hz2, out, ep, vals_of_each eo, he⟩, rfl, q _ (I.hok.fresh (Nat.le_succ _))⟩
theorem sortOk_alike {ps : List PyData} (h : sortOk ps = true) : AllAlike ps ∧ Sortable ps ∧ ∀ p ∈ ps, p.depth ≤ 64 := by
  unfold sortOk at h
  simp only [Bool.and_eq_true, Bool.or_eq_true, List.all_eq_true, decide_eq_true_eq] at h
  obtain ⟨⟨h1, h2⟩, h3⟩ := h
  refine ⟨fun a ha b hb => h1 a ha b hb, ?_, h3⟩
  rcases h2 with h2 | h2
  · refine .inl fun d hd => ?_
    have := h2 d hd
    cases d <;> simp only [tupHead] at this <;> try (cases this; done)
    rename_i xs
    cases xs with
    | nil => cases this
    | cons x r => exact ⟨x, r, rfl⟩
  · refine .inr fun d hd => ?_
    have := h2 d hd
    cases d <;> simp only [plainKey] at this <;> first | (cases this; done) | exact ⟨fun e => (nomatch e), fun _ e => (nomatch e)⟩
theorem pys_map : ∀ {ds : List D} {ps : List PyData}, D.pys ds = some ps → ps = ds.map encD
  | [], _, h => by cases h; rfl
  | d :: ds, _, h => by
    unfold D.pys at h
    split at h
    · rename_i a b ha hb
      cases h
      rw [pys_map hb]
      simp only [List.map_cons, encD, ha, Option.getD_some]
    · cases h
theorem sort_rows {K : PySem.W.Frag} {S H : Hp} {xs : List D} {us : List V} {p : PR} (e : Same S H) (r : RepL K S xs us) (hp : sortC xs = some p) : ∃ zs : List (V × PyData), us = zs.map Prod.fst ∧ DpAll K H (zs.map Prod.fst) (zs.map Prod.snd) ∧
    AllAlike (zs.map Prod.snd) ∧ Sortable (zs.map Prod.snd) ∧ (∀ z ∈ zs, z.2.depth ≤ 64) ∧ p = .fr (.lst (xs.mergeSort leD)) ∧ RepL K S (xs.mergeSort leD) ((zs.mergeSort (PySem.W.dataLe false Prod.snd)).map Prod.fst) := by
  unfold sortC at hp
  simp only [Option.bind_eq_some_iff] at hp
  obtain ⟨ps, hps, hp⟩ := hp
  split at hp
  · rename_i ok
    cases hp
    obtain ⟨h1, h2, h3⟩ := sortOk_alike ok
    have dp := RepL.dp e r hps
    have hm := pys_map hps
    subst hm
    -- the rows side by side
    have rows : ∀ {xs : List D} {us : List V}, RepL K S xs us → ∃ zs : List (D × V), xs = zs.map Prod.fst ∧ us = zs.map Prod.snd ∧ ∀ z ∈ zs, Rep K S z.1 z.2 := by
      intro xs
      induction xs with
      | nil => intro us r; cases r; exact ⟨[], rfl, rfl, fun z hz => by simp at hz⟩
      | cons x xs ih =>
        intro us r
        cases r with
        | @cons _ v _ vs h r =>
          obtain ⟨zs, e1, e2, e3⟩ := ih r
          refine ⟨(x, v) :: zs, by rw [e1]; rfl, by rw [e2]; rfl, fun z hz => ?_⟩
          rcases List.mem_cons.mp hz with rfl | hz
          · exact h
          · exact e3 z hz
    obtain ⟨zs, rfl, rfl, rr⟩ := rows r
    have e1 : zs.map Prod.snd = (zs.map fun z => (z.2, encD z.1)).map Prod.fst := by rw [List.map_map]; rfl
    have e2 : (zs.map Prod.fst).map encD = (zs.map fun z => (z.2, encD z.1)).map Prod.snd := by rw [List.map_map, List.map_map]; rfl
    refine ⟨zs.map fun z => (z.2, encD z.1), e1, by rw [← e1, ← e2]; exact dp, by rw [← e2]; exact h1, by rw [← e2]; exact h2, fun z hz => h3 _ (by rw [e2]; exact List.mem_map_of_mem hz), rfl, ?_⟩
    have m1 : (zs.map Prod.fst).mergeSort leD = (zs.mergeSort fun x y => leD x.1 y.1).map Prod.fst := (List.map_mergeSort (f := Prod.fst) (fun _ _ _ _ => rfl)).symm
    have m2 : (zs.map fun z => (z.2, encD z.1)).mergeSort (PySem.W.dataLe false Prod.snd) = (zs.mergeSort fun x y => leD x.1 y.1).map fun z => (z.2, encD z.1) := (List.map_mergeSort (f := fun (z : D × V) => (z.2, encD z.1)) (fun _ _ _ _ => rfl)).symm
    have rl : ∀ (l : List (D × V)), (∀ z ∈ l, Rep K S z.1 z.2) → RepL K S (l.map Prod.fst) (l.map Prod.snd) := by
      intro l
      induction l with
      | nil => intro _; exact .nil
      | cons z l ih => intro h; exact .cons (h z (by simp)) (ih fun y hy => h y (by simp [hy]))
    rw [m2, List.map_map, m1]
    exact rl (zs.mergeSort fun x y => leD x.1 y.1) fun z hz => rr z (List.mem_mergeSort.mp hz)
  · cases hp
end
end Fi
end

section
set_option maxRecDepth 100000
/-! FiSet: sorted(set(texts)). Own work. -/
namespace Fi
open PySem PySem.Spec PyProof.Rows L2
def txOf (e : Int × Value) : Str := match e.2 with
  | .str x _ => x
  | _ => Str.empty
/-- a set of texts as the walk over it needs it -/
structure TxSet (w : World) (h : Heap) (a : Addr) (L : List Str) : Prop where
  ex : ∃ (ob : Obj) (rows : Array (Int × Value)) (n : Nat) (tb : SetTable), h.get? a = some ob ∧ ob.ExactSet ∧ ob.data = .set rows n tb ∧ tb.fits rows.size = true ∧ Ris tb.place.toList ∧
    (w.params.followText "set-order" = true ∨ tb.led = true) ∧ (∀ r ∈ rows.toList, ∃ x u, r = (hashStr w x, Value.str x u)) ∧ (rows.toList.map txOf).Perm L
  nd : L.Nodup
  few : L.length < scanBound
section
variable {P : Program} {w : World} {A : Around} {E : Value → Shared → Prop} {s : Shared} {a : Addr} {L : List Str}
theorem TxSet.keep {h h' : Heap} (R : TxSet w h a L) (k : ∀ o, h.get? a = some o → h'.get? a = some o) : TxSet w h' a L := by
  obtain ⟨⟨ob, rows, n, tb, h1, hr⟩, h2, h3⟩ := R
  exact ⟨⟨ob, rows, n, tb, k _ h1, hr⟩, h2, h3⟩
theorem rows_elems {l : List (Int × Value)} (g : ∀ r ∈ l, ∃ x u, r = (hashStr w x, Value.str x u)) : ElemsOf (strKind P w) l := fun r hr => by
  obtain ⟨x, u, rfl⟩ := g r hr
  exact ⟨⟨x, strKind_is P w x u, rfl⟩, rfl⟩
theorem row_is {r : Int × Value} (g : ∃ x u, r = (hashStr w x, Value.str x u)) (k : Str) : (strKind P w).is k r.2 = true ↔ txOf r = k := by
  obtain ⟨x, u, rfl⟩ := g
  constructor
  · intro z
    have z' : Value.isStrOf k (Value.str x u) = true := z
    obtain ⟨v, hv⟩ := Value.isStrOf_shape z'
    cases hv; rfl
  · intro z
    have z' : x = k := z
    subst z'
    exact strKind_is P w x u
/-- behind the last store -/
theorem txset_end {f : Bool → Sem Unit} (hf : ∀ (b : Bool) (s' : Shared) (q : Unit → Shared → Prop), q () s' → wpAny (model P w) A (f b) q E s') {ob : Obj} {rows new : Array (Int × Value)} {n : Nat} {tb tn : SetTable}
    (ho : s.heap.get? a = some ob) (hx : ob.ExactSet) (hd : ob.data = .set rows n tb) (hg : ∀ r ∈ new.toList, ∃ x u, r = (hashStr w x, Value.str x u)) (hp : (new.toList.map txOf).Perm L) (hn : L.Nodup) (hl : L.length < scanBound)
    (hfit : tn.fits new.size = true) (hris : Ris tn.place.toList) (hled : w.params.followText "set-order" = true ∨ tn.led = true) {dm : Bool} {q : Option Bool → Shared → Prop}
    (fin : ∀ h', Heap.SameBut a s.heap h' → TxSet w h' a L → q (some true) { s with heap := h' }) :
    wpAny (model P w) A (do
      storeSet a new tn
      if (!dm && tn.tooFull) = true then do
          f (relayAll tn new (SetTable.grown new.size)).2.2
          storeSet a (relayAll tn new (SetTable.grown new.size)).1 (relayAll tn new (SetTable.grown new.size)).2.1
          pure (some true)
        else pure (some true)) q E s := by
  have sz : new.size < scanBound := by
    have e := hp.length_eq
    rw [List.length_map, Array.length_toList] at e
    omega
  have put : ∀ {hh : Heap} {o' : Obj} {r0 : Array (Int × Value)} {m : Nat} {t0 : SetTable} (r1 : Array (Int × Value)) (t1 : SetTable), hh.get? a = some o' → o'.data = .set r0 m t0 → (hh.update a (Obj.putSet r1 t1)).get? a = some { o' with data := .set r1 (m + 1) t1 } := by
    intro hh o' r0 m t0 r1 t1 g1 g2
    have z := Heap.get?_update_self (Obj.putSet r1 t1) g1 (by rw [putSet_of r1 t1 g2] <;> rfl)
    rwa [putSet_of r1 t1 g2] at z
  refine wpAny_bind (wpAny_storeSet_of ho hd ?_ (fits_of_scanBound sz))
  have o1 := put new tn ho hd
  have sb := Heap.SameBut.update s.heap a (Obj.putSet new tn)
  split
  · have p2 := relayAll_perm tn new (SetTable.grown new.size)
    have f2 := relayAll_fits tn new (SetTable.grown new.size)
    have r2 := relayAll_ris tn new (SetTable.grown new.size)
    have l2 := relayAll_led tn new (SetTable.grown new.size)
    revert p2 f2 r2 l2
    generalize relayAll tn new (SetTable.grown new.size) = three
    obtain ⟨rows2, tb2, gave⟩ := three
    intro p2 f2 r2 l2
    have sz2 : rows2.size = new.size := by
      have e := p2.length_eq
      rwa [Array.length_toList, Array.length_toList] at e
    refine wpAny_bind (hf _ _ _ ?_)
    refine wpAny_bind (wpAny_storeSet_of o1 rfl ?_ (fits_of_scanBound (by rw [sz2]; exact sz)))
    refine wpAny_pure (fin _ (sb.trans (Heap.SameBut.update _ a _)) ⟨⟨_, rows2, _, tb2, put rows2 tb2 o1 rfl, hx, rfl, f2, r2, hled.imp id fun z => by rw [l2]; exact z, fun r hr => hg r (p2.mem_iff.mp hr), (p2.map txOf).trans hp⟩, hn, hl⟩)
  · exact wpAny_pure (fin _ sb ⟨⟨_, new, _, tn, o1, hx, rfl, hfit, hris, hled, hg, hp⟩, hn, hl⟩)
/-- one more text -/
theorem txset_add {k : Str} {u : Tok} {q : Bool → Shared → Prop} (R : TxSet w s.heap a L) (room : L.length + 1 < scanBound)
    (fin : ∀ b h', Heap.SameBut a s.heap h' → TxSet w h' a (if k ∈ L then L else L ++ [k]) → q b { s with heap := h' }) : wpAny (model P w) A (setAddHashed a (.str k u) ((strKind P w).hash k)) q E s := by
  obtain ⟨⟨ob, rows, n, tb, ho, hx, hd, hfit, hris, hled, hg, hp⟩, hn, hl⟩ := R
  have hk : (strKind P w).is k (Value.str k u) = true := strKind_is P w k u
  have scn : (Value.str k u).scannable = true := rfl
  have els : ElemsOf (strKind P w) rows.toList := rows_elems hg
  have sz : rows.size < scanBound := by
    have e := hp.length_eq
    rw [List.length_map, Array.length_toList] at e
    omega
  unfold setAddHashed setAddHashedIn
  refine wpAny_holding (wpAny_bind (wpAny_setState_of ho hd hfit ?_))
  dsimp only
  rw [byScan_of scn sz els]
  simp only [↓reduceIte]
  unfold setAddByScan
  refine wpAny_bind (wpAny_bind (wpAny_rule (wpAny_bind (wpAny_setScan_of hk ho hd hfit els ?_))))
  cases at_ : List.findIdx? (fun r => (strKind P w).is k r.2) rows.toList with
  | some j =>
    dsimp only
    obtain ⟨hj, pj, _⟩ := List.findIdx?_eq_some_iff_getElem.mp at_
    have inL : k ∈ L := by
      refine hp.mem_iff.mp (List.mem_map.mpr ⟨_, List.getElem_mem hj, ?_⟩)
      exact (row_is (P := P) (hg _ (List.getElem_mem hj)) k).mp pj
    refine wpAny_pure (wpAny_pure (fin _ s.heap (Heap.SameBut.refl a s.heap) ?_))
    rw [if_pos inL]
    exact ⟨⟨ob, rows, n, tb, ho, hx, hd, hfit, hris, hled, hg, hp⟩, hn, hl⟩
  | none =>
    dsimp only
    have outL : k ∉ L := fun z => by
      obtain ⟨r, hr, e⟩ := List.mem_map.mp (hp.mem_iff.mpr z)
      have no := List.findIdx?_eq_none_iff.mp at_ r hr
      rw [(row_is (P := P) (hg r hr) k).mpr e] at no
      cases no
    have gw : ∀ (b : Bool) {s' : Shared} {q' : Unit → Shared → Prop}, q' () s' → wpAny (model P w) A (match b with | true => rule "set.scan.the-table-gave-way" | false => pure ()) q' E s' :=
      fun b s' q' z => by
        cases b
        · exact wpAny_pure z
        · exact wpAny_rule z
    have p1 := layNew_perm tb rows ((strKind P w).hash k) (.str k u)
    have f1 := layNew_fits tb rows ((strKind P w).hash k) (.str k u)
    have r1 := layNew_ris tb rows ((strKind P w).hash k) (.str k u) hris
    have l1 := layNew_led tb rows ((strKind P w).hash k) (.str k u)
    revert p1 f1 r1 l1
    generalize layNew tb rows ((strKind P w).hash k) (.str k u) = four
    obtain ⟨rows1, tb1, dm, gave⟩ := four
    intro p1 f1 r1 l1
    dsimp only at p1 f1 r1 l1 ⊢
    rw [Array.toList_push] at p1
    have g1 : ∀ r ∈ rows1.toList, ∃ x u, r = (hashStr w x, Value.str x u) := fun r hr => by
      rcases List.mem_append.mp (p1.mem_iff.mp hr) with z | z
      · exact hg r z
      · exact ⟨k, u, List.mem_singleton.mp z⟩
    have q1 : (rows1.toList.map txOf).Perm (L ++ [k]) := by
      refine (p1.map txOf).trans ?_
      rw [List.map_append]
      exact List.Perm.append_right _ hp
    have n1 : (L ++ [k]).Nodup := List.nodup_append.mpr ⟨hn, by simp, fun x hx y hy e => outL (by rw [← List.mem_singleton.mp hy, ← e]; exact hx)⟩
    have led1 : w.params.followText "set-order" = true ∨ tb1.led = true := hled.imp id fun z => by rw [l1]; exact z
    have len1 : (L ++ [k]).length < scanBound := by rw [List.length_append]; exact room
    have last : ∀ h', Heap.SameBut a s.heap h' → TxSet w h' a (L ++ [k]) → q true { s with heap := h' } := fun h' sb r => fin true h' sb (by rw [if_neg outL]; exact r)
    refine wpAny_bind (gw _ ?_)
    split
    · refine wpAny_bind ?_
      rw [hashByValue_scannable 8 scn]
      refine wpAny_pure ?_
      refine txset_end ?_ ho hx hd g1 q1 n1 len1 ?_ ?_ ?_ ?_
      · intro b s' q' z; exact gw b z
      · first | (split <;> first | exact f1 | exact SetTable.fits_plain_off f1) | exact f1
      · first | (split <;> exact r1) | exact r1
      · first | (split <;> exact led1) | exact led1
      · intro h' sb r; dsimp only; exact wpAny_pure (last h' sb r)
    · refine wpAny_bind (wpAny_pure ?_)
      simp only [↓reduceIte]
      refine txset_end ?_ ho hx hd g1 q1 n1 len1 f1 r1 led1 ?_
      · intro b s' q' z; exact gw b z
      · intro h' sb r; dsimp only; exact wpAny_pure (last h' sb r)
end
end Fi
end

section
set_option maxRecDepth 100000
set_option maxHeartbeats 4000000
/-! FiSetB: set(texts) made, sorted. Own work. -/
namespace Fi
open PySem PySem.Spec PyProof.Rows L2
abbrev setO (w : World) : Obj := { cls := .type "set", dict := none, data := .set #[] 0 (.fresh 0 0 (!w.params.followText "set-order")) }
/-- a text more, if it is new -/
def putTx (L : List Str) (k : Str) : List Str := if k ∈ L then L else L ++ [k]
def allTx (xs : List Str) : List Str := xs.foldl putTx []
theorem allTx_take {xs : List Str} {i : Nat} {k : Str} (h : xs[i]? = some k) : allTx (xs.take (i + 1)) = putTx (allTx (xs.take i)) k := by
  unfold allTx
  rw [List.take_add_one, h, List.foldl_append] <;> rfl
theorem foldl_putTx_len : ∀ (xs L : List Str), (xs.foldl putTx L).length ≤ L.length + xs.length
  | [], L => Nat.le_refl _
  | x :: xs, L => by
    have z := foldl_putTx_len xs (putTx L x)
    have y : (putTx L x).length ≤ L.length + 1 := by
      unfold putTx
      split
      · omega
      · rw [List.length_append]; exact Nat.le_refl _
    simp only [List.foldl_cons, List.length_cons]
    omega
theorem allTx_len (xs : List Str) : (allTx xs).length ≤ xs.length := by
  exact Nat.le_trans (foldl_putTx_len xs []) (by simp)
section
variable {P : Program} {w : World} {A : Around} {E : Value → Shared → Prop} {s : Shared}
theorem txset_new {h : Heap} {a : Addr} (ho : h.get? a = some (setO w)) : TxSet w h a [] :=
  ⟨⟨_, #[], 0, _, ho, ⟨rfl, rfl, rfl⟩, rfl, rfl, List.Pairwise.nil, by
    show _ ∨ (!w.params.followText "set-order") = true
    cases w.params.followText "set-order" <;> simp, fun r hr => absurd hr (by simp), List.Perm.refl _⟩, List.nodup_nil, (by decide)⟩
theorem txset_loop {I : Addr} {fp wr : List Addr} {G : Array GenState → Array GenState → Prop} {n : Nat} {Pv : Nat → Value → Prop} {St : Nat → Shared → Prop} {R : Result → Shared → Prop}
    (W : WalksS P w A.in1 I fp wr G n Pv St) (D : Addr) (out : D ∉ fp) (xs : List Str) (hn : n = xs.length) (few : xs.length + 1 < scanBound) (hv : ∀ i v, Pv i v → ∃ k u, xs[i]? = some k ∧ v = .str k u) :
    ∀ (m i : Nat) (s : Shared), n - i = m → i ≤ n → St i s → TxSet w s.heap D (allTx (xs.take i)) → (∀ s', Moved (D :: wr) G s s' → TxSet w s'.heap D (allTx xs) → R (.ok (.ret .none)) s') →
      codeAny (model P w) A (.builtin "set.update.loop" ⟨[.ref D, .ref I], []⟩) R s := by
  have nw : D ∉ wr := fun z => out (W.sub _ z)
  have up : ∀ b ∈ wr, b ∈ D :: wr := fun b z => List.mem_cons_of_mem _ z
  intro m
  induction m with
  | zero =>
    intro i s e le st T fin
    obtain rfl : i = n := by omega
    apply codeAny_builtin (PyProof.Rows.F.entry_set_update_loop)
    rw [Around.under_plainId F.plain_set_update_loop (_)]
    show wpAny _ (A.in1) (pyNext (.ref I) >>= _) _ _ s
    refine wpAny_bind (W.done s _ _ st fun s' mv => ?_)
    refine wpAny_pure (fin s' (mv.mono up) ?_)
    rw [hn, List.take_length] at T
    exact T.keep fun o q => mv.heap D o nw q
  | succ m ih =>
    intro i s e le st T fin
    have lt : i < n := by omega
    apply codeAny_builtin (PyProof.Rows.F.entry_set_update_loop)
    rw [Around.under_plainId F.plain_set_update_loop (_)]
    show wpAny _ (A.in1) (pyNext (.ref I) >>= _) _ _ s
    refine wpAny_bind (W.item i s _ _ lt st fun v s' pv st' mv => ?_)
    obtain ⟨k, u, hk, rfl⟩ := hv i v pv
    have T' : TxSet w s'.heap D (allTx (xs.take i)) := T.keep fun o q => mv.heap D o nw q
    show wpAny _ A.in1 (holding [Value.str k u] (setAdd D (.str k u)) >>= _) _ _ s'
    refine wpAny_bind (wpAny_holding ?_)
    unfold setAdd
    refine wpAny_holding (wpAny_bind ((strKind P w).pyHash (k := k) (strKind_is P w k u) ?_))
    have room : (allTx (xs.take i)).length + 1 < scanBound := by
      have z := allTx_len (xs.take i)
      rw [List.length_take] at z
      omega
    refine txset_add (s := { s' with toks := s'.toks + 1 }) T' room fun b h' sb T2 => ?_
    have T3 : TxSet w h' D (allTx (xs.take (i + 1))) := by rw [allTx_take hk]; exact T2
    refine wpAny_pure ⟨plainId_quiet F.plain_set_update_loop _, ih (i + 1) _ (by omega) lt (W.frame _ s' _ _ st' (Nat.le_succ _) fun c hc o q => ?_) T3 fun s2 mv2 T4 => ?_⟩
    · rw [sb.2 c (fun z : c = D => out (by rw [← z]; exact hc))]; exact q
    · refine fin s2 (Moved.trans W.gtrans ((mv.mono up).then_heap (Nat.le_succ _) fun c o hc q => ?_) mv2) T4
      rw [sb.2 c (fun z : c = D => hc (by rw [z]; exact List.mem_cons_self))]; exact q
end
end Fi
end

section
set_option maxRecDepth 100000
set_option maxHeartbeats 4000000
/-! FiSetC: set(texts) called. Own work. -/
namespace Fi
open PySem PySem.Spec PyProof.Rows L2
section
variable {P : Program} {w : World} {A : Around} {E : Value → Shared → Prop} {s : Shared}
theorem txset_call {l : Addr} {items : Array Value} {xs : List Str} {q : Value → Shared → Prop} (hh : A.handled = none) (hl : s.heap.IsList l items) (hi : StrsAre items.toList xs) (few : xs.length + 1 < scanBound)
    (fin : ∀ h' tk, TxSet w h' s.heap.objs.size (allTx xs) → (∀ b o, s.heap.get? b = some o → h'.get? b = some o) → q (.ref s.heap.objs.size) { s with heap := h', toks := tk }) :
    wpAny (model P w) A (call (.type "set") [.ref l]) q E s := by
  have size : items.size = xs.length := by rw [← StrsAre.len_eq hi, Array.length_toList]
  have vals : ∀ (i : Nat) (v : Value), items[i]? = some v → ∃ k u, xs[i]? = some k ∧ v = .str k u := by
    intro i v hv
    have hlt : i < xs.length := by
      rw [← size]
      obtain ⟨z, _⟩ := Array.getElem?_eq_some_iff.mp hv
      exact z
    obtain ⟨u, e⟩ := SS.strs_at hi i v (by rw [Array.getElem?_toList]; exact hv)
    refine ⟨xs.getD i Str.empty, u, ?_, e⟩
    rw [List.getD_eq_getElem?_getD, List.getElem?_eq_getElem hlt] <;> rfl
  obtain ⟨cl, rest, mro⟩ := F.called_set.mro
  have made := F.called_set.made
  have sub := F.called_set.sub
  apply wpAny_call
  apply codeAny_of_tree
  show wpAny _ _ (callAny (.type "set") _) (_) _ _
  refine wpAny_pure ⟨Code.quiet_builtin (_) (by decide +kernel), codeAny_builtin F.entry_type_call ?_⟩
  rw [Around.under_plain (weight_type_call_type "set" [.ref l] ([])) rfl]
  have c1 := F.called_set.notType
  have c2 := F.called_set.canCreate
  have c3 := F.typeCall_set_1 (.ref l)
  repeat (any_goals (first | assumption | wp_step))
  refine codeAny_mono (code_set_led1 (.ref l) (E := E) (Q₁ := fun x s1 => x = .ref s.heap.objs.size ∧ s1 = { s with heap := s.heap.push (setO w) }) ⟨rfl, rfl⟩) fun r s1 hr => ?_
  cases r with
  | error e => exact hr
  | ok f =>
    cases f with
    | ret x =>
      obtain ⟨rfl, rfl⟩ := hr
      have at0 : (s.heap.push (setO w)).get? s.heap.objs.size = some (setO w) := Heap.get?_push_size _ rfl
      have ty0 : Shared.TypeIs { s with heap := s.heap.push (setO w) } (.ref s.heap.objs.size) "set" := ⟨_, at0, rfl⟩
      have i1 := F.called_set.init.lookup
      have i2 := F.called_set.init.bind (.ref s.heap.objs.size)
      repeat (any_goals (first | assumption | wp_step))
      refine codeAny_mono (codeAny_call_builtin (R := wants (fun r s2 => r = .none ∧ ∃ h' tk, s2 = { s with heap := h', toks := tk } ∧ TxSet w h' s.heap.objs.size (allTx xs) ∧ (∀ b o, s.heap.get? b = some o → h'.get? b = some o)) E)
        F.called_set.init.plain F.entry_set_init (check_set_init_1 ty0 ?_)) fun r2 s2 hr2 => ?_
      · obtain ⟨⟨oc, od, ot, os⟩, ol, hc, n, hd⟩ := hl
        simp only at hc hd
        subst hc; subst hd
        have ol1 : (s.heap.push (setO w)).get? l = some { cls := .type "list", dict := od, data := .seq items n, slots := os } := Heap.get?_push_of_some _ ol
        have n1 := F.sub_list_set
        have n2 := F.sub_list_frozenset
        have n3 : (Value.type "list" == Value.type "dict") = false := rfl
        have il : (s.heap.push (setO w)).IsList l items := ⟨_, ol1, rfl, n, rfl⟩
        unfold Builtin.«set.__init__» noKeywords Builtin.Frozenset.updateFrom
        generalize hI : pyIter = I0
        wp_walk
        subst hI
        refine wpAny_pyIter_list il ?_
        refine wpAny_bind (wpAny_runValue (?_))
        have ls : l < s.heap.objs.size := Heap.lt_size ol
        have h3 : A.in1.in1.in1.handled = none := by simp only [Around.in1_handled, hh]
        have ps : (s.heap.push (setO w)).objs.size = s.heap.objs.size + 1 := Heap.size_push ..
        have ne : l ≠ (s.heap.push (setO w)).objs.size := by rw [ps]; exact Nat.ne_of_lt (Nat.lt_succ_of_lt ls)
        have nin : s.heap.objs.size ∉ [(s.heap.push (setO w)).objs.size, l] := by
          rw [ps]
          simp only [List.mem_cons, List.not_mem_nil, or_false, not_or]
          exact ⟨Nat.ne_of_lt (Nat.lt_succ_self (s.heap.objs.size)), Nat.ne_of_gt ls⟩
        refine txset_loop ((Walks.list h3 _ l ne items).toS) s.heap.objs.size nin xs size few vals (items.size - 0) 0 _ (by omega) (Nat.zero_le _) ⟨⟨_, Heap.get?_push_size _ rfl, rfl, rfl⟩, (il.push _)⟩ ?start ?done
        case start => exact txset_new (Heap.get?_push_of_some _ at0)
        case done =>
          intro s' mv T
          obtain ⟨h', g2, d2, t2, o2⟩ := s'
          have eg : g2 = s.gens := mv.gens
          have ed : d2 = s.drawn := mv.drawn
          have eo : o2 = s.os := mv.os
          subst eg; subst ed; subst eo
          apply wpAny_pure
          show wpAny _ _ (ret Value.none) (_) _ _
          refine wpAny_pure ⟨rfl, h', t2, rfl, T, fun b o e => ?_⟩
          have lt := Heap.lt_size e
          refine mv.heap b o ?_ (Heap.get?_push_of_some _ (Heap.get?_push_of_some _ e))
          rw [ps]
          simp only [List.mem_cons, List.not_mem_nil, or_false, not_or]
          exact ⟨Nat.ne_of_lt lt, Nat.ne_of_lt (Nat.lt_succ_of_lt lt)⟩
      · cases r2 with
        | error e => exact hr2
        | ok f2 =>
          cases f2 with
          | ret r =>
            obtain ⟨rfl, h', tk, rfl, T, k⟩ := hr2
            repeat (any_goals (first | assumption | wp_step))
            exact fin _ _ T k
          | _ => exact hr2.elim
    | _ => exact hr.elim
end
end Fi
end

section
set_option maxRecDepth 100000
/-! FiSetD: sorted of whatever can be gathered; sorted(set(texts)). Own work. -/
namespace Fi
open PySem PySem.Spec PyProof.Rows L2
open PySem.W (sortingHeap sortingHeap_old EachIs AllAlike Sortable dataLe dataKind sortVals SortsAt list_sort_vals sortVals_length sortVals_data each_map bound_map)
section
variable {P : Program} {w : World} {A : Around} {E : Value → Shared → Prop} {s : Shared}
/-- what is known of things that were gathered to be sorted -/
structure Gath {β : Type} (s : Shared) (A : Around) (R : Value → β → Prop) (enc : β → PyData) (vs : List Value) (s1 : Shared) (bs : List β) : Prop where
  keep : ∀ b o, s.heap.get? b = some o → s1.heap.get? b = some o
  gens : s1.gens = s.gens
  os : s1.os = s.os
  rel : EachIs R vs bs
  reads : EachIs (fun v b => ∃ as, Reads s1.heap v (enc b) as) vs bs
  alike : AllAlike (bs.map enc)
  sortable : Sortable (bs.map enc)
  len : bs.length ≤ sizeLine
  deep : ∀ b, b ∈ bs → A.units + 2 + (enc b).depth < cLine
theorem sorted_got {β : Type} {enc : β → PyData} {R : Value → β → Prop} {x : Value} {q : Value → Shared → Prop} (hc : wpAny (model P w) A.in1 (collect x) (fun vs s1 => ∃ bs, Gath s A R enc vs s1 bs ∧
      ∀ out s2 p c, (∀ b o, s1.heap.get? b = some o → s2.heap.get? b = some o) → s2.gens = s1.gens → s2.os = s1.os → s1.heap.objs.size ≤ p → s2.heap.get? p = some (seqObj "list" (List.toArray out) c) → EachIs R out (bs.mergeSort (dataLe false enc)) → q (.ref p) s2) E s) :
    wpAny (model P w) A (call (.builtin "sorted") [x]) q E s := by
  refine Calls.call_function_entry kind_sorted plain_sorted entry_sorted (args_sorted1 x) ?_
  unfold Builtin.«sorted»
  refine wpAny_bind (m := checkCount "sorted" 1 1 (_)) (wpAny_pure ?_)
  refine wpAny_bind (wpAny_mono hc (fun vs s1 ⟨bs, g, fin⟩ => ?_) fun _ _ z => z)
  have len := g.rel.length
  refine wpAny_bind (wpAny_newList ?_ (by rw [len]; exact g.len))
  have at1 : (s1.heap.push (seqObj "list" vs.toArray 0)).get? s1.heap.objs.size = some (seqObj "list" vs.toArray 0) := Heap.get?_push_size (_) rfl
  have old : ∀ b o, s1.heap.get? b = some o → (sortingHeap (s1.heap.push (seqObj "list" vs.toArray 0)) s1.heap.objs.size vs).get? b = some o := fun b o e => by
    have lt := Heap.lt_size e
    exact sortingHeap_old (Nat.ne_of_lt lt) (Heap.get?_push_of_some _ e)
  have reads : EachIs (fun v b => ∃ as, Reads (sortingHeap (s1.heap.push (seqObj "list" vs.toArray 0)) s1.heap.objs.size vs) v (enc b) as) vs bs := g.reads.mono fun _ _ ⟨as, r⟩ => ⟨as, PyProof.Rows.Reads.keeps old r⟩
  refine wpAny_bind (wpAny_holding (wpAny_call_entry slot_list_sort ⟨_, at1, rfl⟩ entry_list_sort (list_sort_vals (κ := dataKind (sortingHeap (s1.heap.push (seqObj "list" vs.toArray 0)) s1.heap.objs.size vs) (bs.map enc)) at1
    (SortsAt.data (s := { s1 with heap := sortingHeap (s1.heap.push (seqObj "list" vs.toArray 0)) s1.heap.objs.size vs }) (each_map (R := fun v d => ∃ as, Reads (sortingHeap (s1.heap.push (seqObj "list" vs.toArray 0)) s1.heap.objs.size vs) v d as) enc reads) g.alike g.sortable (bound_map fun b hb => g.deep b hb))
    (by rw [len]; exact g.len) ⟨.none, rfl, ?_⟩) (args_list_sort _)))
  have out := sortVals_data false g.rel reads g.alike
  obtain ⟨c, hp⟩ := sortedHeap_at (vs := vs) (out := (sortVals (dataKind (sortingHeap (s1.heap.push (seqObj "list" vs.toArray 0)) s1.heap.objs.size vs) (bs.map enc)) false vs vs).toArray) at1
  refine wpAny_pure ⟨_, rfl, fin _ _ s1.heap.objs.size c (fun b o e1 => ?_) rfl rfl (Nat.le_refl _) hp out⟩
  have lt := Heap.lt_size e1
  show (sortedHeap (s1.heap.push (seqObj "list" vs.toArray 0)) s1.heap.objs.size vs _).get? b = some o
  rw [sortedHeap_old (Nat.ne_of_lt lt) (by rw [Heap.size_push]; exact Nat.lt_succ_of_lt lt)]
  exact Heap.get?_push_of_some (_) e1
/-- texts in order -/
def leS (x y : Str) : Bool := decide (x.cps.toList ≤ y.cps.toList)
theorem leS_data : dataLe false (fun x : Str => PyData.str x) = leS := PySem.W.dataLe_str fun x => x
theorem leS_trans : ∀ x y z : Str, leS x y = true → leS y z = true → leS x z = true := fun x y z h1 h2 => by
  unfold leS at *
  simp only [decide_eq_true_eq] at *
  exact List.le_trans h1 h2
theorem leS_total : ∀ x y : Str, (leS x y || leS y x) = true := fun x y => by
  unfold leS
  simp only [Bool.or_eq_true, decide_eq_true_eq]
  exact List.le_total _ _
theorem leS_anti : ∀ x y : Str, leS x y = true → leS y x = true → x = y := fun x y h1 h2 => by
  unfold leS at *
  simp only [decide_eq_true_eq] at *
  exact PySem.W.str_of_cps (List.le_antisymm h1 h2)
theorem sortS_perm {l m : List Str} (p : l.Perm m) : l.mergeSort leS = m.mergeSort leS := by
  refine List.Perm.eq_of_pairwise (le := fun x y => leS x y = true) (fun x y _ _ h1 h2 => leS_anti x y h1 h2) (List.pairwise_mergeSort leS_trans leS_total l) (List.pairwise_mergeSort leS_trans leS_total m) ?_
  exact (List.mergeSort_perm l leS).trans (p.trans (List.mergeSort_perm m leS).symm)
theorem txset_sorted {a : Addr} {L : List Str} {q : Value → Shared → Prop} (R : TxSet w s.heap a L) (hh : A.handled = none) (hu : A.units + 2 < cLine)
    (fin : ∀ out s2 p c, (∀ b o, s.heap.get? b = some o → s2.heap.get? b = some o) → s2.gens = s.gens → s2.os = s.os → s.heap.objs.size ≤ p → s2.heap.get? p = some (seqObj "list" (List.toArray out) c) → StrsAre out (L.mergeSort leS) → q (.ref p) s2) :
    wpAny (model P w) A (call (.builtin "sorted") [.ref a]) q E s := by
  obtain ⟨⟨ob, rows, n, tb, ho, hx, hd, hfit, hris, hled, hg, hp⟩, hn, hl⟩ := R
  have sz : rows.size < scanBound := by
    have e := hp.length_eq
    rw [List.length_map, Array.length_toList] at e
    omega
  refine sorted_got (β := Str) (enc := fun x => PyData.str x) (R := fun v x => ∃ u, v = .str x u) (collect_set (A := A.in1) hh ⟨ob, ho, hx.1, hd⟩ hfit sz hris hled fun s1 vs keep size gens os pm => ?_)
  have str : ∀ v ∈ vs, ∃ x u, v = Value.str x u := fun v hv => by
    obtain ⟨r, hr, e⟩ := List.mem_map.mp (pm.mem_iff.mp hv)
    obtain ⟨x, u, e2⟩ := hg r hr
    exact ⟨x, u, by rw [← e, e2]⟩
  have each : ∀ l : List Value, (∀ v ∈ l, ∃ x u, v = Value.str x u) → EachIs (fun v x => ∃ u, v = Value.str x u) l (l.map fun v => txOf (0, v)) := by
    intro l
    induction l with
    | nil => intro _; exact .nil
    | cons v l ih =>
      intro h
      obtain ⟨x, u, e⟩ := h v (by simp)
      exact .cons ⟨u, by subst e; rfl⟩ (ih fun y hy => h y (by simp [hy]))
  have ev := each vs str
  have pl : (vs.map fun v => txOf (0, v)).Perm L := by
    refine (pm.map _).trans ?_
    rw [List.map_map]
    refine List.Perm.trans (List.Perm.of_eq (List.map_congr_left fun r hr => ?_)) hp
    obtain ⟨x, u, e2⟩ := hg r hr
    rw [e2]; rfl
  refine ⟨vs.map fun v => txOf (0, v), ⟨keep, gens, os, ev, ev.mono fun v x ⟨u, e⟩ => ⟨[], by rw [e]; exact Reads.str x u⟩, ?_, ?_, ?_, ?_⟩, fun out s2 p c k g o hp' at_ eo => fin out s2 p c (fun b u e => k b u (keep b u e)) (g.trans gens) (o.trans os) (Nat.le_trans size hp') at_ ?_⟩
  · exact AllAlike.of fun x y => by simp [PySem.W.alike]
  · exact Sortable.others fun x => ⟨fun e => (nomatch e), fun _ e => (nomatch e)⟩
  · rw [pl.length_eq]; exact fits_of_scanBound hl
  · intro x hx
    show A.units + 2 + (PyData.str x).depth < cLine
    simp only [PyData.depth]
    omega
  · rw [leS_data, sortS_perm pl] at eo
    have conv : ∀ {o : List Value} {l : List Str}, EachIs (fun v x => ∃ u, v = Value.str x u) o l → StrsAre o l := by
      intro o l
      revert o
      induction l with
      | nil => intro o h; cases h; exact .nil
      | cons x l ih =>
        intro o h
        cases h with
        | cons h1 h2 =>
          obtain ⟨u, rfl⟩ := h1
          exact .cons x u (ih h2)
    exact conv eo
end
end Fi
end

section
set_option maxRecDepth 100000
/-! FiSetE: sorted(set(texts)) as a rule. Own work. -/
namespace Fi
open PySem PySem.Spec PyProof.Rows L2
def tSSet (K : PySem.W.Frag) (ta : TE) : TE := fun σ H Q => ta σ H fun x H1 => ∃ (l : Addr) (xs : List Str), x = V.ref l ∧ SqL K H1 l (xs.map V.str) ∧ xs.length + 1 < scanBound ∧ ∀ p, H1 p = none → Q (.ref p) (upd H1 p (.lst (((allTx xs).mergeSort leS).map V.str)))
theorem vals_strsAre : ∀ {xs : List Str} {us : List Value}, Vals (xs.map V.str) us → StrsAre us xs
  | [], _, .nil => .nil
  | x :: _, _, .cons h r => by
    obtain ⟨u, rfl⟩ := h
    exact .cons x u (vals_strsAre r)
theorem strsAre_vals : ∀ {xs : List Str} {us : List Value}, StrsAre us xs → Vals (xs.map V.str) us
  | _, _, .nil => .nil
  | _, _, .cons x u h => .cons ⟨u, rfl⟩ (strsAre_vals h)
section
variable {X : Cx}
theorem pe_sset {a : Expr} {ta : TE} {p p2 q pos : Pos} (hc : X.calm = true) (hu : X.A.units + 64 < cLine) (hg : Gl X "sorted") (hm : X.mg "sorted" = none) (hg2 : Gl X "set") (hm2 : X.mg "set" = none) (ha : PE X a ta)
    (na : starEach [a] X.env = (false, eval a X.env) :: starEach [] X.env) : PE X (.Call (.Name "sorted" p) [.Call (.Name "set" p2) [a] [] q] [] pos) (tSSet X.K ta) := by
  refine ⟨fun pins s σ H Q I h => ?_⟩
  refine Call_ (ld_blt I hg hm (show bootBuiltins "sorted" = some (.builtin "sorted") by decide +kernel) ?_)
  refine PyProof.Rows.callWith_builtin1 (PyProof.Rows.args_cons ?_ rfl) rfl rfl
  refine Call_ (ld_blt I hg2 hm2 PyProof.Rows.boot_set (?_))
  refine PyProof.Rows.callWith_type1 (PyProof.Rows.args_cons (thn (ha.run pins s σ H _ I h) fun v s1 ⟨x, H1, I1, r1, q1⟩ => PyProof.Rows.args_nil (?_)) na) na rfl
  obtain ⟨l, xs, rfl, hl, few, q1⟩ := q1
  cases r1
  obtain ⟨its, rv, pl, hz⟩ := I1.list hl
  refine txset_call (I1.ok.hd hc) pl.isList (by simpa using vals_strsAre rv) few fun h' tk T keep => ?_
  refine PyProof.Rows.args_nil (?_)
  refine txset_sorted (s := { s1 with heap := h', toks := tk }) T (I1.ok.hd hc) (by omega) fun out s2 p c keep2 hg' ho' hp at_ so => ?_
  have I2 : Inv X pins σ H1 { s1 with heap := h', toks := tk } := I1.kept fun b o e => keep b o e
  have hn : H1 p = none := I2.hok.fresh hp
  have few2 : ((allTx xs).mergeSort leS).length ≤ sizeLine := by
    rw [List.length_mergeSort]
    have z := allTx_len xs
    exact fits_of_scanBound (by omega)
  have J : Inv X pins σ (upd H1 p (.lst (((allTx xs).mergeSort leS).map V.str))) { s1 with heap := s2.heap, gens := s2.gens, drawn := s2.drawn, toks := s2.toks } :=
    I1.call (ch := []) (Un.laid (fun b o e => keep2 b o (keep b o e)) (by
        have := I1.hok
        exact Nat.le_trans (by
          have z : s1.heap.objs.size ≤ h'.objs.size := by
            obtain ⟨⟨ob, _, _, _, at0, _⟩, _⟩ := T
            exact Nat.le_of_lt (Heap.lt_size at0)
          exact z) hp) hn) (I2.hok.laid keep2 hp ⟨by rw [List.length_map]; exact few2, out, c, strsAre_vals so, at_⟩) (by rw [hg']; exact I1.bare) (fun _ z => nomatch z)
  have e : s2 = { s1 with heap := s2.heap, gens := s2.gens, drawn := s2.drawn, toks := s2.toks } := by
    cases s2
    cases s1
    simp only at ho'
    cases ho'
    rfl
  rw [e]
  exact ⟨.ref p, _, J, rfl, q1 p hn⟩
end
end Fi
end

section
set_option maxRecDepth 100000
/-! FiSortT: tuples sorted. Own work. -/
namespace Fi
open PySem PySem.Spec PyProof.Rows L2
open PySem.W (EachIs AllAlike Sortable)
section
variable {X : Cx}
/-- a list laid by a call that leaves all else as it was -/
theorem inv_laid {pins : List (Addr × Obj)} {σ : L2.St} {H : Hp} {s s2 : Shared} {p : Addr} {vs : List V} {out : List Value} {c : Nat} (I : Inv X pins σ H s) (keep : ∀ b o, s.heap.get? b = some o → s2.heap.get? b = some o) (hg : s2.gens = s.gens) (ho : s2.os = s.os)
    (hp : s.heap.objs.size ≤ p) (at_ : s2.heap.get? p = some (seqObj "list" (List.toArray out) c)) (hv : Vals vs out) (hl : vs.length ≤ sizeLine) : H p = none ∧ Inv X pins σ (upd H p (.lst vs)) s2 := by
  have hn : H p = none := I.hok.fresh hp
  have J : Inv X pins σ (upd H p (.lst vs)) { s with heap := s2.heap, gens := s2.gens, drawn := s2.drawn, toks := s2.toks } :=
    I.call (ch := []) (Un.laid keep hp hn) (I.hok.laid keep hp ⟨hl, out, c, hv, at_⟩) (by rw [hg]; exact I.bare) (fun _ z => nomatch z)
  have e : s2 = { s with heap := s2.heap, gens := s2.gens, drawn := s2.drawn, toks := s2.toks } := by
    cases s2
    cases s
    simp only at ho
    cases ho
    rfl
  rw [e]
  exact ⟨hn, J⟩
/-- sorted(xs): xs a tuple that reads as data that can be sorted -/
def rSortT (K : PySem.W.Frag) : List V → Hp → VK → Prop := fun vs H Q => ∃ (a : Addr) (zs : List (V × PyData)), vs = [V.ref a] ∧ SqT K H a (zs.map Prod.fst) ∧ DpAll K H (zs.map Prod.fst) (zs.map Prod.snd) ∧
  AllAlike (zs.map Prod.snd) ∧ Sortable (zs.map Prod.snd) ∧ (∀ z ∈ zs, z.2.depth ≤ 64) ∧
  ∀ p, H p = none → Q (.ref p) (upd H p (.lst ((zs.mergeSort (PySem.W.dataLe false Prod.snd)).map Prod.fst)))
theorem cr_sortT_ (hu : X.A.units + 67 < cLine) : CallR X (.builtin "sorted") (rSortT X.K) := by
  intro pins s σ H vs us Q I r h
  obtain ⟨a, zs, rfl, hl, hd, hal, hs, hdep, q⟩ := h
  rw [Vals.ref1 r]
  obtain ⟨its, rv, pl, hz⟩ := I.tuple hl
  rw [List.length_map] at hz
  have hsz : its.length = zs.length := by have := rv.length; rw [List.length_map] at this; exact this.symm
  obtain ⟨o, ho, hc, n, hdt⟩ := pl
  refine sorted_got (β := V × PyData) (enc := Prod.snd) (R := fun u z => RelV z.1 u) (wpAny_collect_seq a (.inr rfl) ho hc hdt (fun h' keep => ?_) (by rw [List.size_toArray, hsz]; exact hz))
  have er := each_reads I rv hd
  have I1 : Inv X pins σ H { s with heap := h' } := I.kept (t' := s.toks) keep
  refine ⟨zs, ⟨keep, rfl, rfl, ?_, ?_, hal, hs, hz, fun z hz => by have := hdep z hz; omega⟩, fun out s2 p c keep2 hg ho2 hp at_ eo => ?_⟩
  · exact each_of_vals rv
  · exact er.mono fun _ _ ⟨as, r⟩ => ⟨as, PyProof.Rows.Reads.keeps keep r⟩
  · have hz2 : ((zs.mergeSort (PySem.W.dataLe false Prod.snd)).map Prod.fst).length ≤ sizeLine := by rw [List.length_map, List.length_mergeSort]; exact hz
    obtain ⟨hn, J⟩ := inv_laid I1 keep2 hg ho2 hp at_ (vals_of_each eo) hz2
    exact ⟨.ref p, _, J, rfl, q p hn⟩
theorem prim_sort : PrimC X.K (fun vs H Q => rSortD X.K vs H Q ∨ rSortT X.K vs H Q) sortB := by
  intro S H vs ds p Q e hv hp q
  unfold sortB at hp
  split at hp
  · obtain ⟨v, rfl, h⟩ := vwl1 hv
    obtain ⟨a, us, rfl, ha, r⟩ := h.lst e
    obtain ⟨zs, rfl, h1, h2, h3, h4, rfl, rr⟩ := sort_rows e r hp
    exact .inl ⟨a, zs, rfl, .of ha, h1, h2, h3, h4, fun p hp => q _ _ S (ext_new e hp) (new_fr e hp (.lst rr))⟩
  · obtain ⟨v, rfl, h⟩ := vwl1 hv
    obtain ⟨a, us, rfl, ha, r⟩ := h.tup e
    obtain ⟨zs, rfl, h1, h2, h3, h4, rfl, rr⟩ := sort_rows e r hp
    exact .inr ⟨a, zs, rfl, ha, h1, h2, h3, h4, fun p hp => q _ _ S (ext_new e hp) (new_fr e hp (.lst rr))⟩
  · cases hp
end
end Fi
end

section
/-! FiD: what code computes is what the machine does: expressions. Own work. -/
namespace Fi
open PySem PySem.Spec L2

/-- an outcome that is kept while more is evaluated -/
inductive LOk (K : PySem.W.Frag) (S : Hp) (σ : L2.St) (v : V) : Rs → Prop
  | sh {d : D} : Rep K S d v → LOk K S σ v (.sh d)
  | pk {i : Nat} : σ[i]? = some (some v) → LOk K S σ v (.pk i)
section
variable {K : PySem.W.Frag} {S S' H H' : Hp} {σ : L2.St} {E E1 : Env} {v : V} {r : Rs} {d : D}
theorem LOk.mono (e : Same S S') (h : LOk K S σ v r) : LOk K S' σ v r := by
  cases h with
  | sh r => exact .sh (r.mono e)
  | pk e => exact .pk e
theorem LOk.vw (I : EnvOk K S H σ E) (h : LOk K S σ v r) (e : E.vw r = some d) : Vw K S H d v := by
  cases h with
  | sh r => exact vw_ok (H0 := H) I (.sh r) e
  | pk r => exact vw_ok (H0 := H) I (.pk r) e
theorem LOk.tk (I : EnvOk K S H σ E) (h : LOk K S σ v r) (e : E.tk r = some (d, E1)) : ∃ S1, Post K S H σ E S1 H σ E1 ∧ Rep K S1 d v := by
  cases h with
  | sh r => exact tk_ok (H0 := H) I (.sh r) (fun _ z => nomatch z) e
  | pk r => exact tk_ok (H0 := H) I (.pk r) (fun _ z => nomatch z) e
theorem fz_lok (h : ResOk K S H H σ E v r.fz) : LOk K S σ v r.fz := by
  cases r with
  | sh d => cases h with | sh r => exact .sh r
  | ow d => cases h with | sh r => exact .sh r
  | pk i => cases h with | pk r => exact .pk r
end
/-- outcomes kept, for values in a row -/
inductive LsOk (K : PySem.W.Frag) (S : Hp) (σ : L2.St) : List V → List Rs → Prop
  | nil : LsOk K S σ [] []
  | cons {v : V} {r : Rs} {vs : List V} {rs : List Rs} : LOk K S σ v r → LsOk K S σ vs rs → LsOk K S σ (v :: vs) (r :: rs)
section
variable {K : PySem.W.Frag} {S S' H H' : Hp} {σ : L2.St} {E E1 : Env}
theorem LsOk.mono (e : Same S S') {vs : List V} {rs : List Rs} (h : LsOk K S σ vs rs) : LsOk K S' σ vs rs := by
  induction h with
  | nil => exact .nil
  | cons a _ ih => exact .cons (a.mono e) ih
theorem LsOk.vws (I : EnvOk K S H σ E) {vs : List V} {rs : List Rs} (h : LsOk K S σ vs rs) : ∀ {ds : List D}, rs.mapM E.vw = some ds → VwL K S H ds vs := by
  induction h with
  | nil => intro ds e; simp at e; subst e; exact .nil
  | @cons v r vs rs a _ ih =>
    intro ds e
    rw [List.mapM_cons] at e
    cases z : E.vw r with
    | none => rw [z] at e; cases e
    | some d =>
      rw [z] at e
      cases y : rs.mapM E.vw with
      | none => rw [y] at e; cases e
      | some ds' =>
        rw [y] at e
        have e : some (d :: ds') = some ds := e
        cases e
        exact .cons (a.vw I z) (ih y)
theorem LsOk.tks {vs : List V} {rs : List Rs} : ∀ {S : Hp} {E : Env} (I : EnvOk K S H σ E) (h : LsOk K S σ vs rs) {ds : List D} {E1 : Env}, E.tks rs = some (ds, E1) → ∃ S1, Post K S H σ E S1 H σ E1 ∧ RepL K S1 ds vs := by
  induction rs generalizing vs with
  | nil =>
    intro S E I h ds E1 e
    cases h
    cases e
    exact ⟨S, .refl I, .nil⟩
  | cons r rs ih =>
    intro S E I h ds E1 e
    cases h with
    | cons a b =>
      unfold Env.tks at e
      cases z : E.tk r with
      | none => rw [z] at e; cases e
      | some p =>
        obtain ⟨d, E2⟩ := p
        rw [z] at e
        obtain ⟨S1, p1, rep⟩ := a.tk I z
        simp only at e
        cases y : E2.tks rs with
        | none => rw [y] at e; cases e
        | some q =>
          obtain ⟨ds', E3⟩ := q
          rw [y] at e; cases e
          obtain ⟨S2, p2, reps⟩ := ih p1.ok (b.mono p1.grow) y
          exact ⟨S2, p1.trans p2, .cons (rep.mono p2.grow) reps⟩
end

/-! ### readings -/
section
variable (K : PySem.W.Frag) (C : Ctx)
def tE (c : CE) : TE := fun σ H Q => ∃ S E r E', EnvOk K S H σ E ∧ evE C c E = some (r, E') ∧ ∀ v H' S', Post K S H σ E S' H' σ E' → ResOk K S' H' H σ E' v r → Q v H'
def tEs (c : CEs) : TA := fun σ H Q => ∃ S E rs E', EnvOk K S H σ E ∧ evEs C c E = some (rs, E') ∧ ∀ vs H' S', Post K S H σ E S' H' σ E' → LsOk K S' σ vs rs → Q vs H'
def tT (c : CE) : TT := fun σ H Q => ∃ S E r E' b, EnvOk K S H σ E ∧ evE C c E = some (r, E') ∧ (E'.vw r).bind D.truth = some b ∧ ∀ H' S', Post K S H σ E S' H' σ E' → Q b H'
def tO (c : CO) : TO := fun σ H Q => ∃ S E i E', EnvOk K S H σ E ∧ evO C c E = some (i, E') ∧ ∀ H' S', Post K S H σ E S' H' σ E' → Q i H'
end
theorem PE.imp {X : Cx} {e : Expr} {t t' : TE} (h : PE X e t) (i : ∀ σ H Q, t' σ H Q → t σ H Q) : PE X e t' := ⟨fun pins s σ H Q I q => h.run pins s σ H Q I (i σ H Q q)⟩
theorem PT.imp {X : Cx} {e : Expr} {t t' : TT} (h : PT X e t) (i : ∀ σ H Q, t' σ H Q → t σ H Q) : PT X e t' := ⟨fun pins s σ H Q I q => h.run pins s σ H Q I (i σ H Q q)⟩
theorem PA.imp {X : Cx} {e : List Expr} {t t' : TA} (h : PA X e t) (i : ∀ σ H Q, t' σ H Q → t σ H Q) : PA X e t' := ⟨fun pos pins s σ H Q I q => h.run pos pins s σ H Q I (i σ H Q q)⟩
theorem PS.imp {X : Cx} {e : Stmt} {t t' : TS} (h : PS X e t) (i : ∀ D σ H, t' D σ H → t D σ H) : PS X e t' := ⟨fun pins s σ H D I q => h.run pins s σ H D I (i D σ H q)⟩
theorem PSs.imp {X : Cx} {e : List Stmt} {t t' : TS} (h : PSs X e t) (i : ∀ D σ H, t' D σ H → t D σ H) : PSs X e t' := ⟨fun pins s σ H D I q => h.run pins s σ H D I (i D σ H q)⟩
theorem PO.imp {X : Cx} {e : Option Expr} {t t' : TO} (h : PO X e t) (i : ∀ σ H Q, t' σ H Q → t σ H Q) : PO X e t' := ⟨fun pins s σ H Q I q => h.run pins s σ H Q I (i σ H Q q)⟩
theorem PI.imp {X : Cx} {tg e : Expr} {t t' : TI} (h : PI X tg e t) (i : ∀ σ H Q, t' σ H Q → t σ H Q) : PI X tg e t' := ⟨fun pins s σ H Q I q => h.run pins s σ H Q I (i σ H Q q)⟩
theorem PE.or {X : Cx} {e : Expr} {t t' : TE} (h : PE X e t) (h' : PE X e t') : PE X e (fun σ H Q => t σ H Q ∨ t' σ H Q) := ⟨fun pins s σ H Q I q => q.elim (h.run pins s σ H Q I) (h'.run pins s σ H Q I)⟩
theorem PI.or {X : Cx} {tg e : Expr} {t t' : TI} (h : PI X tg e t) (h' : PI X tg e t') : PI X tg e (fun σ H Q => t σ H Q ∨ t' σ H Q) := ⟨fun pins s σ H Q I q => q.elim (h.run pins s σ H Q I) (h'.run pins s σ H Q I)⟩
theorem PS.or {X : Cx} {e : Stmt} {t t' : TS} (h : PS X e t) (h' : PS X e t') : PS X e (fun D σ H => t D σ H ∨ t' D σ H) := ⟨fun pins s σ H D I q => q.elim (h.run pins s σ H D I) (h'.run pins s σ H D I)⟩

section
variable {K : PySem.W.Frag} {C : Ctx} {S H : Hp} {σ : L2.St} {E E1 E2 E3 : Env}
/-- an operand, kept -/
theorem op_kept {a : CE} {r : Rs} {Q : VK} (I : EnvOk K S H σ E) (e : evE C a E = some (r, E1)) (q : ∀ v H1 S1, Post K S H σ E S1 H1 σ E1 → LOk K S1 σ v r.fz → Q v H1) : tE K C a σ H Q :=
  ⟨S, E, r, E1, I, e, fun v H1 S1 p h => by
    obtain ⟨S2, p2, k⟩ := p.fz h
    exact q v H1 S2 p2 (fz_lok (k H1))⟩
/-- an operation's outcome -/
theorem op_end {v : V} {p : PR} {S1 H1 S2 H2 : Hp} {Q : VK} (I : EnvOk K S H σ E) (q : ∀ v H' S', Post K S H σ E S' H' σ E1 → ResOk K S' H' H σ E1 v p.rs → Q v H') (p1 : Post K S H σ E S1 H1 σ E1) (x : Ext S1 H1 S2 H2) (r : PRes K S2 H2 H1 v p) : Q v H2 :=
  q v H2 S2 (p1.trans (x.post p1.ok)) (by
    have h := r.res p1.ok
    exact h.from p1.dom)
end

/-! ### the context of a def, or of a comprehension's block in it -/
structure ArgsOk (K : PySem.W.Frag) (S H : Hp) (vs : List V) (as : List (Bool × D)) : Prop where
  sub : Same S H
  len : vs.length = as.length
  sh : ∀ (i : Nat) (d : D), as[i]? = some (false, d) → ∃ v, vs[i]? = some v ∧ Rep K S d v
  ow : ∀ (i : Nat) (d : D), as[i]? = some (true, d) → ∃ a, vs[i]? = some (.ref a) ∧ S a = none ∧ OwnAt K S (H a) d
  inj : ∀ (i j : Nat) (d e : D) (a : Addr), as[i]? = some (true, d) → as[j]? = some (true, e) → vs[i]? = some (.ref a) → vs[j]? = some (.ref a) → i = j
/-- the places lent -/
def Lent (vs : List V) (as : List (Bool × D)) (a : Addr) : Prop := ∃ (i : Nat) (d : D), as[i]? = some (true, d) ∧ vs[i]? = some (.ref a)
inductive FinOk (K : PySem.W.Frag) (S H : Hp) (a : Addr) : Sl → Prop
  | ow {d : D} : S a = none → OwnAt K S (H a) d → FinOk K S H a (.ow d)
  | sh {d : D} : Rep K S d (.ref a) → S a ≠ none → FinOk K S H a (.sh d)
inductive GiveOk (K : PySem.W.Frag) (S H H0 : Hp) (v : V) : Rs → Prop
  | sh {d : D} : Rep K S d v → GiveOk K S H H0 v (.sh d)
  | ow {d : D} {a : Addr} : v = .ref a → H0 a = none → S a = none → OwnAt K S (H a) d → GiveOk K S H H0 v (.ow d)
/-- what a call leaves -/
structure CallPost (K : PySem.W.Frag) (S H : Hp) (vs : List V) (as : List (Bool × D)) (S' H' : Hp) (v : V) (r : Rs) (ss : List Sl) : Prop where
  sub : Same S' H'
  grow : Same S S'
  frame : ∀ a o, ¬ Lent vs as a → H a = some o → H' a = some o
  keepS : ∀ a o, ¬ Lent vs as a → H a = some o → S a = none → S' a = none
  dom : ∀ a, H' a = none → H a = none
  len : ss.length = as.length
  fin : ∀ (i : Nat) (d : D) (a : Addr), as[i]? = some (true, d) → vs[i]? = some (.ref a) → ∃ s, ss[i]? = some s ∧ FinOk K S' H' a s
  give : GiveOk K S' H' H v r
def spD (K : PySem.W.Frag) (call : List (Bool × D) → Option (Rs × List Sl)) (n : Nat) : Sp := fun vs H Q _ =>
  vs.length = n ∧ ∃ S as r ss, ArgsOk K S H vs as ∧ call as = some (r, ss) ∧ ∀ v H' S', CallPost K S H vs as S' H' v r ss → Q v H'

def blts : List Str := ["len", "abs", "int", "tuple", "list", "any", "all", "isinstance", "range", "sorted", "set", "str", "dict", "enumerate", "zip", "max", "min", "sum", "bool"]
structure Ok (X : Cx) (N : List Str) (sc : List (Str × NameKind)) (C : Ctx) (F : List (Str × Nat)) (n : Nat) : Prop where
  eN : X.N = N
  nd : N.Nodup
  names : X.env.scope.names = sc
  kind : X.env.scope.kind = .function
  calm : X.calm = true
  nox : X.xe = fun _ _ => False
  room : Room n X.A
  funs : ∀ f m, F.lookup f = some m → ∃ fa fd ps, X.mg f = some (.ref fa) ∧ PySem.W.keepIn X.K (.ref fa) = true ∧ Binds X.K fd ps [] ∧ FnOk X.prog X.w X.K X.mg X.base CX0 n fa fd ps (spD X.K (C.call f) m)
  blt : ∀ x ∈ blts, X.mg x = none
  glo : ∀ x d, C.glo x = some d → ∃ v u, X.mg x = some u ∧ RelV v u ∧ Rep X.K (fun _ => none) d v
end Fi
end

section
/-! FiE: simple expressions. Own work. -/
namespace Fi
open PySem PySem.Spec L2

abbrev Nms := List (Str × NameKind)
def vis (sc : Nms) (x : Str) : Bool := match sc.lookup x with
  | some .local => true | some .cell => true | some .free => true
  | _ => false
def slot (N : List Str) (x : Str) : Option Nat := (N.findIdx? (· == x)).bind fun i => if N[i]? = some x then some i else none
theorem slot_ok {N : List Str} {x : Str} {i : Nat} (h : slot N x = some i) : N[i]? = some x := by
  unfold slot at h
  cases z : N.findIdx? (· == x) with
  | none => rw [z] at h; cases h
  | some j =>
    rw [z] at h
    simp only [Option.bind_some] at h
    split at h
    · cases h; assumption
    · cases h
def isStar : Expr → Bool
  | .Starred _ _ => true
  | _ => false
theorem star_cons {e : Expr} {es : List Expr} {env : PySem.Env} (h : isStar e = false) : starEach (e :: es) env = (false, eval e env) :: starEach es env := by
  cases e <;> first | rfl | cases h
theorem star_any {es : List Expr} {env : PySem.Env} {pos : Pos} (h : es.all (fun e => !isStar e) = true) : (backTo pos (starEach es env)).any (·.1) = false := by
  induction es with
  | nil => rfl
  | cons e es ih =>
    simp only [List.all_cons, Bool.and_eq_true, Bool.not_eq_true'] at h
    rw [star_cons h.1]
    show (false || (backTo pos (starEach es env)).any (·.1)) = false
    rw [ih h.2]; rfl
theorem star_all {es : List Expr} {env : PySem.Env} {pos : Pos} (h : es.all (fun e => !isStar e) = true) : (backTo pos (starEach es env)).all (fun x => !x.1) = true := by
  induction es with
  | nil => rfl
  | cons e es ih =>
    simp only [List.all_cons, Bool.and_eq_true, Bool.not_eq_true'] at h
    rw [star_cons h.1]
    show (!false && (backTo pos (starEach es env)).all (fun x => !x.1)) = true
    rw [ih h.2]; rfl
def isBare : Expr → Bool
  | .Call _ [] [] _ => true
  | _ => false
theorem base_ok {o : Expr} {m : Str} {env : PySem.Env} (h : isBare o = false) : attributeBase o m env (eval o env) = eval o env := by
  unfold attributeBase
  split
  · cases h
  · rfl
def isSlice : Expr → Bool
  | .Slice _ _ _ _ => true
  | _ => false
theorem plain_ix {b : Expr} (h : isSlice b = false) : ∀ o i, subscripted b false o i = operate [o, i] (getItem o i) := by
  intro o i
  cases b <;> first | rfl | cases h
/-- tests of their own kind -/
def isTst : Expr → Bool
  | .UnaryOp .Not _ _ => true
  | .BoolOp _ _ _ => true
  | .IfExp _ _ _ _ => true
  | .Compare _ _ _ _ => true
  | _ => false
theorem truth_ok {e : Expr} {env : PySem.Env} (h : isTst e = false) : ∀ whole, isTrue e env whole = (do let v ← whole; standAt e.pos; holding [v] (truthy v)) := by
  intro w
  cases e <;> first | rfl | (cases h; done) | skip
  rename_i op x p
  cases op <;> first | rfl | cases h

section
variable {X : Cx} {N : List Str} {sc W : Nms} {C : Ctx} {F : List (Str × Nat)} {n : Nat}
theorem Ok.vis (O : Ok X N sc C F n) {x : Str} (h : vis sc x = true) : Vis X.env.scope x := by
  unfold Fi.vis at h
  unfold Vis
  rw [O.names]
  split at h <;> first | (rename_i z; exact .inl z) | (rename_i z; exact .inr (.inl z)) | (rename_i z; exact .inr (.inr z)) | cases h
theorem Ok.gl (O : Ok X N sc C F n) {x : Str} (h : sc.lookup x = some .globalImplicit) : Gl X x := by
  show X.env.scope.names.lookup x = _
  rw [O.names]; exact h

/-! names, constants -/
theorem so_var (O : Ok X N sc C F n) {x : Str} {i : Nat} {pos : Pos} (h : slot N x = some i) (hv : vis sc x = true) (hd : (x == ("__debug__" : Str)) = false) (hc : (x == ("__classdict__" : Str)) = false) :
    PE X (.Name x pos) (tE X.K C (.var i)) := by
  refine PE.imp (pe_var (i := i) (by rw [O.eN]; exact slot_ok h) (O.vis hv) hd hc) fun σ H Q ⟨S, E, r, E', I, e, q⟩ => ?_
  unfold evE at e
  split at e
  · cases e
  · rename_i d g
    cases e
    obtain ⟨v, ev, rv⟩ := I.sh i d g
    exact ⟨v, ev, q v H S (.refl I) (.sh rv)⟩
  · rename_i g1 g2
    cases e
    cases g : E.get i with
    | un => exact absurd g g1
    | sh d => exact absurd g (g2 d)
    | ow d =>
      obtain ⟨a, ev, _⟩ := I.ow i d (.inl g)
      exact ⟨_, ev, q _ H S (.refl I) (.pk ev)⟩
    | lk d =>
      obtain ⟨a, ev, _⟩ := I.ow i d (.inr g)
      exact ⟨_, ev, q _ H S (.refl I) (.pk ev)⟩
theorem so_con {e : Expr} {d : D} {v : V} (h : PE X e (tC v)) (r : ∀ K S, Rep K S d v) : PE X e (tE X.K C (.con d)) := by
  refine PE.imp h fun σ H Q ⟨S, E, r', E', I, e, q⟩ => ?_
  unfold evE at e
  cases e
  exact q v H S (.refl I) (.sh (r _ _))
theorem so_glo (O : Ok X N sc C F n) {x : Str} {pos : Pos} (h : sc.lookup x = some .globalImplicit) (hd : (x == ("__debug__" : Str)) = false) : PE X (.Name x pos) (tE X.K C (.glo x)) := by
  refine ⟨fun pins s σ H Q I0 ⟨S, E, r, E', I, e, q⟩ => ?_⟩
  unfold evE at e
  cases g : C.glo x with
  | none => rw [g] at e; cases e
  | some d =>
    rw [g] at e; cases e
    obtain ⟨v, u, hm, rv, rep⟩ := O.glo x d g
    exact (pe_glob (O.gl h) hm rv hd).run pins s σ H Q I0 (q v H S (.refl I) (.sh (rep.mono fun _ _ z => (by cases z))))

/-! lists of expressions -/
theorem so_nil : PA X [] (tEs X.K C .nil) := by
  refine PA.imp pa_nil fun σ H Q ⟨S, E, rs, E', I, e, q⟩ => ?_
  unfold evEs at e
  cases e
  exact q [] H S (.refl I) .nil
theorem so_cons {e : Expr} {es : List Expr} {c : CE} {cs : CEs} (hs : isStar e = false) (h : PE X e (tE X.K C c)) (hr : PA X es (tEs X.K C cs)) : PA X (e :: es) (tEs X.K C (.cons c cs)) := by
  refine PA.imp (pa_cons h hr (star_cons hs)) fun σ H Q ⟨S, E, rs, E', I, e, q⟩ => ?_
  unfold evEs at e
  split at e
  · rename_i x E1 e1
    split at e
    · rename_i xs E2 e2
      cases e
      refine op_kept I e1 fun v H1 S1 p1 l1 => ?_
      refine ⟨S1, E1, xs, E', p1.ok, e2, fun vs H2 S2 p2 l2 => ?_⟩
      exact q _ H2 S2 (p1.trans p2) (.cons (l1.mono p2.grow) l2)
    · cases e
  · cases e
theorem LsOk.len {K : PySem.W.Frag} {S : Hp} {σ : L2.St} {vs : List V} {rs : List Rs} (h : LsOk K S σ vs rs) : vs.length = rs.length := by
  induction h with
  | nil => rfl
  | cons _ _ ih => simp [ih]
theorem so_tup {es : List Expr} {k : Nat} {pos : Pos} {cs : CEs} (h : PA X es (tEs X.K C cs)) : PE X (.Tuple es k pos) (tE X.K C (.tup cs)) := by
  refine PE.imp (pe_tup h) fun σ H Q ⟨S, E, r, E', I, e, q⟩ => ?_
  unfold evE at e
  split at e
  · rename_i rs E1 e1
    split at e
    · rename_i ds E2 e2
      split at e
      · rename_i hl
        cases e
        refine ⟨S, E, rs, E1, I, e1, fun vs H1 S1 p1 l1 => ?_⟩
        obtain ⟨S2, p2, rep⟩ := l1.tks p1.ok e2
        have p12 := p1.trans p2
        refine ⟨by rw [← rep.length, ← big_eq]; exact hl, fun p hp => ?_⟩
        have x := ext_tup (o := .tup vs) p12.sub hp
        exact q _ _ _ (p12.trans (x.post p12.ok)) (.sh (new_tup p12.sub hp rep))
      · cases e
    · cases e
  · cases e
theorem so_lst {es : List Expr} {pos : Pos} {cs : CEs} (h : PA X es (tEs X.K C cs)) : PE X (.List es pos) (tE X.K C (.lst cs)) := by
  refine PE.imp (pe_lst h) fun σ H Q ⟨S, E, r, E', I, e, q⟩ => ?_
  unfold evE at e
  split at e
  · rename_i rs E1 e1
    split at e
    · rename_i ds E2 e2
      split at e
      · rename_i hl
        cases e
        refine ⟨S, E, rs, E1, I, e1, fun vs H1 S1 p1 l1 => ?_⟩
        obtain ⟨S2, p2, rep⟩ := l1.tks p1.ok e2
        have p12 := p1.trans p2
        refine ⟨by rw [← rep.length, ← big_eq]; exact hl, fun p hp => ?_⟩
        exact op_end (p := .fr (.lst ds)) I q p12 (ext_new p12.sub hp) (new_fr p12.sub hp (.lst rep))
      · cases e
    · cases e
  · cases e
theorem so_dct {pos : Pos} : PE X (.Dict [] [] pos) (tE X.K C (.dct false .nil)) := by
  refine PE.imp pe_dnewK fun σ H Q ⟨S, E, r, E', I, e, q⟩ => ?_
  unfold evE at e
  cases e
  intro p hp
  exact op_end (p := .fr (.dct false [])) I q (.refl I) (ext_new I.sub hp) (new_fr I.sub hp (.dK .nil))

/-! operators -/
theorem so_op2 {a b : Expr} {ca cb : CE} {o : O2} {e : Expr} {r : R2} (ho : ∀ {ta tb : TE}, PE X a ta → PE X b tb → PE X e (tOp r ta tb)) (pr : Prim2 X.K r (op2D o)) (ha : PE X a (tE X.K C ca)) (hb : PE X b (tE X.K C cb)) :
    PE X e (tE X.K C (.op2 o ca cb)) := by
  refine PE.imp (ho ha hb) fun σ H Q ⟨S, E, rr, E', I, e, q⟩ => ?_
  unfold evE at e
  split at e
  · rename_i ra E1 e1
    split at e
    · rename_i rb E2 e2
      split at e
      · rename_i da db va vb
        simp only [Option.map_eq_some_iff] at e
        obtain ⟨p, hp, e⟩ := e
        cases e
        refine op_kept I e1 fun x H1 S1 p1 l1 => ?_
        refine op_kept p1.ok e2 fun y H2 S2 p2 l2 => ?_
        have p12 := p1.trans p2
        exact pr S2 H2 x y da db p Q p12.sub ((l1.mono p2.grow).vw p12.ok va) (l2.vw p12.ok vb) hp fun v H' S' x r => op_end I q p12 x r
      · cases e
    · cases e
  · cases e
theorem so_op1 {a e : Expr} {ca : CE} {o : O1} {r : V → Hp → VK → Prop} (ho : ∀ {ta : TE}, PE X a ta → PE X e (tUn r ta)) (pr : ∀ (S H : Hp) (x : V) (d : D) (p : PR) (Q : VK), Same S H → Vw X.K S H d x → op1D o d = some p → (∀ v H' S', Ext S H S' H' → PRes X.K S' H' H v p → Q v H') → r x H Q)
    (ha : PE X a (tE X.K C ca)) : PE X e (tE X.K C (.op1 o ca)) := by
  refine PE.imp (ho ha) fun σ H Q ⟨S, E, rr, E', I, e, q⟩ => ?_
  unfold evE at e
  split at e
  · rename_i ra E1 e1
    split at e
    · rename_i da va
      simp only [Option.map_eq_some_iff] at e
      obtain ⟨p, hp, e⟩ := e
      cases e
      refine op_kept I e1 fun x H1 S1 p1 l1 => ?_
      exact pr S1 H1 x da p Q p1.sub (l1.vw p1.ok (by rw [vw_fz]; exact va)) hp fun v H' S' x r => op_end I q p1 x r
    · cases e
  · cases e
theorem so_neg {a : Expr} {ca : CE} {pos : Pos} (ha : PE X a (tE X.K C ca)) : PE X (.UnaryOp .USub a pos) (tE X.K C (.op1 .neg ca)) :=
  so_op1 (fun h => pe_un un_neg h) (fun S H x d p Q e hx hp q => by
    unfold op1D at hp
    split at hp
    · cases hp
      exact ⟨_, hx.int, sc_of e q (.int _)⟩
    · cases hp) ha

/-! truth -/
theorem tt_of {c : CE} {σ : L2.St} {H : Hp} {Q : Bool → Hp → Prop} (h : tT X.K C c σ H Q) : tE X.K C c σ H fun v H1 => ∃ k, TruV X.K v H1 k ∧ Q k H1 := by
  obtain ⟨S, E, r, E1, b, I, e, t, q⟩ := h
  refine op_kept I e fun v H1 S1 p1 l1 => ?_
  cases z : E1.vw r with
  | none => rw [z] at t; cases t
  | some d =>
    rw [z] at t
    exact ⟨b, vw_truth p1.sub (l1.vw p1.ok (by rw [vw_fz]; exact z)) t, q H1 S1 p1⟩
theorem so_test {e : Expr} {c : CE} (h : PE X e (tE X.K C c)) (ht : isTst e = false) : PT X e (tT X.K C c) :=
  PT.imp (pt_truth h (truth_ok ht)) fun σ H Q q => tt_of q
theorem so_not {a : Expr} {c : CE} {pos : Pos} (h : PE X a (tE X.K C c)) : PE X (.UnaryOp .Not a pos) (tE X.K C (.not c)) := by
  refine PE.imp (pe_notT h) fun σ H Q ⟨S, E, r, E', I, e, q⟩ => ?_
  unfold evE at e
  split at e
  · rename_i ra E1 e1
    split at e
    · rename_i d z
      simp only [Option.map_eq_some_iff] at e
      obtain ⟨k, hk, e⟩ := e
      cases e
      exact tt_of (Q := fun k' H1 => Q (.bl (!k')) H1) ⟨S, E, ra, E', k, I, e1, by rw [z]; exact hk, fun H1 S1 p1 => q _ H1 S1 p1 (.sh (.bl _))⟩
    · cases e
  · cases e
theorem so_notT {a : Expr} {c : CE} {pos : Pos} (h : PT X a (tT X.K C c)) : PT X (.UnaryOp .Not a pos) (tT X.K C (.not c)) := by
  refine PT.imp (pt_not h) fun σ H Q ⟨S, E, r, E', b, I, e, t, q⟩ => ?_
  unfold evE at e
  split at e
  · rename_i ra E1 e1
    split at e
    · rename_i d z
      simp only [Option.map_eq_some_iff] at e
      obtain ⟨k, hk, e⟩ := e
      cases e
      have t : some (!k) = some b := t
      cases t
      exact ⟨S, E, ra, E', k, I, e1, by rw [z]; exact hk, q⟩
    · cases e
  · cases e
/-- and, or as values -/
theorem so_and {a b : Expr} {r : List Expr} {ca cb : CE} {pos : Pos} (ha : PE X a (tE X.K C ca)) (hb : PE X (.BoolOp .And (b :: r) pos) (tE X.K C cb)) : PE X (.BoolOp .And (a :: b :: r) pos) (tE X.K C (.and ca cb)) := by
  refine PE.imp (pe_andT ha hb) fun σ H Q ⟨S, E, rr, E', I, e, q⟩ => ?_
  unfold evE at e
  split at e
  · rename_i ra E1 e1
    split at e
    · rename_i t
      refine op_kept I e1 fun v H1 S1 p1 l1 => ?_
      cases z : E1.vw ra with
      | none => rw [z] at t; cases t
      | some d =>
        rw [z] at t
        refine ⟨true, vw_truth p1.sub (l1.vw p1.ok (by rw [vw_fz]; exact z)) t, ?_⟩
        rw [if_pos rfl]
        exact ⟨S1, E1, rr, E', p1.ok, e, fun v H2 S2 p2 r2 => q v H2 S2 (p1.trans p2) (r2.from p1.dom)⟩
    · rename_i t
      cases e
      refine ⟨S, E, rr, E', I, e1, fun v H1 S1 p1 r1 => ?_⟩
      cases z : E'.vw rr with
      | none => rw [z] at t; cases t
      | some d =>
        rw [z] at t
        refine ⟨false, vw_truth p1.sub (vw_ok p1.ok r1 z) t, ?_⟩
        rw [if_neg Bool.false_ne_true]
        exact q v H1 S1 p1 r1
    · cases e
  · cases e
theorem so_or {a b : Expr} {r : List Expr} {ca cb : CE} {pos : Pos} (ha : PE X a (tE X.K C ca)) (hb : PE X (.BoolOp .Or (b :: r) pos) (tE X.K C cb)) : PE X (.BoolOp .Or (a :: b :: r) pos) (tE X.K C (.or ca cb)) := by
  refine PE.imp (pe_orT ha hb) fun σ H Q ⟨S, E, rr, E', I, e, q⟩ => ?_
  unfold evE at e
  split at e
  · rename_i ra E1 e1
    split at e
    · rename_i t
      cases e
      refine ⟨S, E, rr, E', I, e1, fun v H1 S1 p1 r1 => ?_⟩
      cases z : E'.vw rr with
      | none => rw [z] at t; cases t
      | some d =>
        rw [z] at t
        refine ⟨true, vw_truth p1.sub (vw_ok p1.ok r1 z) t, ?_⟩
        rw [if_pos rfl]
        exact q v H1 S1 p1 r1
    · rename_i t
      refine op_kept I e1 fun v H1 S1 p1 l1 => ?_
      cases z : E1.vw ra with
      | none => rw [z] at t; cases t
      | some d =>
        rw [z] at t
        refine ⟨false, vw_truth p1.sub (l1.vw p1.ok (by rw [vw_fz]; exact z)) t, ?_⟩
        rw [if_neg Bool.false_ne_true]
        exact ⟨S1, E1, rr, E', p1.ok, e, fun v H2 S2 p2 r2 => q v H2 S2 (p1.trans p2) (r2.from p1.dom)⟩
    · cases e
  · cases e
/-- and, or as tests -/
theorem so_andW {a b : Expr} {r : List Expr} {ca cb : CE} {pos : Pos} (ha : PT X a (tT X.K C ca)) (hb : PW X (.BoolOp .And (b :: r) pos) (tT X.K C cb)) : PW X (.BoolOp .And (a :: b :: r) pos) (tT X.K C (.and ca cb)) := by
  refine ⟨fun wh pins s σ H Q I0 ⟨S, E, rr, E', k, I, e, tk, q⟩ => (pw_and ha hb).run wh pins s σ H Q I0 ?_⟩
  unfold evE at e
  split at e
  · rename_i ra E1 e1
    split at e
    · rename_i t
      refine ⟨S, E, ra, E1, true, I, e1, t, fun H1 S1 p1 => ?_⟩
      exact iteT ⟨S1, E1, rr, E', k, p1.ok, e, tk, fun H2 S2 p2 => q H2 S2 (p1.trans p2)⟩
    · rename_i t
      cases e
      rw [tk] at t; cases t
      exact ⟨S, E, rr, E', false, I, e1, tk, fun H1 S1 p1 => iteF (q H1 S1 p1)⟩
    · cases e
  · cases e
theorem so_orW {a b : Expr} {r : List Expr} {ca cb : CE} {pos : Pos} (ha : PT X a (tT X.K C ca)) (hb : PW X (.BoolOp .Or (b :: r) pos) (tT X.K C cb)) : PW X (.BoolOp .Or (a :: b :: r) pos) (tT X.K C (.or ca cb)) := by
  refine ⟨fun wh pins s σ H Q I0 ⟨S, E, rr, E', k, I, e, tk, q⟩ => (pw_or ha hb).run wh pins s σ H Q I0 ?_⟩
  unfold evE at e
  split at e
  · rename_i ra E1 e1
    split at e
    · rename_i t
      cases e
      rw [tk] at t; cases t
      exact ⟨S, E, rr, E', true, I, e1, tk, fun H1 S1 p1 => iteT (q H1 S1 p1)⟩
    · rename_i t
      refine ⟨S, E, ra, E1, false, I, e1, t, fun H1 S1 p1 => ?_⟩
      exact iteF ⟨S1, E1, rr, E', k, p1.ok, e, tk, fun H2 S2 p2 => q H2 S2 (p1.trans p2)⟩
    · cases e
  · cases e
theorem so_ifx {c a b : Expr} {cc ca cb : CE} {pos : Pos} (hc : PT X c (tT X.K C cc)) (ha : PE X a (tE X.K C ca)) (hb : PE X b (tE X.K C cb)) : PE X (.IfExp c a b pos) (tE X.K C (.ifx cc ca cb)) := by
  refine PE.imp (pe_ifExp hc ha hb) fun σ H Q ⟨S, E, rr, E', I, e, q⟩ => ?_
  unfold evE at e
  split at e
  · rename_i rc E1 e1
    split at e
    · rename_i t
      refine ⟨S, E, rc, E1, true, I, e1, t, fun H1 S1 p1 => ?_⟩
      exact iteT ⟨S1, E1, rr, E', p1.ok, e, fun v H2 S2 p2 r2 => q v H2 S2 (p1.trans p2) (r2.from p1.dom)⟩
    · rename_i t
      refine ⟨S, E, rc, E1, false, I, e1, t, fun H1 S1 p1 => ?_⟩
      exact iteF ⟨S1, E1, rr, E', p1.ok, e, fun v H2 S2 p2 r2 => q v H2 S2 (p1.trans p2) (r2.from p1.dom)⟩
    · cases e
  · cases e
theorem so_ifxT {c a b : Expr} {cc ca cb : CE} {pos : Pos} (hc : PT X c (tT X.K C cc)) (ha : PT X a (tT X.K C ca)) (hb : PT X b (tT X.K C cb)) : PT X (.IfExp c a b pos) (tT X.K C (.ifx cc ca cb)) := by
  refine ⟨fun pins s σ H Q I0 ⟨S, E, rr, E', k, I, e, tk, q⟩ => ?_⟩
  unfold evE at e
  split at e
  · rename_i rc E1 e1
    split at e
    · rename_i t
      refine PyProof.Rows.isTrue_IfExp (thn (hc.run pins s σ H (fun d H1 => d = true ∧ ∃ S1, Post X.K S H σ E S1 H1 σ E1) I0 ⟨S, E, rc, E1, true, I, e1, t, fun H1 S1 p1 => ⟨rfl, S1, p1⟩⟩) fun d s1 ⟨H1, I1, ed, S1, p1⟩ => ?_)
      subst ed
      exact ha.run pins s1 σ H1 Q I1 ⟨S1, E1, rr, E', k, p1.ok, e, tk, fun H2 S2 p2 => q H2 S2 (p1.trans p2)⟩
    · rename_i t
      refine PyProof.Rows.isTrue_IfExp (thn (hc.run pins s σ H (fun d H1 => d = false ∧ ∃ S1, Post X.K S H σ E S1 H1 σ E1) I0 ⟨S, E, rc, E1, false, I, e1, t, fun H1 S1 p1 => ⟨rfl, S1, p1⟩⟩) fun d s1 ⟨H1, I1, ed, S1, p1⟩ => ?_)
      subst ed
      exact hb.run pins s1 σ H1 Q I1 ⟨S1, E1, rr, E', k, p1.ok, e, tk, fun H2 S2 p2 => q H2 S2 (p1.trans p2)⟩
    · cases e
  · cases e
/-- an operation that gives True or False, as a test -/
theorem so_cmpT {e : Expr} {t : TE} {c : CE} (h : PT X e (tTest t)) (i : ∀ σ H Q, tE X.K C c σ H Q → t σ H Q) (hb : ∀ E r E', evE C c E = some (r, E') → ∃ k, r = .sh (.bl k)) : PT X e (tT X.K C c) := by
  refine PT.imp h fun σ H Q ⟨S, E, r, E', k, I, e, tk, q⟩ => i σ H _ ?_
  obtain ⟨k', rfl⟩ := hb E r E' e
  refine ⟨S, E, _, E', I, e, fun v H1 S1 p1 r1 => ?_⟩
  have tk : some k' = some k := tk
  cases tk
  cases r1 with
  | sh r => cases r; exact ⟨_, rfl, q H1 S1 p1⟩
end
end Fi
end

section
/-! FiF: places, slices, calls, methods. Own work. -/
namespace Fi
open PySem PySem.Spec L2
section
variable {X : Cx} {N : List Str} {sc W : Nms} {C : Ctx} {F : List (Str × Nat)} {n : Nat}

theorem dget_rep {S H : Hp} {x y : V} {kvs : List (DKey × D)} {dy : D} {k : DKey} (e : Same S H) (hx : Vw X.K S H (.dct false kvs) x) (hy : Vw X.K S H dy y) (hk : dy.key = some k) (ok : k.ok false = true) :
    ∃ a o, x = .ref a ∧ DGet H a y o ∧ (∀ d, kget k kvs = some d → ∃ v, o = some v ∧ Rep X.K S d v) ∧ (kget k kvs = none → o = none) := by
  obtain ⟨a, es, rfl, ha, r⟩ := hx.dK e
  obtain ⟨j, hj, rfl⟩ := key_rep hy hk ok
  obtain ⟨g1, g2⟩ := get_rep r hj
  exact ⟨a, _, rfl, DGet.k ha, g1, g2⟩
theorem so_idx (hu : X.A.units + 1 < cLine) {a b : Expr} {ca cb : CE} {pos : Pos} (hs : isSlice b = false) (ha : PE X a (tE X.K C ca)) (hb : PE X b (tE X.K C cb)) : PE X (.Subscript a b pos) (tE X.K C (.idx ca cb)) := by
  refine PE.imp (PE.or (pe_ix ix_seq ha hb (plain_ix hs)) (pe_dget hu ha hb (plain_ix hs))) fun σ H Q ⟨S, E, r, E', I, e, q⟩ => ?_
  unfold evE at e
  split at e
  · rename_i ra E1 e1
    split at e
    · rename_i rb E2 e2
      split at e
      · rename_i da db va vb
        simp only [Option.map_eq_some_iff] at e
        obtain ⟨p, hp, e⟩ := e
        cases e
        by_cases nd : notDct da = true
        · left
          refine op_kept I e1 fun x H1 S1 p1 l1 => ?_
          refine op_kept p1.ok e2 fun y H2 S2 p2 l2 => ?_
          have p12 := p1.trans p2
          exact prim_ix p12.sub ((l1.mono p2.grow).vw p12.ok va) (l2.vw p12.ok vb) hp nd fun v H' S' x r => op_end I q p12 x r
        · right
          refine op_kept I e1 fun x H1 S1 p1 l1 => ?_
          refine op_kept p1.ok e2 fun y H2 S2 p2 l2 => ?_
          have p12 := p1.trans p2
          have vx := (l1.mono p2.grow).vw p12.ok va
          have vy := l2.vw p12.ok vb
          unfold ixD at hp
          split at hp <;> first | (exact absurd rfl nd) | skip
          · simp only [Option.bind_eq_some_iff] at hp
            obtain ⟨k, hk, hp⟩ := hp
            split at hp
            · rename_i ok
              simp only [Option.map_eq_some_iff] at hp
              obtain ⟨d, hd, rfl⟩ := hp
              obtain ⟨a, o, ex, g, g1, _⟩ := dget_rep p12.sub vx vy hk ok
              obtain ⟨v, rfl, rv⟩ := g1 d hd
              exact ⟨a, v, ex, g, op_end I q p12 (.refl p12.sub) (.sc rv)⟩
            · cases hp
          · cases hp
      · cases e
    · cases e
  · cases e

theorem so_no : PO X none (tO X.K C .no) := by
  refine PO.imp po_none fun σ H Q ⟨S, E, i, E', I, e, q⟩ => ?_
  unfold evO at e
  cases e
  exact q H S (.refl I)
theorem so_so {a : Expr} {c : CE} (h : PE X a (tE X.K C c)) : PO X (some a) (tO X.K C (.so c)) := by
  refine PO.imp (po_some h) fun σ H Q ⟨S, E, i, E', I, e, q⟩ => ?_
  unfold evO at e
  split at e
  · rename_i r E1 e1
    split at e
    · rename_i i va
      cases e
      refine op_kept I e1 fun x H1 S1 p1 l1 => ?_
      have := (l1.vw p1.ok (by rw [vw_fz]; exact va)).int
      exact ⟨_, this, q H1 S1 p1⟩
    · cases e
  · cases e
theorem so_cut {a : Expr} {lo hi : Option Expr} {ca : CE} {cl ch : CO} {p2 pos : Pos} (ha : PE X a (tE X.K C ca)) (hl : PO X lo (tO X.K C cl)) (hh : PO X hi (tO X.K C ch)) : PE X (.Subscript a (.Slice lo hi none p2) pos) (tE X.K C (.cut ca cl ch)) := by
  refine PE.imp (pe_slice sl_any ha hl hh) fun σ H Q ⟨S, E, r, E', I, e, q⟩ => ?_
  unfold evE at e
  split at e
  · rename_i ra E1 e1
    split at e
    · rename_i l E2 e2
      split at e
      · rename_i h E3 e3
        split at e
        · rename_i da va
          simp only [Option.map_eq_some_iff] at e
          obtain ⟨p, hp, e⟩ := e
          cases e
          refine op_kept I e1 fun x H1 S1 p1 l1 => ?_
          refine ⟨S1, E1, l, E2, p1.ok, e2, fun H2 S2 p2 => ?_⟩
          refine ⟨S2, E2, h, E', p2.ok, e3, fun H3 S3 p3 => ?_⟩
          have p13 := (p1.trans p2).trans p3
          exact prim_cut p13.sub ((l1.mono (p2.grow.trans p3.grow)).vw p13.ok va) hp fun v H' S' x r => op_end I q p13 x r
        · cases e
      · cases e
    · cases e
  · cases e

/-! ### built-ins -/
theorem so_blt {e : Expr} {cs : CEs} {f : Blt} {r : List V → Hp → VK → Prop} (h : PE X e (tCB r (tEs X.K C cs))) (pr : PrimC X.K r (bltD f)) : PE X e (tE X.K C (.blt f cs)) := by
  refine PE.imp h fun σ H Q ⟨S, E, rr, E', I, e, q⟩ => ?_
  unfold evE at e
  split at e
  · rename_i rs E1 e1
    split at e
    · rename_i ds va
      simp only [Option.map_eq_some_iff] at e
      obtain ⟨p, hp, e⟩ := e
      cases e
      refine ⟨S, E, rs, E', I, e1, fun vs H1 S1 p1 l1 => ?_⟩
      exact pr S1 H1 vs ds p Q p1.sub (l1.vws p1.ok va) hp fun v H' S' x r => op_end I q p1 x r
    · cases e
  · cases e

/-! ### methods that change nothing -/
theorem ty_join {d : D} (h : mthTy .join d = true) : ∃ s, d = .str s := by
  cases d <;> first | exact ⟨_, rfl⟩ | (simp [mthTy] at h)
theorem ty_get {d : D} (h : mthTy .get d = true) : ∃ kvs, d = .dct false kvs := by
  cases d with
  | dct t kvs => cases t <;> first | exact ⟨_, rfl⟩ | (simp [mthTy] at h)
  | _ => simp [mthTy] at h
theorem so_join {o e : Expr} {co : CE} {cs : CEs} {apos cpos : Pos} (hb : isBare o = false) (hs : isStar e = false) (hl : (apos.endLine == cpos.line) = true) (ho : PE X o (tE X.K C co)) (ha : PA X [e] (tEs X.K C cs)) :
    PE X (.Call (.Attribute o "join" apos) [e] [] cpos) (tE X.K C (.mth .join co cs)) := by
  refine PE.imp (pe_bm PySem.F.plainAttrs_str PySem.F.slot_str_join PySem.F.type_str_join cr_join ho ha (base_ok hb) ?_ hl (star_cons hs) ?_) fun σ H Q ⟨S, E, rr, E', I, e, q⟩ => ?_
  · rw [star_cons hs]; rfl
  · rfl
  · unfold evE at e
    split at e
    · rename_i ro E1 e1
      split at e
      · rename_i d0 v0
        split at e
        · rename_i ty
          split at e
          · rename_i rs E2 e2
            split at e
            · rename_i d ds va vs'
              simp only [Option.map_eq_some_iff] at e
              obtain ⟨p, hp, e⟩ := e
              cases e
              refine op_kept I e1 fun x H1 S1 p1 l1 => ?_
              refine ⟨?_, S1, E1, rs, E', p1.ok, e2, fun vs H2 S2 p2 l2 => ?_⟩
              · have h0 := l1.vw p1.ok v0
                obtain ⟨s, rfl⟩ := ty_join ty
                rw [h0.str]; rfl
              · have p12 := p1.trans p2
                exact (prim_join p12.sub ((l1.mono p2.grow).vw p12.ok va) (l2.vws p12.ok vs') hp fun v H' S' x r => op_end I q p12 x r).1
            · cases e
          · cases e
        · cases e
      · cases e
    · cases e
theorem so_get {o e : Expr} {co c : CE} {apos cpos : Pos} (hu : X.A.units + 1 < cLine) (hb : isBare o = false) (hs : isStar e = false) (hl : (apos.endLine == cpos.line) = true) (ho : PE X o (tE X.K C co)) (ha : PE X e (tE X.K C c)) :
    PE X (.Call (.Attribute o "get" apos) [e] [] cpos) (tE X.K C (.mth .get co (.cons c .nil))) := by
  have tr : starEach [e] X.env = [(false, eval e X.env)] := star_cons hs
  have m : M1 X o "get" apos e cpos := ⟨base_ok hb, by rw [tr]; rfl, hl, by rw [tr]; rfl⟩
  refine PE.imp (pe_dget1 hu ho ha m) fun σ H Q ⟨S, E, rr, E', I, e, q⟩ => ?_
  unfold evE at e
  split at e
  · rename_i ro E1 e1
    split at e
    · rename_i d0 v0
      split at e
      · rename_i ty
        split at e
        · rename_i rs E2 e2
          split at e
          · rename_i d ds va vs'
            simp only [Option.map_eq_some_iff] at e
            obtain ⟨p, hp, e⟩ := e
            cases e
            unfold evEs at e2
            split at e2
            · rename_i rk E3 e3
              unfold evEs at e2
              cases e2
              refine op_kept I e1 fun x H1 S1 p1 l1 => ?_
              have h0 := l1.vw p1.ok v0
              obtain ⟨kvs0, rfl⟩ := ty_get ty
              obtain ⟨a, es, rfl, ha', _⟩ := h0.dK p1.sub
              refine ⟨a, rfl, .inl ⟨es, .inl ha'⟩, ?_⟩
              refine op_kept p1.ok e3 fun y H2 S2 p2 l2 => ?_
              have p12 := p1.trans p2
              have vx := (l1.mono p2.grow).vw p12.ok va
              rw [List.mapM_cons] at vs'
              cases z : E'.vw rk.fz with
              | none => rw [z] at vs'; cases vs'
              | some dk =>
                rw [z] at vs'
                have vs' : some [dk] = some ds := vs'
                cases vs'
                have vy := l2.vw p12.ok z
                unfold mthD getB at hp
                simp only at hp
                split at hp
                · rename_i kvs k0 heq
                  cases heq
                  simp only [Option.bind_eq_some_iff] at hp
                  obtain ⟨k, hk, hp⟩ := hp
                  split at hp
                  · rename_i ok
                    cases hp
                    obtain ⟨b, o, ex, g, g1, g2⟩ := dget_rep p12.sub vx vy hk ok
                    cases ex
                    refine ⟨o, g, ?_⟩
                    cases w : kget k kvs with
                    | none =>
                      rw [w] at q
                      rw [g2 w]
                      exact op_end (p := .sc .non) I q p12 (.refl p12.sub) (.sc .non)
                    | some d =>
                      rw [w] at q
                      obtain ⟨v, rfl, rv⟩ := g1 d w
                      exact op_end (p := .sc d) I q p12 (.refl p12.sub) (.sc rv)
                  · cases hp
                · cases hp
            · cases e2
          · cases e
        · cases e
      · cases e
    · cases e
  · cases e

/-! ### methods that change their container, a slot's -/
/-- the end of such a method -/
theorem mut_end {S H S2 H2 : Hp} {σ : L2.St} {E E2 : Env} {i : Nat} {c c' r : D} {a : Addr} {o : HO} {v : V} {Q : VK} (p : Post X.K S H σ E S2 H2 σ E2) (g : E2.get i = .ow c) (es : σ[i]? = some (some (.ref a))) (h : OwnAt X.K S2 (some o) c') (rv : Rep X.K S2 r v)
    (q : ∀ v H' S', Post X.K S H σ E S' H' σ (E2.put i (.ow c')) → ResOk X.K S' H' H σ (E2.put i (.ow c')) v (.sh r) → Q v H') : Q v (upd H2 a o) :=
  q v _ S2 (p.trans (upd_ow p.ok g es h)) (.sh rv)
theorem own_lst {S H : Hp} {σ : L2.St} {E : Env} {i : Nat} {xs : List D} (I : EnvOk X.K S H σ E) (g : E.get i = .ow (.lst xs)) : ∃ a vs, σ[i]? = some (some (.ref a)) ∧ H a = some (.lst vs) ∧ RepL X.K S xs vs := by
  obtain ⟨a, e, _, o⟩ := I.ow i _ (.inl g)
  generalize z : H a = w at o
  cases o with
  | lst r => exact ⟨a, _, e, z, r⟩
theorem repL1 {K : PySem.W.Frag} {S : Hp} {d : D} {vs : List V} (h : RepL K S [d] vs) : ∃ v, vs = [v] ∧ Rep K S d v := by
  cases h with | cons a r => cases r; exact ⟨_, rfl, a⟩
theorem mutTy_lst {m : Mut} {c : D} (hm : m = .append ∨ m = .extend ∨ m = .pop) (h : mutTy m c = true) : ∃ xs, c = .lst xs := by
  rcases hm with rfl | rfl | rfl <;> cases c <;> first | exact ⟨_, rfl⟩ | (simp [mutTy] at h)
/-- a list's method of one argument -/
theorem so_mut1 (O : Ok X N sc C F n) {x : Str} {i : Nat} {id : String} {name : Str} {e : Expr} {cs : CEs} {m : Mut} {r : V → List V → Hp → VK → Prop} {p apos cpos : Pos} (hx : slot N x = some i) (hv : vis sc x = true) (hd : (x == ("__debug__" : Str)) = false) (hc : (x == ("__classdict__" : Str)) = false)
    (slt : Slot "list" name id) (hty : typeOf (.builtin id) = pure (.type "method_descriptor")) (hm : MtR X id r) (hs : isStar e = false) (hl : (apos.endLine == cpos.line) = true) (ha : PA X [e] (tEs X.K C cs))
    (hml : m = .append ∨ m = .extend ∨ m = .pop)
    (key : ∀ (S H : Hp) (l : Addr) (us vs : List V) (xs ds : List D) (rd c' : D) (Q : VK), Same S H → H l = some (.lst us) → RepL X.K S xs us → RepL X.K S ds vs → mutD m (.lst xs) ds = some (rd, c') →
      (∀ v o, OwnAt X.K S (some o) c' → Rep X.K S rd v → Q v (upd H l o)) → r (.ref l) vs H Q) :
    PE X (.Call (.Attribute (.Name x p) name apos) [e] [] cpos) (tE X.K C (.mut m i cs)) := by
  have hN : X.N[i]? = some x := by rw [O.eN]; exact slot_ok hx
  refine PE.imp (pe_bm PySem.F.plainAttrs_list slt hty hm (pe_var hN (O.vis hv) hd hc) ha (base_ok rfl) ?_ hl (star_cons hs) ?_) fun σ H Q ⟨S, E, rr, E', I, e, q⟩ => ?_
  · rw [star_cons hs]; rfl
  · rfl
  · unfold evE at e
    split at e
    · rename_i c0 g0
      split at e
      · rename_i ty
        split at e
        · rename_i rs E1 e1
          split at e
          · rename_i ds E2 e2
            split at e
            · rename_i c g
              split at e
              · rename_i rd c' hmu
                cases e
                obtain ⟨xs0, rfl⟩ := mutTy_lst hml ty
                obtain ⟨a, us0, es, ha0, _⟩ := own_lst I g0
                refine ⟨_, es, .inl ⟨rfl, _, .of ha0⟩, S, E, rs, E1, I, e1, fun vs H1 S1 p1 l1 => ?_⟩
                obtain ⟨S2, p2, rep⟩ := l1.tks p1.ok e2
                have p12 := p1.trans p2
                have hc' : ∃ xs, c = .lst xs := by
                  rcases hml with rfl | rfl | rfl
                  · unfold mutD appendB at hmu; simp only at hmu; split at hmu <;> first | exact ⟨_, rfl⟩ | cases hmu
                  · unfold mutD extendB at hmu; simp only at hmu; split at hmu <;> first | exact ⟨_, rfl⟩ | cases hmu
                  · unfold mutD popB at hmu; simp only at hmu; split at hmu <;> first | exact ⟨_, rfl⟩ | cases hmu
                obtain ⟨xs, rfl⟩ := hc'
                obtain ⟨a', us, es', ha', ru⟩ := own_lst p12.ok g
                rw [es] at es'; cases es'
                exact key S2 H1 a us vs xs ds rd c' Q p12.sub ha' ru rep hmu fun v o ho rv => mut_end p12 g es ho rv q
              · cases e
            · cases e
          · cases e
        · cases e
      · cases e
    · cases e
theorem so_append (O : Ok X N sc C F n) {x : Str} {i : Nat} {e : Expr} {cs : CEs} {p apos cpos : Pos} (hx : slot N x = some i) (hv : vis sc x = true) (hd : (x == ("__debug__" : Str)) = false) (hc : (x == ("__classdict__" : Str)) = false)
    (hs : isStar e = false) (hl : (apos.endLine == cpos.line) = true) (ha : PA X [e] (tEs X.K C cs)) : PE X (.Call (.Attribute (.Name x p) "append" apos) [e] [] cpos) (tE X.K C (.mut .append i cs)) :=
  so_mut1 O hx hv hd hc PySem.F.slot_list_append PySem.F.type_list_append mt_append hs hl ha (.inl rfl) fun S H l us vs xs ds rd c' Q e hl ru rv hm q => by
    unfold mutD appendB at hm
    simp only at hm
    split at hm
    · rename_i xs' d heq
      cases heq
      split at hm
      · rename_i hz
        cases hm
        obtain ⟨v, rfl, hr⟩ := repL1 rv
        refine ⟨l, us, v, rfl, rfl, hl, ?_, q _ _ (.lst (ru.append (.cons hr .nil))) .non⟩
        rw [← ru.length, ← big_eq]; exact hz
      · cases hm
    · cases hm
theorem so_extend (O : Ok X N sc C F n) {x : Str} {i : Nat} {e : Expr} {cs : CEs} {p apos cpos : Pos} (hx : slot N x = some i) (hv : vis sc x = true) (hd : (x == ("__debug__" : Str)) = false) (hc : (x == ("__classdict__" : Str)) = false)
    (hs : isStar e = false) (hl : (apos.endLine == cpos.line) = true) (ha : PA X [e] (tEs X.K C cs)) : PE X (.Call (.Attribute (.Name x p) "extend" apos) [e] [] cpos) (tE X.K C (.mut .extend i cs)) :=
  so_mut1 O hx hv hd hc PySem.F.slot_list_extend PySem.F.type_list_extend mt_extend hs hl ha (.inr (.inl rfl)) fun S H l us vs xs ds rd c' Q e hl ru rv hm q => by
    unfold mutD extendB at hm
    simp only at hm
    split at hm
    · rename_i xs' ys heq
      cases heq
      split at hm
      · rename_i hz
        cases hm
        obtain ⟨v, rfl, hr⟩ := repL1 rv
        cases hr with
        | lst hb rb =>
          refine ⟨l, _, us, _, rfl, rfl, hl, e _ _ hb, ?_, q _ _ (.lst (ru.append rb)) .non⟩
          rw [← ru.length, ← rb.length, ← big_eq]; exact hz
      · cases hm
    · cases hm
theorem so_pop (O : Ok X N sc C F n) {x : Str} {i : Nat} {p apos cpos : Pos} (hx : slot N x = some i) (hv : vis sc x = true) (hd : (x == ("__debug__" : Str)) = false) (hc : (x == ("__classdict__" : Str)) = false)
    (hl : (apos.endLine == cpos.line) = true) : PE X (.Call (.Attribute (.Name x p) "pop" apos) [] [] cpos) (tE X.K C (.mut .pop i .nil)) := by
  have hN : X.N[i]? = some x := by rw [O.eN]; exact slot_ok hx
  refine PE.imp (pe_bm0 PySem.F.plainAttrs_list PySem.F.slot_list_pop PySem.F.type_list_pop mt_pop (pe_var hN (O.vis hv) hd hc) (base_ok rfl) hl) fun σ H Q ⟨S, E, rr, E', I, e, q⟩ => ?_
  unfold evE at e
  split at e
  · rename_i c0 g0
    split at e
    · rename_i ty
      split at e
      · rename_i rs E1 e1
        split at e
        · rename_i ds E2 e2
          split at e
          · rename_i c g
            split at e
            · rename_i rd c' hmu
              cases e
              unfold evEs at e1
              cases e1
              unfold Env.tks at e2
              cases e2
              rw [g0] at g; cases g
              obtain ⟨xs, rfl⟩ := mutTy_lst (.inr (.inr rfl)) ty
              obtain ⟨a, us, es, ha, ru⟩ := own_lst I g0
              refine ⟨_, es, .inl ⟨rfl, _, .of ha⟩, ?_⟩
              unfold mutD popB at hmu
              simp only [Option.map_eq_some_iff] at hmu
              obtain ⟨y, hy, hmu⟩ := hmu
              cases hmu
              rw [List.getLast?_eq_getElem?] at hy
              obtain ⟨v, hv, rv⟩ := ru.get hy
              refine ⟨a, us, v, rfl, rfl, ha, by rw [← ru.length]; exact hv, ?_⟩
              exact mut_end (.refl I) g0 es (.lst ru.dropLast) rv q
            · cases e
          · cases e
        · cases e
      · cases e
    · cases e
  · cases e
end
end Fi
end

section
/-! FiG: calls of the program's own defs. Own work. -/
namespace Fi
open PySem PySem.Spec L2

inductive AOk (K : PySem.W.Frag) (S : Hp) (σ : L2.St) : V → Ar → Prop
  | sh {v : V} {d : D} : Rep K S d v → AOk K S σ v (.sh d)
  | ow {v : V} {i : Nat} {d : D} : σ[i]? = some (some v) → AOk K S σ v (.ow i d)
inductive AsOk (K : PySem.W.Frag) (S : Hp) (σ : L2.St) : List V → List Ar → Prop
  | nil : AsOk K S σ [] []
  | cons {v : V} {a : Ar} {vs : List V} {as : List Ar} : AOk K S σ v a → AsOk K S σ vs as → AsOk K S σ (v :: vs) (a :: as)
section
variable {K : PySem.W.Frag} {S S' H H' : Hp} {σ : L2.St} {E E1 E2 : Env}
theorem tk_ows {r : Rs} {d : D} (h : E.tk r = some (d, E1)) {i : Nat} {c : D} (g : E1.get i = .ow c) : E.get i = .ow c := by
  cases r with
  | sh _ => cases h; exact g
  | ow _ => cases h; exact g
  | pk j =>
    cases z : E.get j with
    | un => simp only [Env.tk, z] at h; cases h
    | lk _ => simp only [Env.tk, z] at h; cases h
    | sh _ => simp only [Env.tk, z] at h; cases h; exact g
    | ow x =>
      simp only [Env.tk, z] at h; cases h
      rw [get_put] at g
      split at g
      · cases g
      · exact g
theorem argsOf_ok {bs : List Bool} {rs : List Rs} : ∀ {S : Hp} {E : Env} {vs : List V} {as : List Ar} {E2 : Env}, EnvOk K S H σ E → LsOk K S σ vs rs → argsOf E bs rs = some (as, E2) →
    ∃ S2, Post K S H σ E S2 H σ E2 ∧ AsOk K S2 σ vs as ∧ (∀ i d, Ar.ow i d ∈ as → ∀ c, E2.get i = .ow c → c = d) ∧ (∀ i c, E2.get i = .ow c → E.get i = .ow c) := by
  induction rs generalizing bs with
  | nil =>
    intro S E vs as E2 I l h
    cases l
    cases bs with
    | nil => cases h; exact ⟨S, .refl I, .nil, fun _ _ z => (by cases z), fun _ _ g => g⟩
    | cons b bs => cases b <;> cases h
  | cons r rs ih =>
    intro S E vs as E2 I l h
    cases l with
    | @cons v _ vs _ la lr =>
      cases bs with
      | nil => cases h
      | cons b bs =>
        cases b with
        | true =>
          cases r with
          | sh _ => cases h
          | ow _ => cases h
          | pk i =>
            simp only [argsOf] at h
            split at h
            · rename_i d g
              split at h
              · rename_i as' E3 e
                cases h
                obtain ⟨S2, p, ok, q1, q2⟩ := ih I lr e
                refine ⟨S2, p, .cons (.ow (by cases la with | pk z => exact z)) ok, fun j d' hm c gc => ?_, q2⟩
                rcases List.mem_cons.mp hm with z | z
                · cases z
                  have := q2 i c gc
                  rw [g] at this; cases this; rfl
                · exact q1 j d' z c gc
              · cases h
            · cases h
        | false =>
          simp only [argsOf] at h
          split at h
          · rename_i d E1 e1
            split at h
            · rename_i as' E3 e
              cases h
              obtain ⟨S1, p1, rep⟩ := la.tk I e1
              obtain ⟨S2, p, ok, q1, q2⟩ := ih p1.ok (lr.mono p1.grow) e
              refine ⟨S2, p1.trans p, .cons (.sh (rep.mono p.grow)) ok, fun j d' hm c gc => ?_, fun j c gc => tk_ows e1 (q2 j c gc)⟩
              rcases List.mem_cons.mp hm with z | z
              · cases z
              · exact q1 j d' z c gc
            · cases h
          · cases h
theorem mem_lent {as : List Ar} {i : Nat} : i ∈ lent as ↔ ∃ d, Ar.ow i d ∈ as := by
  induction as with
  | nil => simp [lent]
  | cons a as ih =>
    cases a with
    | sh d => simp [lent, ih]
    | ow j d =>
      simp only [lent, List.mem_cons, ih]
      constructor
      · rintro (rfl | ⟨d', h⟩)
        · exact ⟨d, .inl rfl⟩
        · exact ⟨d', .inr h⟩
      · rintro ⟨d', h | h⟩
        · cases h; exact .inl rfl
        · exact .inr ⟨d', h⟩
theorem AsOk.len {vs : List V} {as : List Ar} (h : AsOk K S σ vs as) : vs.length = as.length := by
  induction h with
  | nil => rfl
  | cons _ _ ih => simp [ih]
theorem AsOk.get {vs : List V} {as : List Ar} (h : AsOk K S σ vs as) : ∀ {k : Nat} {a : Ar}, as[k]? = some a → ∃ v, vs[k]? = some v ∧ AOk K S σ v a := by
  induction h with
  | nil => intro k a e; simp at e
  | @cons v a vs as h1 h2 ih =>
    intro k b e
    cases k with
    | zero => simp at e; subst e; exact ⟨v, rfl, h1⟩
    | succ k => simpa using ih (by simpa using e)
theorem lent_nodup {as : List Ar} (h : (lent as).Nodup) : ∀ {k m i : Nat} {d d' : D}, as[k]? = some (.ow i d) → as[m]? = some (.ow i d') → k = m := by
  induction as with
  | nil => intro k m i d d' e; simp at e
  | cons a as ih =>
    intro k m i d d' e f
    have nh : (lent as).Nodup := by
      cases a with
      | sh _ => exact h
      | ow _ _ => exact (List.nodup_cons.mp h).2
    cases k with
    | zero =>
      cases m with
      | zero => rfl
      | succ m =>
        simp at e f
        subst e
        exact absurd (mem_lent.mpr ⟨d', List.mem_of_getElem? f⟩) (List.nodup_cons.mp h).1
    | succ k =>
      cases m with
      | zero =>
        simp at e f
        subst f
        exact absurd (mem_lent.mpr ⟨d, List.mem_of_getElem? e⟩) (List.nodup_cons.mp h).1
      | succ m => exact congrArg (· + 1) (ih nh (i := i) (d := d) (d' := d') (by simpa using e) (by simpa using f))
/-- the containers behind the call, slot by slot -/
theorem behind_get {as : List Ar} : ∀ {ss : List Sl} {i : Nat}, i ∉ lent as → (behind E as ss).get i = E.get i := by
  induction as with
  | nil => intro ss i h; cases ss <;> rfl
  | cons a as ih =>
    intro ss i h
    cases a with
    | sh d =>
      cases ss with
      | nil => rfl
      | cons s ss => exact ih (ss := ss) h
    | ow j d =>
      cases ss with
      | nil => rfl
      | cons s ss =>
        have hij : i ≠ j := by rintro rfl; exact h List.mem_cons_self
        show ((behind E as ss).put j s).get i = _
        rw [get_put_ne hij]
        exact ih (ss := ss) fun z => h (List.mem_cons_of_mem _ z)
theorem behind_len {as : List Ar} : ∀ {ss : List Sl}, (behind E as ss).sl.length = E.sl.length ∧ (behind E as ss).ro = E.ro := by
  induction as with
  | nil => intro ss; cases ss <;> exact ⟨rfl, rfl⟩
  | cons a as ih =>
    intro ss
    cases a with
    | sh d =>
      cases ss with
      | nil => exact ⟨rfl, rfl⟩
      | cons s ss => exact ih (ss := ss)
    | ow j d =>
      cases ss with
      | nil => exact ⟨rfl, rfl⟩
      | cons s ss => exact ⟨put_len.trans (ih (ss := ss)).1, (ih (ss := ss)).2⟩
theorem behind_at {as : List Ar} : ∀ {ss : List Sl}, (lent as).Nodup → ss.length = as.length → ∀ {k i : Nat} {d : D} {s : Sl}, as[k]? = some (.ow i d) → ss[k]? = some s → i < E.sl.length → (behind E as ss).get i = s := by
  induction as with
  | nil => intro ss _ _ k i d s e; simp at e
  | cons a as ih =>
    intro ss nd hl k i d s e f hi
    cases ss with
    | nil => simp at hl
    | cons s0 ss =>
      have hl' : ss.length = as.length := by simpa using hl
      cases a with
      | sh d0 =>
        cases k with
        | zero => simp at e
        | succ k => exact ih (ss := ss) nd hl' (by simpa using e) (by simpa using f) hi
      | ow j d0 =>
        obtain ⟨n1, n2⟩ := List.nodup_cons.mp nd
        show ((behind E as ss).put j s0).get i = s
        cases k with
        | zero =>
          simp at e f
          obtain ⟨rfl, rfl⟩ := e
          subst f
          exact get_put_same (by rw [behind_len.1]; exact hi)
        | succ k =>
          simp at e f
          have hij : i ≠ j := by
            rintro rfl
            exact n1 (mem_lent.mpr ⟨d, List.mem_of_getElem? e⟩)
          rw [get_put_ne hij]
          exact ih (ss := ss) n2 hl' e f hi
theorem lentOk_of {as : List Ar} (h : lentOk E as = true) : (lent as).Nodup ∧ ∀ i ∈ lent as, ∃ c, E.get i = .ow c := by
  unfold lentOk at h
  simp only [Bool.and_eq_true, decide_eq_true_eq, List.all_eq_true] at h
  refine ⟨h.2, fun i hi => ?_⟩
  have := h.1 i hi
  split at this
  · rename_i c z; exact ⟨c, z⟩
  · cases this
/-- the arguments, as the callee has them -/
theorem args_ok {vs : List V} {as : List Ar} (I : EnvOk K S H σ E) (a : AsOk K S σ vs as) (ok : lentOk E as = true) (q : ∀ i d, Ar.ow i d ∈ as → ∀ c, E.get i = .ow c → c = d) : ArgsOk K S H vs (as.map Ar.pass) := by
  obtain ⟨nd, ow⟩ := lentOk_of ok
  have at_ : ∀ {k : Nat} {d : D}, (as.map Ar.pass)[k]? = some (true, d) → ∃ i, as[k]? = some (.ow i d) := fun {k d} h => by
    rw [List.getElem?_map] at h
    cases z : as[k]? with
    | none => rw [z] at h; cases h
    | some x =>
      rw [z] at h
      cases x with
      | sh _ => cases h
      | ow i d' => cases h; exact ⟨i, rfl⟩
  refine ⟨I.sub, by rw [List.length_map]; exact a.len, fun k d h => ?_, fun k d h => ?_, fun k m d e b h1 h2 e1 e2 => ?_⟩
  · rw [List.getElem?_map] at h
    cases z : as[k]? with
    | none => rw [z] at h; cases h
    | some x =>
      rw [z] at h
      cases x with
      | ow _ _ => cases h
      | sh d' =>
        cases h
        obtain ⟨v, hv, r⟩ := a.get z
        cases r with
        | sh r => exact ⟨v, hv, r⟩
  · obtain ⟨i, z⟩ := at_ h
    obtain ⟨v, hv, r⟩ := a.get z
    cases r with
    | ow es =>
      have hm := List.mem_of_getElem? z
      obtain ⟨c, g⟩ := ow i (mem_lent.mpr ⟨d, hm⟩)
      have := q i d hm c g
      subst this
      obtain ⟨b, e1, s, o⟩ := I.ow i c (.inl g)
      rw [es] at e1; cases e1
      exact ⟨b, hv, s, o⟩
  · obtain ⟨i, z⟩ := at_ h1
    obtain ⟨j, y⟩ := at_ h2
    obtain ⟨v, hv, r⟩ := a.get z
    obtain ⟨u, hu, r'⟩ := a.get y
    rw [e1] at hv; cases hv
    rw [e2] at hu; cases hu
    cases r with
    | ow es =>
      cases r' with
      | ow es' =>
        obtain ⟨c, g⟩ := ow i (mem_lent.mpr ⟨d, List.mem_of_getElem? z⟩)
        obtain ⟨c', g'⟩ := ow j (mem_lent.mpr ⟨e, List.mem_of_getElem? y⟩)
        have hij := I.inj i j b ⟨c, .inl g⟩ ⟨c', .inl g'⟩ es es'
        subst hij
        exact lent_nodup nd z y
/-- behind the call -/
theorem call_post {vs : List V} {as : List Ar} {S' H' : Hp} {v : V} {r : Rs} {ss : List Sl} (I : EnvOk K S H σ E) (a : AsOk K S σ vs as) (ok : lentOk E as = true) (q : ∀ i d, Ar.ow i d ∈ as → ∀ c, E.get i = .ow c → c = d)
    (p : CallPost K S H vs (as.map Ar.pass) S' H' v r ss) : Post K S H σ E S' H' σ (behind E as ss) ∧ ResOk K S' H' H σ (behind E as ss) v r := by
  obtain ⟨nd, ow⟩ := lentOk_of ok
  have hl : ss.length = as.length := by have := p.len; rwa [List.length_map] at this
  -- a lent slot
  have lt : ∀ i, i ∈ lent as → ∃ (k : Nat) (d : D) (b : Addr) (s : Sl), as[k]? = some (Ar.ow i d) ∧ σ[i]? = some (some (.ref b)) ∧ FinOk K S' H' b s ∧ (behind E as ss).get i = s ∧ Lent vs (as.map Ar.pass) b := fun i hi => by
    obtain ⟨d, hm⟩ := mem_lent.mp hi
    obtain ⟨k, hk⟩ := List.mem_iff_getElem?.mp hm
    obtain ⟨c, g⟩ := ow i hi
    obtain ⟨u, hu, ra⟩ := a.get hk
    cases ra with
    | ow es =>
      obtain ⟨b, e1, _, _⟩ := I.ow i c (.inl g)
      rw [es] at e1; cases e1
      have hp : (as.map Ar.pass)[k]? = some (true, d) := by rw [List.getElem?_map, hk]; rfl
      obtain ⟨s, hs, fin⟩ := p.fin k d b hp hu
      exact ⟨k, d, b, s, hk, es, fin, behind_at nd hl hk hs (get_lt g (by simp)), ⟨k, d, hp, hu⟩⟩
  have lentI : ∀ b, Lent vs (as.map Ar.pass) b → ∃ i ∈ lent as, σ[i]? = some (some (.ref b)) := fun b ⟨k, d, hp, hu⟩ => by
    rw [List.getElem?_map] at hp
    cases z : as[k]? with
    | none => rw [z] at hp; cases hp
    | some x =>
      rw [z] at hp
      cases x with
      | sh _ => cases hp
      | ow i d' =>
        cases hp
        obtain ⟨u, hu', ra⟩ := a.get z
        rw [hu] at hu'; cases hu'
        cases ra with
        | ow es => exact ⟨i, mem_lent.mpr ⟨d, List.mem_of_getElem? z⟩, es⟩
  have isow : ∀ i, (behind E as ss).isOw i → E.isOw i := fun i h => by
    by_cases hi : i ∈ lent as
    · obtain ⟨c, g⟩ := ow i hi; exact ⟨c, .inl g⟩
    · obtain ⟨d, h⟩ := h; rw [behind_get hi] at h; exact ⟨d, h⟩
  have nlent : ∀ i b, i ∉ lent as → E.isOw i → σ[i]? = some (some (.ref b)) → ¬ Lent vs (as.map Ar.pass) b := fun i b hi hw e hL => by
    obtain ⟨j, hj, ej⟩ := lentI b hL
    obtain ⟨c, g⟩ := ow j hj
    exact hi (by rw [I.inj i j b hw ⟨c, .inl g⟩ e ej]; exact hj)
  have ownL : ∀ b, Lent vs (as.map Ar.pass) b → Own σ E b := fun b hL => by
    obtain ⟨j, hj, ej⟩ := lentI b hL
    obtain ⟨c, g⟩ := ow j hj
    exact ⟨j, ⟨c, .inl g⟩, ej⟩
  have P : Post K S H σ E S' H' σ (behind E as ss) := by
    refine ⟨⟨p.sub, by rw [behind_len.1]; exact I.len, fun i d h => ?_, fun i d h => ?_, fun i j b hi hj => I.inj i j b (isow i hi) (isow j hj), fun i hi => ?_⟩, p.grow, fun b o n e => p.frame b o (fun z => n (ownL b z)) e, fun b o n e s => p.keepS b o (fun z => n (ownL b z)) e s, p.dom, fun b ⟨i, hi, e⟩ => .inl ⟨i, isow i hi, e⟩, behind_len.2, fun _ _ => rfl, fun i d h => ?_⟩
    · by_cases hi : i ∈ lent as
      · obtain ⟨k, d', b, s, _, es, fin, g, _⟩ := lt i hi
        rw [g] at h; subst h
        cases fin with
        | sh r _ => exact ⟨_, es, r⟩
      · rw [behind_get hi] at h
        obtain ⟨u, e, r⟩ := I.sh i d h
        exact ⟨u, e, r.mono p.grow⟩
    · by_cases hi : i ∈ lent as
      · obtain ⟨k, d', b, s, _, es, fin, g, _⟩ := lt i hi
        rw [g] at h
        cases fin with
        | ow s o =>
          rcases h with h | h <;> cases h
          exact ⟨b, es, s, o⟩
        | sh _ _ => rcases h with h | h <;> cases h
      · rw [behind_get hi] at h
        obtain ⟨b, e, s, o⟩ := I.ow i d h
        have nl := nlent i b hi ⟨d, h⟩ e
        obtain ⟨x, ex⟩ := o.some
        refine ⟨b, e, p.keepS b x nl ex s, ?_⟩
        rw [p.frame b x nl ex]
        rw [ex] at o
        exact o.mono p.grow
    · rw [behind_len.2] at hi
      obtain ⟨b, e, h⟩ := I.ro i hi
      refine ⟨b, e, ?_⟩
      by_cases hL : i ∈ lent as
      · obtain ⟨k, d', b', s, _, es, fin, g, _⟩ := lt i hL
        rw [e] at es; cases es
        cases fin with
        | ow _ _ => exact .inl ⟨_, .inl g⟩
        | sh _ n => exact .inr n
      · rcases h with ⟨d, h⟩ | h
        · exact .inl ⟨d, by rw [behind_get hL]; exact h⟩
        · right
          cases z : S b with
          | none => exact absurd z h
          | some y => rw [p.grow b y z]; simp
    · have hi : i ∉ lent as := fun z => by
        obtain ⟨c, g⟩ := ow i z
        rw [g] at h; cases h
      rw [behind_get hi]; exact ⟨h, rfl⟩
  refine ⟨P, ?_⟩
  cases p.give with
  | sh r => exact .sh r
  | ow e n s o =>
    refine .ow e n s o fun ⟨i, hi, es⟩ => ?_
    obtain ⟨c, hc⟩ := isow i hi
    obtain ⟨b, e', _, o'⟩ := I.ow i c hc
    rw [es] at e'; cases e'
    obtain ⟨x, ex⟩ := o'.some
    rw [n] at ex; cases ex
end

section
variable {X : Cx} {N : List Str} {sc W : Nms} {C : Ctx} {F : List (Str × Nat)} {n : Nat}
theorem mapM_len {α β : Type} (f : α → Option β) : ∀ {l : List α} {r : List β}, l.mapM f = some r → r.length = l.length := by
  intro l
  induction l with
  | nil => intro r h; simp at h; subst h; rfl
  | cons a l ih =>
    intro r h
    rw [List.mapM_cons] at h
    cases z : f a with
    | none => rw [z] at h; cases h
    | some b =>
      rw [z] at h
      cases y : l.mapM f with
      | none => rw [y] at h; cases h
      | some r' => rw [y] at h; have h : some (b :: r') = some r := h; cases h; simp [ih y]
theorem evEs_len {es : List Expr} {cs : CEs} : ∀ {E E1 : Env} {rs : List Rs}, evEs C cs E = some (rs, E1) → True := fun _ => trivial
/-- f(..), f a def of the program's own -/
theorem call_read {f : Str} {m : Nat} {cs : CEs} {t : TA} {σ : L2.St} {H : Hp} {Q : VK} (ht : ∀ R, tEs X.K C cs σ H R → t σ H R) (h : tE X.K C (.call f cs) σ H Q) (len : ∀ E rs E1, evEs C cs E = some (rs, E1) → rs.length = m) :
    tCall (spD X.K (C.call f) m) [] E0 t σ H Q := by
  obtain ⟨S, E, rr, E', I, e, q⟩ := h
  unfold evE at e
  split at e
  · rename_i rs E1 e1
    split at e
    · rename_i as E2 e2
      split at e
      · rename_i ok
        split at e
        · rename_i r ss e3
          cases e
          refine ht _ ⟨S, E, rs, E1, I, e1, fun vs H1 S1 p1 l1 => ?_⟩
          obtain ⟨S2, p2, aok, q1, _⟩ := argsOf_ok p1.ok l1 e2
          have p12 := p1.trans p2
          rw [List.append_nil]
          refine ⟨by rw [l1.len]; exact len E rs E1 e1, S2, _, _, _, args_ok p2.ok aok ok q1, e3, fun v H' S' cp => ?_⟩
          obtain ⟨p3, rok⟩ := call_post p2.ok aok ok q1 cp
          exact q v H' S' (p12.trans p3) (rok.from p12.dom)
        · cases e
      · cases e
    · cases e
  · cases e
def CEs.len : CEs → Nat
  | .nil => 0
  | .cons _ r => r.len + 1
theorem evEs_length : ∀ (cs : CEs) (E : Env) (rs : List Rs) (E1 : Env), evEs C cs E = some (rs, E1) → rs.length = cs.len
  | .nil, E, rs, E1, h => by unfold evEs at h; cases h; rfl
  | .cons c cs, E, rs, E1, h => by
    unfold evEs at h
    split at h
    · split at h
      · rename_i e2
        cases h
        simp [CEs.len, evEs_length cs _ _ _ e2]
      · cases h
    · cases h
theorem so_call (O : Ok X N sc C F n) {f : Str} {m : Nat} {e : Expr} {es : List Expr} {cs : CEs} {p pos : Pos} (hf : F.lookup f = some m) (hg : sc.lookup f = some .globalImplicit) (hd : (f == ("__debug__" : Str)) = false) (hs : isStar e = false) (hss : es.all (fun e => !isStar e) = true) (hm : cs.len = m) (ha : PA X (e :: es) (tEs X.K C cs)) :
    PE X (.Call (.Name f p) (e :: es) [] pos) (tE X.K C (.call f cs)) := by
  obtain ⟨fa, fd, ps, mg, kp, hb, fn⟩ := O.funs f m hf
  refine PE.imp (pe_call fn O.room (O.gl hg) mg kp hb .nil pass0 ha hd (star_cons hs) (star_any hss)) fun σ H Q h => ?_
  exact call_read (fun R r => r) h fun E rs E1 e1 => by rw [← hm]; exact evEs_length cs E rs E1 e1
theorem so_call0 (O : Ok X N sc C F n) {f : Str} {p pos : Pos} (hf : F.lookup f = some 0) (hg : sc.lookup f = some .globalImplicit) (hd : (f == ("__debug__" : Str)) = false) :
    PE X (.Call (.Name f p) [] [] pos) (tE X.K C (.call f .nil)) := by
  obtain ⟨fa, fd, ps, mg, kp, hb, fn⟩ := O.funs f 0 hf
  refine PE.imp (pe_call0 fn O.room (O.gl hg) mg kp hb .nil pass0 hd) fun σ H Q h => ?_
  refine call_read (fun R ⟨S, E, rs, E', I, e, q⟩ => ?_) h fun E rs E1 e1 => by unfold evEs at e1; cases e1; rfl
  unfold evEs at e
  cases e
  exact q [] H S (.refl I) .nil
end
end Fi
end

section
/-! FiH: what is walked, targets, comprehensions. Own work. -/
namespace Fi
open PySem PySem.Spec L2

/-! ### what is walked -/
structure WalkOk (K : PySem.W.Frag) (J : It) (S0 : Hp) (G : Hp → Hp → Prop) (ds : List D) : Prop where
  step : ∀ (S H : Hp) (i : Nat) (d : D), Same S0 S → Same S H → G S H → ds[i]? = some d → J.go i H ∧ ∀ x H', J.yld i H x H' → ∃ S', Ext S H S' H' ∧ Rep K S' d x
  stop : ∀ (S H : Hp), Same S0 S → Same S H → G S H → J.stop ds.length H
/-- the locked slot stands as it stood -/
def LockIn (E' : Env) (σ : L2.St) (E'' : Env) (σ'' : L2.St) (l : Option (Nat × Bool)) : Prop :=
  ∀ i b, l = some (i, b) → ∀ d, E'.get i = .lk d → E''.get i = .lk d ∧ σ''[i]? = σ[i]?
def tI (K : PySem.W.Frag) (C : Ctx) (c : IT) : TI := fun σ H R => ∃ S E ds l E', EnvOk K S H σ E ∧ evI C c E = some (ds, l, E') ∧
  ∀ J H' S', Post K S H σ E S' H' σ E' → (∃ G, WalkOk K J S' G ds ∧ ∀ S'' H'' σ'' E'', EnvOk K S'' H'' σ'' E'' → Same S' S'' → LockIn E' σ E'' σ'' l → G S'' H'') →
    (∀ i b, l = some (i, b) → ∃ d, E'.get i = .lk d) → (∀ i, l = some (i, true) → ∀ d, E.get i ≠ .lk d) → R J H'
section
variable {X : Cx} {N : List Str} {sc W : Nms} {C : Ctx} {F : List (Str × Nat)} {n : Nat} {tg : Expr}
theorem walk_list {K : PySem.W.Frag} {S0 : Hp} {a : Addr} {vs : List V} {ds : List D} (r : RepL K S0 ds vs) {G : Hp → Hp → Prop} (g : ∀ S H, Same S0 S → Same S H → G S H → ∃ vs', H a = some (.lst vs') ∧ RepL K S ds vs') : WalkOk K (Itl K a) S0 G ds := by
  refine ⟨fun S H i d s0 s1 hg hd => ?_, fun S H s0 s1 hg => ?_⟩
  · obtain ⟨vs', hv, r'⟩ := g S H s0 s1 hg
    obtain ⟨x, hx, rx⟩ := r'.get hd
    refine ⟨⟨vs', x, .of hv, hx⟩, fun y H' hy => ?_⟩
    obtain ⟨rfl, hy⟩ := hy
    have := hy vs' (.of hv)
    rw [hx] at this; cases this
    exact ⟨S, .refl s1, rx⟩
  · obtain ⟨vs', hv, r'⟩ := g S H s0 s1 hg
    exact ⟨vs', .of hv, by rw [r'.length]; exact Nat.le_refl _⟩
theorem walk_tup {K : PySem.W.Frag} {S0 H0 : Hp} {a : Addr} {vs : List V} {ds : List D} (h : SqT K S0 a vs) (r : RepL K S0 ds vs) : WalkOk K (Itt K a) S0 (fun _ _ => True) ds := by
  refine ⟨fun S H i d s0 s1 hg hd => ?_, fun S H s0 s1 hg => ?_⟩
  · obtain ⟨x, hx, rx⟩ := r.get hd
    have hH := sqT_mono (s0.trans s1) h
    refine ⟨⟨vs, x, hH, hx⟩, fun y H' hy => ?_⟩
    obtain ⟨rfl, hy⟩ := hy
    have := hy vs hH
    rw [hx] at this; cases this
    exact ⟨S, .refl s1, rx.mono s0⟩
  · exact ⟨vs, sqT_mono (s0.trans s1) h, by rw [r.length]; exact Nat.le_refl _⟩
theorem walk_str {K : PySem.W.Frag} {S0 : Hp} {xs : Txt} : WalkOk K (Its (strOf xs)) S0 (fun _ _ => True) (xs.map fun c => .str [c]) := by
  refine ⟨fun S H i d s0 s1 hg hd => ?_, fun S H s0 s1 hg => ?_⟩
  · rw [List.getElem?_map] at hd
    cases z : xs[i]? with
    | none => rw [z] at hd; cases hd
    | some c =>
      rw [z] at hd; cases hd
      have hc : (strOf xs).cps[i]? = some c := by simp [strOf, z]
      refine ⟨?_, fun y H' hy => ?_⟩
      · show i < (strOf xs).cps.size
        have := (List.getElem?_eq_some_iff.mp z).1
        simpa [strOf] using this
      · obtain ⟨rfl, c', hc', rfl⟩ := hy
        rw [hc] at hc'; cases hc'
        exact ⟨S, .refl s1, .str [c]⟩
  · show (strOf xs).cps.size ≤ _
    simp [strOf]
theorem walk_rng {K : PySem.W.Frag} {S0 : Hp} (lo : Int) (n : Nat) : WalkOk K (Itr lo n) S0 (fun _ _ => True) ((List.range n).map fun (k : Nat) => .int (lo + k)) := by
  refine ⟨fun S H i d s0 s1 hg hd => ?_, fun S H s0 s1 hg => ?_⟩
  · rw [List.getElem?_map] at hd
    cases z : (List.range n)[i]? with
    | none => rw [z] at hd; cases hd
    | some k =>
      rw [z] at hd; cases hd
      have hi : i < n := by simpa using (List.getElem?_eq_some_iff.mp z).1
      rw [List.getElem?_range hi] at z
      cases z
      refine ⟨hi, fun y H' hy => ?_⟩
      obtain ⟨rfl, rfl⟩ := hy
      exact ⟨S, .refl s1, .int _⟩
  · show n ≤ _
    simp
def isSetD : Expr → Bool
  | .Set _ _ _ => true
  | _ => false
theorem fold_ok {e : Expr} (h : isSetD e = false) : ∀ (env : PySem.Env) (x : Value), foldedSetIterable e env x = pure x := by
  intro env x
  cases e <;> first | rfl | cases h
/-- a value that lasts is walked -/
theorem seq_sh {c : CE} {S H : Hp} {σ : L2.St} {E E1 : Env} {r : Rs} {d : D} {ds : List D} {R : It → Hp → Prop} (hd : seqD d = some ds) (I : EnvOk X.K S H σ E) (e1 : evE C c E = some (r, E1))
    (hv : ∀ v H1 S1, Post X.K S H σ E S1 H1 σ E1 → LOk X.K S1 σ v r.fz → Rep X.K S1 d v)
    (q : ∀ J H1 S1, Post X.K S H σ E S1 H1 σ E1 → (∃ G, WalkOk X.K J S1 G ds ∧ ∀ S H, G S H) → R J H1) :
    (iList X.K (tE X.K C c) σ H R ∨ iTup X.K (tE X.K C c) σ H R) ∨ iStr (tE X.K C c) σ H R := by
  cases d <;> simp only [seqD] at hd <;> try (cases hd; done)
  · split at hd
    · cases hd
      right
      refine op_kept I e1 fun v H1 S1 p1 l1 => ?_
      have rv := hv v H1 S1 p1 l1
      cases rv
      exact ⟨_, rfl, q _ H1 S1 p1 ⟨_, walk_str, fun _ _ => trivial⟩⟩
    · cases hd
  · cases hd
    left; right
    refine op_kept I e1 fun v H1 S1 p1 l1 => ?_
    have rv := hv v H1 S1 p1 l1
    cases rv with
    | tup ht rl => exact ⟨_, rfl, ⟨_, sqT_mono p1.sub ht⟩, q _ H1 S1 p1 ⟨_, walk_tup (H0 := H1) ht rl, fun _ _ => trivial⟩⟩
  · cases hd
    left; left
    refine op_kept I e1 fun v H1 S1 p1 l1 => ?_
    have rv := hv v H1 S1 p1 l1
    cases rv with
    | lst ht rl => exact ⟨_, rfl, ⟨_, .of (p1.sub _ _ ht)⟩, q _ H1 S1 p1 ⟨fun _ _ => True, walk_list rl (fun S' H' s0 s1 _ => ⟨_, s1 _ _ (s0 _ _ ht), rl.mono s0⟩), fun _ _ => trivial⟩⟩
theorem so_seq {e : Expr} {c : CE} (h : PE X e (tE X.K C c)) : PI X tg e (tI X.K C (.seq c)) := by
  refine PI.imp (PI.or (PI.or (pi_list h) (pi_tup h)) (pi_str h)) fun σ H R ⟨S, E, ds, l, E', I, e, q⟩ => ?_
  unfold evI at e
  split at e
  · rename_i r E1 e1
    split at e
    · rename_i d l' E2 e2
      simp only [Option.map_eq_some_iff] at e
      obtain ⟨ds', hd, e⟩ := e
      cases e
      have fin : l = none → E' = E1 → (∀ v H1 S1, Post X.K S H σ E S1 H1 σ E1 → LOk X.K S1 σ v r.fz → Rep X.K S1 d v) → (iList X.K (tE X.K C c) σ H R ∨ iTup X.K (tE X.K C c) σ H R) ∨ iStr (tE X.K C c) σ H R := fun hl hE hv => by
        subst hl hE
        exact seq_sh hd I e1 hv fun J H1 S1 p1 ⟨G, wk, g⟩ => q J H1 S1 p1 ⟨G, wk, fun S H _ _ _ _ _ => g S H⟩ (fun _ _ z => nomatch z) (fun _ z => nomatch z)
      cases r with
      | sh d0 => cases e2; exact fin rfl rfl fun v H1 S1 p1 l1 => by cases l1 with | sh rv => exact rv
      | ow d0 => cases e2; exact fin rfl rfl fun v H1 S1 p1 l1 => by cases l1 with | sh rv => exact rv
      | pk i =>
        cases g : E1.get i with
        | un => simp only [lock, g] at e2; cases e2
        | sh d0 =>
          simp only [lock, g] at e2; cases e2
          refine fin rfl rfl fun v H1 S1 p1 l1 => ?_
          cases l1 with
          | pk es =>
            obtain ⟨v', e', rv⟩ := p1.ok.sh i d g
            rw [es] at e'; cases e'
            exact rv
        | ow d0 =>
          simp only [lock, g] at e2; cases e2
          left; left
          refine op_kept I e1 fun v H1 S1 p1 l1 => ?_
          cases l1 with
          | pk es =>
            obtain ⟨a, e', sa, o⟩ := p1.ok.ow i d (.inl g)
            rw [es] at e'; cases e'
            have p2 := p1.trans (put_lk p1.ok g)
            have hi := get_lt g (by simp)
            generalize z : H1 a = w at o
            cases o with
            | dK _ => cases hd
            | dT _ => cases hd
            | lst rl =>
              cases hd
              refine ⟨a, rfl, ⟨_, .of z⟩, q _ H1 S1 p2 ⟨fun S H => OwnAt X.K S (H a) (.lst ds), walk_list rl (fun S' H' s0 s1 g => ?_), fun S2 H2 σ2 E2 I2 s2 lk => ?_⟩ (fun j b hj => by cases hj; exact ⟨_, get_put_same hi⟩) (fun j hj d' gj => ?_)⟩
              · generalize y : H' a = w at g
                cases g with
                | lst r => exact ⟨_, rfl, r⟩
              · obtain ⟨l1, l2⟩ := lk i true rfl _ (get_put_same hi)
                obtain ⟨b, e3, _, o3⟩ := I2.ow i _ (.inr l1)
                rw [l2, es] at e3; cases e3
                exact o3
              · cases hj
                have := (p1.lkd i d' gj).1
                rw [g] at this; cases this
        | lk d0 =>
          simp only [lock, g] at e2; cases e2
          left; left
          refine op_kept I e1 fun v H1 S1 p1 l1 => ?_
          cases l1 with
          | pk es =>
            obtain ⟨a, e', sa, o⟩ := p1.ok.ow i d (.inr g)
            rw [es] at e'; cases e'
            generalize z : H1 a = w at o
            cases o with
            | dK _ => cases hd
            | dT _ => cases hd
            | lst rl =>
              cases hd
              refine ⟨a, rfl, ⟨_, .of z⟩, q _ H1 S1 p1 ⟨fun S H => OwnAt X.K S (H a) (.lst ds), walk_list rl (fun S' H' s0 s1 g => ?_), fun S2 H2 σ2 E2 I2 s2 lk => ?_⟩ (fun j b hj => by cases hj; exact ⟨_, g⟩) (fun j hj => by cases hj)⟩
              · generalize y : H' a = w at g
                cases g with
                | lst r => exact ⟨_, rfl, r⟩
              · obtain ⟨l1, l2⟩ := lk i false rfl _ g
                obtain ⟨b, e3, _, o3⟩ := I2.ow i _ (.inr l1)
                rw [l2, es] at e3; cases e3
                exact o3
    · cases e
  · cases e
theorem rng_ok {a b : Int} {ds : List D} (h : rngD a b 1 = some ds) : -(2 ^ 62) ≤ a ∧ a < 2 ^ 62 ∧ -(2 ^ 62) ≤ b ∧ b < 2 ^ 62 ∧ ds = (List.range (b - a).toNat).map fun (k : Nat) => .int (a + k) := by
  unfold rngD at h
  split at h
  · rename_i c
    rw [if_pos rfl] at h
    cases h
    exact ⟨c.1, c.2.1, c.2.2.1, c.2.2.2, rfl⟩
  · cases h
theorem so_rng1 (O : Ok X N sc C F n) {a : Expr} {c : CE} {p pos : Pos} (hg : sc.lookup ("range" : Str) = some NameKind.globalImplicit) (hs : isStar a = false) (h : PE X a (tE X.K C c)) : PI X tg (.Call (.Name "range" p) [a] [] pos) (tI X.K C (.rng1 c)) := by
  refine PI.imp (pi_range1 (O.gl hg) (O.blt "range" (by decide)) (so_cons hs h so_nil) (star_cons hs)) fun σ H R ⟨S, E, ds, l, E', I, e, q⟩ => ?_
  unfold evI at e
  split at e
  · rename_i r E1 e1
    split at e
    · rename_i m va
      simp only [Option.map_eq_some_iff] at e
      obtain ⟨ds', hr, e⟩ := e
      cases e
      obtain ⟨_, _, b3, b4, rfl⟩ := rng_ok hr
      have e2 : evEs C (.cons c .nil) E = some ([r.fz], E') := by
        simp only [evEs, e1]
      refine ⟨S, E, _, E', I, e2, fun vs H1 S1 p1 l1 => ?_⟩
      cases l1 with
      | cons lv lr =>
        cases lr
        have := (lv.vw p1.ok (by rw [vw_fz]; exact va)).int
        subst this
        refine ⟨m, rfl, b3, b4, q _ H1 S1 p1 ⟨fun _ _ => True, ?_, fun _ _ _ _ _ _ _ => trivial⟩ (fun _ _ z => nomatch z) (fun _ z => nomatch z)⟩
        have w := walk_rng (K := X.K) (S0 := S1) 0 m.toNat
        rw [show (m - 0).toNat = m.toNat by simp]
        exact w
    · cases e
  · cases e
theorem so_rng2 (O : Ok X N sc C F n) {a b : Expr} {c d : CE} {p pos : Pos} (hg : sc.lookup ("range" : Str) = some NameKind.globalImplicit) (hs : isStar a = false) (ht : isStar b = false) (h : PE X a (tE X.K C c)) (h' : PE X b (tE X.K C d)) : PI X tg (.Call (.Name "range" p) [a, b] [] pos) (tI X.K C (.rng2 c d)) := by
  refine PI.imp (pi_range2 (O.gl hg) (O.blt "range" (by decide)) (so_cons hs h (so_cons ht h' so_nil)) (by rw [star_cons hs, star_cons ht]; rfl) (star_cons ht)) fun σ H R ⟨S, E, ds, l, E', I, e, q⟩ => ?_
  unfold evI at e
  split at e
  · rename_i r E1 e1
    split at e
    · rename_i r2 E2 e2
      split at e
      · rename_i m k va vb
        simp only [Option.map_eq_some_iff] at e
        obtain ⟨ds', hr, e⟩ := e
        cases e
        obtain ⟨b1, b2, b3, b4, rfl⟩ := rng_ok hr
        have e3 : evEs C (.cons c (.cons d .nil)) E = some ([r.fz, r2.fz], E') := by
          simp only [evEs, e1, e2]
        refine ⟨S, E, _, E', I, e3, fun vs H1 S1 p1 l1 => ?_⟩
        cases l1 with
        | cons lv lr =>
          cases lr with
          | cons lu lr =>
            cases lr
            have := (lv.vw p1.ok (by rw [vw_fz]; exact va)).int
            subst this
            have := (lu.vw p1.ok (by rw [vw_fz]; exact vb)).int
            subst this
            exact ⟨m, k, rfl, ⟨b1, b2, b3, b4⟩, q _ H1 S1 p1 ⟨fun _ _ => True, walk_rng m (k - m).toNat, fun _ _ _ _ _ _ _ => trivial⟩ (fun _ _ z => nomatch z) (fun _ z => nomatch z)⟩
      · cases e
    · cases e
  · cases e
end
end Fi
end

section
/-! FiI: targets, comprehensions. Own work. -/
namespace Fi
open PySem PySem.Spec L2

/-! ### targets -/
def gT (K : PySem.W.Frag) (t : Tg) : TG := fun v σ H Q => ∃ S E d E', EnvOk K S H σ E ∧ Rep K S d v ∧ bindT t d E = some E' ∧
  ∀ σ', Post K S H σ E S H σ' E' → (∀ j, j ∉ t.slots → σ'[j]? = σ[j]?) → σ'.length = σ.length → Q σ' H
theorem PG.imp {X : Cx} {e : Expr} {t t' : TG} (h : PG X e t) (i : ∀ v σ H Q, t' v σ H Q → t v σ H Q) : PG X e t' := ⟨fun pins s σ H v u Q I r q => h.run pins s σ H v u Q I r (i v σ H Q q)⟩
/-- may the name be stored to -/
def sto (sc W : Nms) (x : Str) : Bool := match sc.lookup x with
  | some .local => true
  | some .cell => W.lookup x == some .cell
  | _ => false
structure OkW (X : Cx) (W : Nms) : Prop where
  fn : ∀ x, W.lookup x = some .cell → X.fn x = true
section
variable {X : Cx} {N : List Str} {sc W : Nms} {C : Ctx} {F : List (Str × Nat)} {n : Nat}
theorem Ok.loc (O : Ok X N sc C F n) (OW : OkW X W) {x : Str} (h : sto sc W x = true) : L2.Loc X.env.scope x ∧ (X.fn x = true ∨ X.env.scope.names.lookup x = some .local) := by
  unfold sto at h
  unfold L2.Loc
  rw [O.names]
  split at h
  · rename_i z; exact ⟨.inl z, .inr z⟩
  · rename_i z; exact ⟨.inr z, .inl (OW.fn x (by simpa using h))⟩
  · cases h
theorem pgn (O : Ok X N sc C F n) (OW : OkW X W) {x : Str} {i : Nat} {pos : Pos} (hx : slot N x = some i) (hs : sto sc W x = true) : PG X (.Name x pos) (gName i) := by
  obtain ⟨h1, h2⟩ := O.loc OW hs
  exact pg_name (by rw [O.eN]; exact O.nd) (by rw [O.eN]; exact slot_ok hx) h1 h2
theorem so_nm (O : Ok X N sc C F n) (OW : OkW X W) {x : Str} {i : Nat} {pos : Pos} (hx : slot N x = some i) (hs : sto sc W x = true) : PG X (.Name x pos) (gT X.K (.nm i)) := by
  refine PG.imp (pgn O OW hx hs) fun v σ H Q ⟨S, E, d, E', I, r, e, q⟩ => ?_
  simp only [bindT] at e
  split at e
  · rename_i hf
    cases e
    exact q _ (put_sh I hf r) (fun j hj => List.getElem?_set_ne (by simp [Tg.slots] at hj; exact Ne.symm hj)) (List.length_set ..)
  · cases e
def gNs : List Nat → TGs
  | [] => gNil
  | i :: is => gCons (gName i) (gNs is)
theorem puts_ok {K : PySem.W.Frag} {S H : Hp} {is : List Nat} : ∀ {σ : L2.St} {E E' : Env} {ds : List D} {vs : List V} {Q : L2.St → Hp → Prop}, EnvOk K S H σ E → RepL K S ds vs → puts E is ds = some E' →
    (∀ σ', Post K S H σ E S H σ' E' → (∀ j, j ∉ is → σ'[j]? = σ[j]?) → σ'.length = σ.length → Q σ' H) → gNs is vs σ H Q := by
  induction is with
  | nil =>
    intro σ E E' ds vs Q I r e q
    cases ds with
    | nil => cases r; cases e; exact ⟨rfl, q σ (.refl I) (fun _ _ => rfl) rfl⟩
    | cons d ds => cases e
  | cons i is ih =>
    intro σ E E' ds vs Q I r e q
    cases ds with
    | nil => cases e
    | cons d ds =>
      cases r with
      | @cons _ v _ vs rv rl =>
        simp only [puts] at e
        split at e
        · rename_i hf
          have p1 := put_sh I hf rv
          refine ⟨v, vs, rfl, ?_⟩
          refine ih p1.ok rl e fun σ' p2 same len => ?_
          refine q σ' (p1.trans p2) (fun j hj => ?_) (by rw [len, List.length_set])
          simp only [List.mem_cons, not_or] at hj
          rw [same j hj.2, List.getElem?_set_ne (Ne.symm hj.1)]
        · cases e
/-- names, each in its slot -/
def nmSlots (N : List Str) (sc W : Nms) : List Expr → Option (List Nat)
  | [] => some []
  | .Name x _ :: r => match slot N x, nmSlots N sc W r with
    | some i, some is => if sto sc W x then some (i :: is) else none
    | _, _ => none
  | _ => none
theorem so_nms (O : Ok X N sc C F n) (OW : OkW X W) {es : List Expr} : ∀ {is : List Nat}, nmSlots N sc W es = some is → PGs X es (gNs is) ∧ (assignEach es X.env).length = is.length ∧ (assignEach es X.env).findIdx? (·.1) = none := by
  induction es with
  | nil => intro is h; cases h; exact ⟨pgs_nil, rfl, rfl⟩
  | cons e es ih =>
    intro is h
    cases e with
    | Name x pos =>
      simp only [nmSlots] at h
      split at h
      · rename_i i is' hi his
        split at h
        · rename_i hs
          cases h
          obtain ⟨h1, h2, h3⟩ := ih his
          refine ⟨pgs_cons (pgn O OW hi hs) h1, by show _ + 1 = _ + 1; rw [h2], ?_⟩
          show List.findIdx? _ ((false, _) :: assignEach es X.env) = none
          rw [List.findIdx?_cons, h3]; rfl
        · cases h
      · cases h
    | _ => simp [nmSlots] at h
theorem so_tp (O : Ok X N sc C F n) (OW : OkW X W) {es : List Expr} {k : Nat} {pos : Pos} {is : List Nat} (h : nmSlots N sc W es = some is) : PG X (.Tuple es k pos) (gT X.K (.tp is)) := by
  obtain ⟨h1, h2, h3⟩ := so_nms O OW h
  refine PG.imp (pg_tup O.calm h1 h2 h3) fun v σ H Q ⟨S, E, d, E', I, r, e, q⟩ => ?_
  cases d <;> simp only [bindT] at e <;> try (cases e; done)
  rename_i ds
  cases r with
  | @tup a vs _ ht rl =>
    refine ⟨a, vs, rfl, sqT_mono I.sub ht, ?_, puts_ok I rl e q⟩
    have hl : ∀ {is : List Nat} {ds : List D} {E E' : Env}, puts E is ds = some E' → ds.length = is.length := by
      intro is
      induction is with
      | nil => intro ds E E' e; cases ds <;> first | rfl | cases e
      | cons i is ih =>
        intro ds E E' e
        cases ds with
        | nil => cases e
        | cons d ds =>
          simp only [puts] at e
          split at e
          · simp [ih e]
          · cases e
    rw [← rl.length]; exact hl e

/-! ### tests of a comprehension -/
def tTs (K : PySem.W.Frag) (C : Ctx) (c : CEs) : TT := fun σ H Q => ∃ S E b E', EnvOk K S H σ E ∧ evT C c E = some (b, E') ∧ ∀ H' S', Post K S H σ E S' H' σ E' → Q b H'
theorem PTs.imp {X : Cx} {e : List Expr} {t t' : TT} (h : PTs X e t) (i : ∀ σ H Q, t' σ H Q → t σ H Q) : PTs X e t' := ⟨fun pins s σ H Q I q => h.run pins s σ H Q I (i σ H Q q)⟩
theorem so_ts0 : PTs X [] (tTs X.K C .nil) := by
  refine PTs.imp pts_nil fun σ H Q ⟨S, E, b, E', I, e, q⟩ => ?_
  unfold evT at e
  cases e
  exact q H S (.refl I)
theorem so_ts1 {c : Expr} {cc : CE} (h : PT X c (tT X.K C cc)) : PTs X [c] (tTs X.K C (.cons cc .nil)) := by
  refine PTs.imp (pts_one h) fun σ H Q ⟨S, E, b, E', I, e, q⟩ => ?_
  unfold evT at e
  split at e
  · rename_i x E1 e1
    split at e
    · rename_i t
      unfold evT at e
      cases e
      exact ⟨S, E, x, E', true, I, e1, t, q⟩
    · rename_i t
      cases e
      exact ⟨S, E, x, E', false, I, e1, t, q⟩
    · cases e
  · cases e
end

/-! ### wiped slots -/
section
variable {K : PySem.W.Frag} {S S' S1 H H' H1 : Hp} {σ σ' σ1 : L2.St} {E E' E1 : Env} {own : List Nat}
theorem wipeE_len : (wipeE E own).sl.length = E.sl.length ∧ (wipeE E own).ro = E.ro := by
  induction own with
  | nil => exact ⟨rfl, rfl⟩
  | cons i own ih => exact ⟨put_len.trans ih.1, ih.2⟩
theorem wipeE_in {i : Nat} (h : i ∈ own) : (wipeE E own).get i = .un := by
  induction own with
  | nil => simp at h
  | cons j own ih =>
    show ((wipeE E own).put j .un).get i = _
    rw [get_put]
    split
    · rfl
    · rename_i z
      by_cases hi : i = j
      · subst hi
        have : ¬ i < (wipeE E own).sl.length := fun q => z ⟨rfl, q⟩
        simp [Env.get, List.getD_eq_getElem?_getD, List.getElem?_eq_none (Nat.le_of_not_lt this)]
      · exact ih ((List.mem_cons.mp h).resolve_left hi)
theorem wipeE_out {i : Nat} (h : i ∉ own) : (wipeE E own).get i = E.get i := by
  induction own with
  | nil => rfl
  | cons j own ih =>
    simp only [List.mem_cons, not_or] at h
    show ((wipeE E own).put j .un).get i = _
    rw [get_put_ne h.1]
    exact ih h.2
theorem wipe_in {i : Nat} {v : V} (h : i ∈ own) : (wipe σ own)[i]? ≠ some (some v) := fun e => (wipe_some e).2 h
theorem wiped (I : EnvOk K S H σ E) (ho : ownOk E own = true) : EnvOk K S H (wipe σ own) (wipeE E own) := by
  have nro : ∀ i ∈ own, i ∉ E.ro := fun i hi => by
    unfold ownOk at ho
    rw [List.all_eq_true] at ho
    simpa using ho i hi
  have out : ∀ i, (wipeE E own).get i ≠ .un → i ∉ own := fun i h hi => h (wipeE_in hi)
  refine ⟨I.sub, by rw [wipe_length, wipeE_len.1]; exact I.len, fun i d g => ?_, fun i d g => ?_, fun i j a hi hj ei ej => ?_, fun i hi => ?_⟩
  · have hi := out i (by rw [g]; simp)
    rw [wipeE_out hi] at g
    rw [wipe_out hi]
    exact I.sh i d g
  · have hi := out i (by rcases g with g | g <;> rw [g] <;> simp)
    rw [wipeE_out hi] at g
    rw [wipe_out hi]
    exact I.ow i d g
  · have h1 := out i (by obtain ⟨d, g | g⟩ := hi <;> rw [g] <;> simp)
    have h2 := out j (by obtain ⟨d, g | g⟩ := hj <;> rw [g] <;> simp)
    unfold Env.isOw at hi hj
    rw [wipeE_out h1] at hi
    rw [wipeE_out h2] at hj
    rw [wipe_out h1] at ei
    rw [wipe_out h2] at ej
    exact I.inj i j a hi hj ei ej
  · rw [wipeE_len.2] at hi
    have ho := fun h => nro i h hi
    obtain ⟨a, e, h⟩ := I.ro i hi
    refine ⟨a, by rw [wipe_out ho]; exact e, h.imp (fun ⟨d, g⟩ => ⟨d, by rw [wipeE_out ho]; exact g⟩) id⟩
/-- a step that ends with the slots wiped, from an environment in which they were -/
theorem Post.wipe (p : Post K S H σ E S1 H1 σ1 E1) (hu : ∀ i ∈ own, E.get i = .un) (ho : ownOk E own = true) : Post K S H σ E S1 H1 (wipe σ1 own) (wipeE E1 own) := by
  have nro : ∀ i ∈ own, i ∉ E.ro := fun i hi => by
    unfold ownOk at ho
    rw [List.all_eq_true] at ho
    simpa using ho i hi
  have ho' : ownOk E1 own = true := by unfold ownOk; rw [p.roE]; exact ho
  refine ⟨wiped p.ok ho', p.grow, p.frame, p.keepS, p.dom, fun a ⟨i, ⟨d, g⟩, e⟩ => ?_, by rw [wipeE_len.2]; exact p.roE, fun i hi => ?_, fun i d g => ?_⟩
  · have hi : i ∉ own := fun h => by rw [wipeE_in h] at g; rcases g with g | g <;> cases g
    rw [wipeE_out hi] at g
    rw [wipe_out hi] at e
    exact p.own a ⟨i, ⟨d, g⟩, e⟩
  · rw [wipe_out fun h => nro i h hi]; exact p.rof i hi
  · have hi : i ∉ own := fun h => by rw [hu i h] at g; cases g
    obtain ⟨g1, g2⟩ := p.lkd i d g
    rw [wipeE_out hi, wipe_out hi]; exact ⟨g1, g2⟩
/-- a new object that nobody holds is changed -/
theorem Post.upd_new {o : HO} {D : Addr} (p : Post K S H σ E S1 H1 σ1 E1) (h0 : H D = none) (s1 : S1 D = none) (h1 : H1 D ≠ none) (w : ¬ Own σ1 E1 D) : Post K S H σ E S1 (upd H1 D o) σ1 E1 := by
  have nS : ∀ b x, S1 b = some x → b ≠ D := fun b x e => by rintro rfl; rw [s1] at e; cases e
  refine ⟨⟨fun b x e => by rw [upd_ne (nS b x e)]; exact p.ok.sub b x e, p.ok.len, p.ok.sh, fun i d g => ?_, p.ok.inj, p.ok.ro⟩, p.grow, fun b x n e => ?_, p.keepS, fun b e => ?_, p.own, p.roE, p.rof, p.lkd⟩
  · obtain ⟨a, e, s, o'⟩ := p.ok.ow i d g
    have ha : a ≠ D := by rintro rfl; exact w ⟨i, ⟨d, g⟩, e⟩
    exact ⟨a, e, s, by rw [upd_ne ha]; exact o'⟩
  · have hb : b ≠ D := by rintro rfl; rw [h0] at e; cases e
    rw [upd_ne hb]; exact p.frame b x n e
  · by_cases hb : b = D
    · subst hb; exact h0
    · rw [upd_ne hb] at e; exact p.dom b e
theorem back_len {E0 : Env} : (back E0 E own).sl.length = E.sl.length ∧ (back E0 E own).ro = E.ro := by
  induction own with
  | nil => exact ⟨rfl, rfl⟩
  | cons i own ih => exact ⟨put_len.trans ih.1, ih.2⟩
theorem back_in {E0 : Env} {i : Nat} (h : i ∈ own) (hl : E0.sl.length = E.sl.length) : (back E0 E own).get i = E0.get i := by
  induction own with
  | nil => simp at h
  | cons j own ih =>
    show ((back E0 E own).put j (E0.get j)).get i = _
    rw [get_put]
    split
    · rename_i z; rw [z.1]
    · rename_i z
      by_cases hi : i = j
      · subst hi
        have h1 : ¬ i < (back E0 E own).sl.length := fun q => z ⟨rfl, q⟩
        rw [back_len.1, ← hl] at h1
        have e1 : E0.get i = .un := by simp [Env.get, List.getD_eq_getElem?_getD, List.getElem?_eq_none (Nat.le_of_not_lt h1)]
        rw [e1]
        simp [Env.get, List.getD_eq_getElem?_getD]
        rw [List.getElem?_eq_none]
        · rfl
        · rw [back_len.1, ← hl]; omega
      · exact ih ((List.mem_cons.mp h).resolve_left hi)
theorem back_out {E0 : Env} {i : Nat} (h : i ∉ own) : (back E0 E own).get i = E.get i := by
  induction own with
  | nil => rfl
  | cons j own ih =>
    simp only [List.mem_cons, not_or] at h
    show ((back E0 E own).put j (E0.get j)).get i = _
    rw [get_put_ne h.1]
    exact ih h.2
/-- the comprehension's own slots as they were ahead -/
theorem Post.back (I : EnvOk K S H σ E) (ho : ownOk E own = true) (p : Post K S H (L2.wipe σ own) (wipeE E own) S1 H1 (L2.wipe σ own) E1) : Post K S H σ E S1 H1 σ (back E E1 own) := by
  have nro : ∀ i ∈ own, i ∉ E.ro := fun i hi => by
    unfold ownOk at ho
    rw [List.all_eq_true] at ho
    simpa using ho i hi
  have hl : E.sl.length = E1.sl.length := by
    have h1 := I.len
    have h2 := p.ok.len
    rw [wipe_length] at h2
    omega
  -- a slot's container that was put aside
  have aside : ∀ i a, i ∈ own → E.isOw i → σ[i]? = some (some (.ref a)) → ¬ Own (L2.wipe σ own) (wipeE E own) a := fun i a hi hw e ⟨j, ⟨d, g⟩, e'⟩ => by
    have hj : j ∉ own := fun h => by rw [wipeE_in h] at g; rcases g with g | g <;> cases g
    rw [wipeE_out hj] at g
    rw [wipe_out hj] at e'
    exact hj (by rw [← I.inj i j a hw ⟨d, g⟩ e e']; exact hi)
  have ownE : ∀ a, Own (L2.wipe σ own) (wipeE E own) a → Own σ E a := fun a ⟨j, ⟨d, g⟩, e'⟩ => by
    have hj : j ∉ own := fun h => by rw [wipeE_in h] at g; rcases g with g | g <;> cases g
    rw [wipeE_out hj] at g
    rw [wipe_out hj] at e'
    exact ⟨j, ⟨d, g⟩, e'⟩
  have cross : ∀ i j a, i ∈ own → j ∉ own → E.isOw i → E1.isOw j → σ[i]? = some (some (.ref a)) → σ[j]? = some (some (.ref a)) → False := fun i j a hi hj wi wj ei ej => by
    obtain ⟨d, g⟩ := wi
    obtain ⟨b, e, s, o⟩ := I.ow i d g
    rw [ei] at e; cases e
    obtain ⟨x, ex⟩ := o.some
    rcases p.own a ⟨j, wj, by rw [wipe_out hj]; exact ej⟩ with z | z
    · exact aside i a hi ⟨d, g⟩ ei z
    · rw [ex] at z; cases z
  refine ⟨⟨p.ok.sub, by rw [back_len.1, ← hl]; exact I.len, fun i d g => ?_, fun i d g => ?_, fun i j a hi hj ei ej => ?_, fun i hi => ?_⟩, p.grow, fun a o n e => p.frame a o (fun h => n (ownE a h)) e, fun a o n e s => p.keepS a o (fun h => n (ownE a h)) e s, p.dom, fun a ⟨i, ⟨d, g⟩, e⟩ => ?_, by rw [back_len.2, p.roE, wipeE_len.2], fun _ _ => rfl, fun i d g => ?_⟩
  · by_cases hi : i ∈ own
    · rw [back_in hi hl] at g
      obtain ⟨v, e, r⟩ := I.sh i d g
      exact ⟨v, e, r.mono p.grow⟩
    · rw [back_out hi] at g
      obtain ⟨v, e, r⟩ := p.ok.sh i d g
      rw [wipe_out hi] at e
      exact ⟨v, e, r⟩
  · by_cases hi : i ∈ own
    · rw [back_in hi hl] at g
      obtain ⟨a, e, s, o⟩ := I.ow i d g
      obtain ⟨x, ex⟩ := o.some
      have na := aside i a hi ⟨d, g⟩ e
      refine ⟨a, e, p.keepS a x na ex s, ?_⟩
      rw [p.frame a x na ex]
      rw [ex] at o
      exact o.mono p.grow
    · rw [back_out hi] at g
      obtain ⟨a, e, s, o⟩ := p.ok.ow i d g
      rw [wipe_out hi] at e
      exact ⟨a, e, s, o⟩
  · unfold Env.isOw at hi hj
    by_cases h1 : i ∈ own
    · rw [back_in h1 hl] at hi
      by_cases h2 : j ∈ own
      · rw [back_in h2 hl] at hj
        exact I.inj i j a hi hj ei ej
      · rw [back_out h2] at hj
        exact (cross i j a h1 h2 hi hj ei ej).elim
    · rw [back_out h1] at hi
      by_cases h2 : j ∈ own
      · rw [back_in h2 hl] at hj
        exact (cross j i a h2 h1 hj hi ej ei).elim
      · rw [back_out h2] at hj
        exact p.ok.inj i j a hi hj (by rw [wipe_out h1]; exact ei) (by rw [wipe_out h2]; exact ej)
  · rw [back_len.2, p.roE, wipeE_len.2] at hi
    have hn := fun h => nro i h hi
    obtain ⟨a, e, h⟩ := p.ok.ro i (by rw [p.roE, wipeE_len.2]; exact hi)
    rw [wipe_out hn] at e
    exact ⟨a, e, h.imp (fun ⟨d, g⟩ => ⟨d, by rw [back_out hn]; exact g⟩) id⟩
  · by_cases hi : i ∈ own
    · rw [back_in hi hl] at g
      exact .inl ⟨i, ⟨d, g⟩, e⟩
    · rw [back_out hi] at g
      exact (p.own a ⟨i, ⟨d, g⟩, by rw [wipe_out hi]; exact e⟩).imp (ownE a) id
  · by_cases hi : i ∈ own
    · rw [back_in hi hl]; exact ⟨g, rfl⟩
    · rw [back_out hi]
      exact ⟨(p.lkd i d (by rw [wipeE_out hi]; exact g)).1, rfl⟩
end
end Fi
end

section
/-! FiJ: comprehensions. Own work. -/
namespace Fi
open PySem PySem.Spec L2
section
variable {K : PySem.W.Frag} {C : Ctx}
theorem lock_out {own : List Nat} {l : Option (Nat × Bool)} (h : lkFree own l = true) : ∀ i b, l = some (i, b) → i ∉ own := fun i b e => by
  subst e
  simpa [lkFree] using h
theorem wipe_ext {σ σ' : L2.St} {own : List Nat} (hl : σ'.length = σ.length) (h : ∀ j, j ∉ own → σ'[j]? = σ[j]?) : wipe σ' own = wipe σ own := by
  have wn : ∀ (τ : L2.St) (vs : List Nat) (j : Nat), j ∈ vs → j < τ.length → (wipe τ vs)[j]? = some none := fun τ vs j => by
    induction vs with
    | nil => intro z; simp at z
    | cons v vs ih =>
      intro z hj
      show ((wipe τ vs).set v none)[j]? = _
      by_cases e : v = j
      · subst e; rw [List.getElem?_set_self (by rw [wipe_length]; exact hj)]
      · rw [List.getElem?_set_ne e]
        exact ih ((List.mem_cons.mp z).resolve_left fun q => e q.symm) hj
  apply List.ext_getElem?
  intro j
  by_cases hj : j ∈ own
  · by_cases hlt : j < σ.length
    · rw [wn _ _ _ hj (by omega), wn _ _ _ hj hlt]
    · rw [List.getElem?_eq_none (by rw [wipe_length]; omega), List.getElem?_eq_none (by rw [wipe_length]; omega)]
  · rw [wipe_out hj, wipe_out hj]; exact h j hj
/-- the state of a comprehension's walk: what stands behind i items -/
structure Mid (K : PySem.W.Frag) (S1 H1 : Hp) (σ0 : L2.St) (E0 : Env) (D : Addr) (acc : List Fi.D) (S H : Hp) (σ : L2.St) (E : Env) : Prop where
  post : Post K S1 H1 σ0 E0 S H σ E
  at_ : ∃ vs, H D = some (.lst vs) ∧ RepL K S acc vs
  out : S D = none
  own : ¬ Own σ E D
/-- a turn of the walk -/
theorem turn_read {c : CE} {cs : CEs} {t : Tg} {own : List Nat} {S1 H1 : Hp} {σ σ0 : L2.St} {Ew E E' : Env} {D : Addr} {acc : List Fi.D} {S H : Hp} {d : Fi.D} {od : Option Fi.D} {x : V} {Nx : Hp → Prop}
    (hn : H1 D = none) (hs1 : S1 D = none) (hu : ∀ i ∈ own, Ew.get i = .un) (ho : ownOk Ew own = true) (ht : ∀ i ∈ t.slots, i ∈ own) (m : Mid K S1 H1 σ0 Ew D acc S H (wipe σ own) E) (r : Rep K S d x) (f : turnF t (evT C cs) (evE C c) own d E = some (od, E'))
    (hz : ∀ y, od = some y → acc.length < bigLine)
    (next : ∀ S' H', Mid K S1 H1 σ0 Ew D (match od with | some y => acc ++ [y] | none => acc) S' H' (wipe σ own) E' → Same S S' → (∀ i d, i ∉ own → E.get i = .lk d → E'.get i = .lk d) → Nx H') :
    gT K t x (wipe σ own) H fun σ2 H2 => wipe σ2 own = wipe σ own ∧ tTs K C cs σ2 H2 fun b H3 => if b = true then tE K C c σ2 H3 fun y H4 => ∃ acc, H4 D = some (.lst acc) ∧ acc.length < sizeLine ∧ Nx (upd H4 D (.lst (acc ++ [y]))) else Nx H3 := by
  unfold turnF at f
  split at f
  · rename_i E2 e2
    split at f
    · rename_i E3 e3
      split at f
      · rename_i rr E4 e4
        split at f
        · rename_i d' E5 e5
          cases f
          refine ⟨S, E, d, E2, m.post.ok, r, e2, fun σ2 p2 same len => ?_⟩
          have wq : wipe σ2 own = wipe σ own := by
            have := wipe_ext (σ := wipe σ own) (own := own) len fun j hj => same j fun z => hj (ht j z)
            rw [this]
            exact wipe_ext (wipe_length _ _) fun j hj => wipe_out hj
          refine ⟨wq, S, E2, true, E3, p2.ok, e3, fun H3 S3 p3 => ?_⟩
          refine iteT ?_
          refine op_kept p3.ok e4 fun y H4 S4 p4 l4 => ?_
          obtain ⟨S5, p5, rep⟩ := l4.tk p4.ok (by rw [tk_fz]; exact e5)
          have p05 : Post K S1 H1 σ0 Ew S5 H4 σ2 E5 := ((m.post.trans (p2.trans p3)).trans p4).trans p5
          have pm : Post K S H (wipe σ own) E S5 H4 σ2 E5 := ((p2.trans p3).trans p4).trans p5
          obtain ⟨vs, hD, ra⟩ := m.at_
          have hD4 := pm.frame D _ m.own hD
          have sD4 := pm.keepS D _ m.own hD m.out
          have nD4 : ¬ Own σ2 E5 D := fun z => (pm.own D z).elim m.own fun z => by rw [hD] at z; cases z
          refine ⟨vs, hD4, ?_, next S5 _ ?_ pm.grow fun i d hi g => by rw [wipeE_out hi]; exact (pm.lkd i d g).1⟩
          · rw [← ra.length, ← big_eq]; exact hz _ rfl
          · have pw := p05.wipe hu ho
            rw [wq] at pw
            have nw : ¬ Own (wipe σ own) (wipeE E5 own) D := fun ⟨i, ⟨q, g⟩, e⟩ => by
              have hi : i ∉ own := fun h => by rw [wipeE_in h] at g; rcases g with g | g <;> cases g
              rw [wipeE_out hi] at g
              rw [wipe_out hi, ← wipe_out hi, ← wq, wipe_out hi] at e
              exact nD4 ⟨i, ⟨q, g⟩, e⟩
            refine ⟨pw.upd_new hn sD4 (by rw [hD4]; simp) nw, ⟨_, upd_same, (ra.mono pm.grow).append (.cons rep .nil)⟩, sD4, nw⟩
        · cases f
      · cases f
    · rename_i E3 e3
      cases f
      refine ⟨S, E, d, E2, m.post.ok, r, e2, fun σ2 p2 same len => ?_⟩
      have wq : wipe σ2 own = wipe σ own := by
        have := wipe_ext (σ := wipe σ own) (own := own) len fun j hj => same j fun z => hj (ht j z)
        rw [this]
        exact wipe_ext (wipe_length _ _) fun j hj => wipe_out hj
      refine ⟨wq, S, E2, false, E3, p2.ok, e3, fun H3 S3 p3 => ?_⟩
      refine iteF ?_
      have p05 : Post K S1 H1 σ0 Ew S3 H3 σ2 E3 := m.post.trans (p2.trans p3)
      have pm : Post K S H (wipe σ own) E S3 H3 σ2 E3 := p2.trans p3
      obtain ⟨vs, hD, ra⟩ := m.at_
      have hD4 := pm.frame D _ m.own hD
      have sD4 := pm.keepS D _ m.own hD m.out
      have nD4 : ¬ Own σ2 E3 D := fun z => (pm.own D z).elim m.own fun z => by rw [hD] at z; cases z
      have pw := p05.wipe hu ho
      rw [wq] at pw
      have nw : ¬ Own (wipe σ own) (wipeE E3 own) D := fun ⟨i, ⟨q, g⟩, e⟩ => by
        have hi : i ∉ own := fun h => by rw [wipeE_in h] at g; rcases g with g | g <;> cases g
        rw [wipeE_out hi] at g
        rw [wipe_out hi, ← wipe_out hi, ← wq, wipe_out hi] at e
        exact nD4 ⟨i, ⟨q, g⟩, e⟩
      exact next S3 H3 ⟨pw, ⟨vs, hD4, ra.mono pm.grow⟩, sD4, nw⟩ pm.grow fun i d hi g => by rw [wipeE_out hi]; exact (pm.lkd i d g).1
    · cases f
  · cases f
theorem drop_at {α : Type} {l : List α} {i : Nat} (h : i < l.length) : l.drop i = l[i] :: l.drop (i + 1) := List.drop_eq_getElem_cons h
/-- behind a comprehension's walk its new list is nobody's -/
theorem back_own {S1 H1 : Hp} {σ : L2.St} {E1 E6 : Env} {own : List Nat} {D : Addr} (I1 : EnvOk K S1 H1 σ E1) (nD : ¬ Own σ E1 D) (hl : E1.sl.length = E6.sl.length) (no : ¬ Own (wipe σ own) E6 D) : ¬ Own σ (back E1 E6 own) D := by
  intro w
  obtain ⟨k, w2, w3⟩ := w
  obtain ⟨q1, q2⟩ := w2
  by_cases hk : k ∈ own
  · rw [back_in hk hl] at q2
    exact nD ⟨k, ⟨q1, q2⟩, w3⟩
  · rw [back_out hk] at q2
    exact no ⟨k, ⟨q1, q2⟩, by rw [wipe_out hk]; exact w3⟩
theorem unlock_own {σ : L2.St} {E : Env} {l : Option (Nat × Bool)} {D : Addr} (no : ¬ Own σ E D) : ¬ Own σ (unlock E l) D := by
  rintro ⟨i, ⟨d, g⟩, e⟩
  refine no ⟨i, ?_, e⟩
  cases l with
  | none => exact ⟨d, g⟩
  | some ib =>
    obtain ⟨j, b⟩ := ib
    cases b with
    | false => exact ⟨d, g⟩
    | true =>
      unfold unlock at g
      simp only at g
      split at g
      · rename_i d2 g2
        by_cases hij : i = j
        · subst hij; exact ⟨d2, .inr g2⟩
        · rw [get_put_ne hij] at g; exact ⟨d, g⟩
      · exact ⟨d, g⟩
/-- the walk of a comprehension over what is known of it -/
theorem cmp_core {c : CE} {t : Tg} {cs : CEs} {own : List Nat} (ht : ∀ i ∈ t.slots, i ∈ own) {S1 H1 : Hp} {σ : L2.St} {E1 E6 : Env} {l : Option (Nat × Bool)} {ds out : List Fi.D} {J : It} {G : Hp → Hp → Prop} {Q : VK} (I1 : EnvOk K S1 H1 σ E1) (wk : WalkOk K J S1 G ds)
    (hG : ∀ S'' H'' σ'' E'', EnvOk K S'' H'' σ'' E'' → Same S1 S'' → LockIn E1 σ E'' σ'' l → G S'' H'') (lf : lkFree own l = true) (ho : ownOk E1 own = true) (e6 : cmpL (turnF t (evT C cs) (evE C c) own) ds [] (wipeE E1 own) = some (out, E6))
    (q : ∀ D H' S', H1 D = none → Post K S1 H1 σ E1 S' H' σ (back E1 E6 own) → S' D = none → OwnAt K S' (H' D) (.lst out) → ¬ Own σ (back E1 E6 own) D → Q (.ref D) H') :
    ∀ D, H1 D = none → ∃ W : Nat → Nat → Hp → Prop, (∃ m, W 0 m (upd H1 D (.lst []))) ∧ ∀ i m H, W i m H →
      (J.stop i H ∧ Q (.ref D) H) ∨ (J.go i H ∧ ∃ Nx : Hp → Prop, (∀ H', Nx H' → ∃ m', m' < m ∧ W (i + 1) m' H') ∧ ∀ x H', J.yld i H x H' → gT K t x (wipe σ own) H' fun σ2 H2 => wipe σ2 own = wipe σ own ∧ tTs K C cs σ2 H2 fun b H3 =>
        if b = true then tE K C c σ2 H3 fun y H4 => ∃ acc, H4 D = some (.lst acc) ∧ acc.length < sizeLine ∧ Nx (upd H4 D (.lst (acc ++ [y]))) else Nx H3) := by
  intro D hD
  have sD : S1 D = none := same_none I1.sub hD
  have nD : ¬ Own σ E1 D := fun z => by
    obtain ⟨o, ho', _⟩ := own_some I1 z
    rw [hD] at ho'; cases ho'
  have Iw := wiped I1 ho
  have nDw : ¬ Own (wipe σ own) (wipeE E1 own) D := fun z => by
    obtain ⟨o, ho', _⟩ := own_some Iw z
    rw [hD] at ho'; cases ho'
  have hu : ∀ i ∈ own, (wipeE E1 own).get i = .un := fun i hi => wipeE_in hi
  have how : ownOk (wipeE E1 own) own = true := by unfold ownOk; rw [wipeE_len.2]; exact ho
  have start : Mid K S1 H1 (wipe σ own) (wipeE E1 own) D [] S1 (upd H1 D (.lst [])) (wipe σ own) (wipeE E1 own) :=
    ⟨(ext_new I1.sub hD).post Iw, ⟨[], upd_same, .nil⟩, sD, nDw⟩
  refine ⟨fun i m H' => m = ds.length - i ∧ i ≤ ds.length ∧ ∃ S' acc E'', Mid K S1 H1 (wipe σ own) (wipeE E1 own) D acc S' H' (wipe σ own) E'' ∧ cmpL (turnF t (evT C cs) (evE C c) own) (ds.drop i) acc E'' = some (out, E6),
    ⟨ds.length, by simp, Nat.zero_le _, S1, [], _, start, e6⟩, ?_⟩
  rintro i m H' ⟨rfl, hi, S', acc, E'', mid, run⟩
  have guard : G S' H' := hG S' H' (wipe σ own) E'' mid.post.ok mid.post.grow fun j b hl d hd => by
    have hj := lock_out lf j b hl
    obtain ⟨g1, g2⟩ := mid.post.lkd j d (by rw [wipeE_out hj]; exact hd)
    exact ⟨g1, wipe_out hj⟩
  by_cases hlt : i < ds.length
  · right
    rw [drop_at hlt] at run
    obtain ⟨go, yl⟩ := wk.step S' H' i ds[i] mid.post.grow mid.post.ok.sub guard (List.getElem?_eq_getElem hlt)
    unfold cmpL at run
    cases f : turnF t (evT C cs) (evE C c) own ds[i] E'' with
    | none => rw [f] at run; cases run
    | some p =>
      obtain ⟨od, E3⟩ := p
      rw [f] at run
      refine ⟨go, fun H2 => ∃ S2 acc2, Mid K S1 H1 (wipe σ own) (wipeE E1 own) D acc2 S2 H2 (wipe σ own) E3 ∧ cmpL (turnF t (evT C cs) (evE C c) own) (ds.drop (i + 1)) acc2 E3 = some (out, E6), fun H2 ⟨S2, acc2, m2, r2⟩ => ⟨ds.length - (i + 1), by omega, rfl, hlt, S2, acc2, E3, m2, r2⟩, fun x H2 hy => ?_⟩
      obtain ⟨S2, ex, rx⟩ := yl x H2 hy
      have pe := ex.post mid.post.ok
      obtain ⟨vs, hDv, ra⟩ := mid.at_
      have mid2 : Mid K S1 H1 (wipe σ own) (wipeE E1 own) D acc S2 H2 (wipe σ own) E'' := ⟨mid.post.trans pe, ⟨vs, ex.ext _ _ hDv, ra.mono ex.grow⟩, ex.keepS _ _ hDv mid.out, mid.own⟩
      refine turn_read hD sD hu how ht mid2 rx f (fun y hy => ?_) fun S3 H3 m3 _ _ => ?_
      · subst hy
        simp only at run
        split at run
        · assumption
        · cases run
      · cases od with
        | none => exact ⟨S3, acc, m3, run⟩
        | some y =>
          simp only at run
          split at run
          · exact ⟨S3, _, m3, run⟩
          · cases run
  · left
    have hie : i = ds.length := by omega
    subst hie
    rw [List.drop_length] at run
    unfold cmpL at run
    cases run
    refine ⟨wk.stop S' H' mid.post.grow mid.post.ok.sub guard, ?_⟩
    have pb := Post.back I1 ho mid.post
    obtain ⟨vs, hDv, ra⟩ := mid.at_
    have hl : E1.sl.length = E6.sl.length := by
      have h1 := I1.len
      have h2 := mid.post.ok.len
      rw [wipe_length] at h2
      omega
    exact q D H' S' hD pb mid.out (by rw [hDv]; exact .lst ra) (back_own I1 nD hl mid.own)
/-- [elt for target in iter if ..] -/
theorem cmp_read {c : CE} {t : Tg} {it : IT} {cs : CEs} {own : List Nat} (ht : ∀ i ∈ t.slots, i ∈ own) {σ : L2.St} {H : Hp} {Q : VK} (h : tE K C (.cmp c (.mk t it cs) own) σ H Q) :
    tLc (tI K C it) (gT K t) (tTs K C cs) (tE K C c) own σ H Q := by
  obtain ⟨S, E, r, E', I, e, q⟩ := h
  unfold evE at e
  split at e
  · rename_i ds l E1 e1
    split at e
    · rename_i ok
      simp only [Bool.and_eq_true] at ok
      obtain ⟨lf, ho⟩ := ok
      split at e
      · rename_i out E6 e6
        cases e
        refine ⟨S, E, ds, l, E1, I, e1, fun J H1 S1 p1 ⟨G, wk, hG⟩ hlk hlu => ?_⟩
        refine cmp_core ht p1.ok wk hG lf ho e6 fun D H' S' hD pb sD ow no => ?_
        exact q (.ref D) H' S' ((p1.trans pb).unlock (l := l) hlu) (.ow rfl (p1.dom D hD) sD ow (unlock_own no))
      · cases e
    · cases e
  · cases e
/-- behind a comprehension's walk its new list is nobody's -/
theorem end_own {S1 H1 S' H' S H : Hp} {σ : L2.St} {E E1 E6 : Env} {own : List Nat} {D : Addr} {l : Option (Nat × Bool)} (I1 : EnvOk K S1 H1 σ E1) (nD : ¬ Own σ E1 D) (hl : E1.sl.length = E6.sl.length) (no : ¬ Own (wipe σ own) E6 D) : ¬ Own σ (unlock (back E1 E6 own) l) D := by
  intro w
  obtain ⟨i, ⟨d, g⟩, e⟩ := w
  obtain ⟨k, w2, w3⟩ : ∃ k, (back E1 E6 own).isOw k ∧ σ[k]? = some (some (.ref D)) := by
    refine ⟨i, ?_, e⟩
    cases l with
    | none => exact ⟨d, g⟩
    | some ib =>
      obtain ⟨j, b⟩ := ib
      cases b with
      | false => exact ⟨d, g⟩
      | true =>
        unfold unlock at g
        simp only at g
        split at g
        · rename_i d2 g2
          by_cases hij : i = j
          · subst hij; exact ⟨d2, .inr g2⟩
          · rw [get_put_ne hij] at g; exact ⟨d, g⟩
        · exact ⟨d, g⟩
  obtain ⟨q1, q2⟩ := w2
  by_cases hk : k ∈ own
  · rw [back_in hk hl] at q2
    exact nD ⟨k, ⟨q1, q2⟩, w3⟩
  · rw [back_out hk] at q2
    exact no ⟨k, ⟨q1, q2⟩, by rw [wipe_out hk]; exact w3⟩
theorem wipe_wipe {σ : L2.St} {a b : List Nat} (h : ∀ i ∈ a, i ∈ b) : wipe (wipe σ a) b = wipe σ b := by
  exact wipe_ext (wipe_length _ _) fun j hj => wipe_out fun z => hj (h j z)
/-- [elt for target in iter if .. for target2 in iter2 if ..] -/
theorem cmp2_read {c : CE} {t t2 : Tg} {it it2 : IT} {cs cs2 : CEs} {own : List Nat} (ht : ∀ i ∈ t.slots, i ∈ own) (ht2 : ∀ i ∈ t2.slots, i ∈ own) {σ : L2.St} {H : Hp} {Q : VK} (h : tE K C (.cmp2 c (.mk t it cs) (.mk t2 it2 cs2) own) σ H Q) :
    tLc2 (tI K C it) (gT K t) (tTs K C cs) (tI K C it2) (gT K t2) (tTs K C cs2) (tE K C c) own t2.slots σ H Q := by
  obtain ⟨S, E, r, E', I, e, q⟩ := h
  unfold evE at e
  split at e
  · rename_i ds l E1 e1
    split at e
    · rename_i ok
      simp only [Bool.and_eq_true] at ok
      obtain ⟨lf, ho⟩ := ok
      split at e
      · rename_i out E6 e6
        cases e
        refine ⟨S, E, ds, l, E1, I, e1, fun J H1 S1 p1 ⟨G, wk, hG⟩ hlk hlu => ?_⟩
        intro D hD
        have sD : S1 D = none := same_none p1.sub hD
        have nD : ¬ Own σ E1 D := fun z => by
          obtain ⟨o, ho', _⟩ := own_some p1.ok z
          rw [hD] at ho'; cases ho'
        have Iw := wiped p1.ok ho
        have nDw : ¬ Own (wipe σ own) (wipeE E1 own) D := fun z => by
          obtain ⟨o, ho', _⟩ := own_some Iw z
          rw [hD] at ho'; cases ho'
        have hu : ∀ i ∈ own, (wipeE E1 own).get i = .un := fun i hi => wipeE_in hi
        have how : ownOk (wipeE E1 own) own = true := by unfold ownOk; rw [wipeE_len.2]; exact ho
        have start : Mid K S1 H1 (wipe σ own) (wipeE E1 own) D [] S1 (upd H1 D (.lst [])) (wipe σ own) (wipeE E1 own) :=
          ⟨(ext_new p1.sub hD).post Iw, ⟨[], upd_same, .nil⟩, sD, nDw⟩
        refine ⟨fun i m H' => m = ds.length - i ∧ i ≤ ds.length ∧ ∃ S' acc E'', Mid K S1 H1 (wipe σ own) (wipeE E1 own) D acc S' H' (wipe σ own) E'' ∧ cmpLL (turnO t (evT C cs) (evI C it2) (turnF t2 (evT C cs2) (evE C c) t2.slots) own t2.slots) (ds.drop i) acc E'' = some (out, E6),
          ⟨ds.length, by simp, Nat.zero_le _, S1, [], _, start, e6⟩, ?_⟩
        rintro i m H' ⟨rfl, hi, S', acc, E'', mid, run⟩
        have guard : G S' H' := hG S' H' (wipe σ own) E'' mid.post.ok mid.post.grow fun j b hl d hd => by
          have hj := lock_out lf j b hl
          obtain ⟨g1, g2⟩ := mid.post.lkd j d (by rw [wipeE_out hj]; exact hd)
          exact ⟨g1, wipe_out hj⟩
        by_cases hlt : i < ds.length
        · right
          rw [drop_at hlt] at run
          obtain ⟨go, yl⟩ := wk.step S' H' i ds[i] mid.post.grow mid.post.ok.sub guard (List.getElem?_eq_getElem hlt)
          unfold cmpLL at run
          cases f : turnO t (evT C cs) (evI C it2) (turnF t2 (evT C cs2) (evE C c) t2.slots) own t2.slots ds[i] acc E'' with
          | none => rw [f] at run; cases run
          | some p =>
            obtain ⟨acc3, E3⟩ := p
            rw [f] at run
            simp only at run
            refine ⟨go, fun H2 => ∃ S2, Mid K S1 H1 (wipe σ own) (wipeE E1 own) D acc3 S2 H2 (wipe σ own) E3, fun H2 ⟨S2, m2⟩ => ⟨ds.length - (i + 1), by omega, rfl, hlt, S2, acc3, E3, m2, run⟩, fun x H2 hy => ?_⟩
            obtain ⟨S2, ex, rx⟩ := yl x H2 hy
            have pe := ex.post mid.post.ok
            obtain ⟨vs, hDv, ra⟩ := mid.at_
            have m2 : Mid K S1 H1 (wipe σ own) (wipeE E1 own) D acc S2 H2 (wipe σ own) E'' := ⟨mid.post.trans pe, ⟨vs, ex.ext _ _ hDv, ra.mono ex.grow⟩, ex.keepS _ _ hDv mid.out, mid.own⟩
            clear hy yl go run
            unfold turnO at f
            split at f
            · rename_i E2 b2
              refine ⟨S2, E'', ds[i], E2, m2.post.ok, rx, b2, fun σ2 p2 same len => ?_⟩
              have wq : wipe σ2 own = wipe σ own := by
                have := wipe_ext (σ := wipe σ own) (own := own) len fun j hj => same j fun z => hj (ht j z)
                rw [this]
                exact wipe_ext (wipe_length _ _) fun j hj => wipe_out hj
              -- what the turn comes to, wherever it ends
              have fin : ∀ {S5 H5 : Hp} {τ : L2.St} {E5 : Env} {acc5 : List Fi.D}, wipe τ own = wipe σ own → Post K S1 H1 (wipe σ own) (wipeE E1 own) S5 H5 τ E5 → (∃ vs, H5 D = some (.lst vs) ∧ RepL K S5 acc5 vs) → S5 D = none → ¬ Own τ E5 D → Mid K S1 H1 (wipe σ own) (wipeE E1 own) D acc5 S5 H5 (wipe σ own) (wipeE E5 own) := fun {S5 H5 τ E5 acc5} wt p5 at5 s5 n5 => by
                have pw := p5.wipe hu how
                rw [wt] at pw
                refine ⟨pw, at5, s5, fun ⟨i, ⟨q, g⟩, e⟩ => ?_⟩
                have hi : i ∉ own := fun h => by rw [wipeE_in h] at g; rcases g with g | g <;> cases g
                rw [wipeE_out hi] at g
                rw [← wt, wipe_out hi] at e
                exact n5 ⟨i, ⟨q, g⟩, e⟩
              split at f
              · rename_i E3' e3
                refine ⟨wq, S2, E2, true, E3', p2.ok, e3, fun H3 S3 p3 => ?_⟩
                refine iteT ?_
                split at f
                · rename_i ds2 l2 E4 e4
                  split at f
                  · rename_i lf2
                    split at f
                    · rename_i acc' E9 e9
                      cases f
                      have pm0 : Post K S2 H2 (wipe σ own) E'' S3 H3 σ2 E3' := p2.trans p3
                      refine ⟨S3, E3', ds2, l2, E4, p3.ok, e4, fun J1 H4 S4 p4 ⟨G2, wk2, hG2⟩ hlk2 hlu2 => ?_⟩
                      have pm : Post K S2 H2 (wipe σ own) E'' S4 H4 σ2 E4 := pm0.trans p4
                      have hD4 := pm.frame D _ m2.own (by obtain ⟨v, h, _⟩ := m2.at_; exact m2.at_.choose_spec.1)
                      have sD4 := pm.keepS D _ m2.own m2.at_.choose_spec.1 m2.out
                      have rD4 : RepL K S4 acc m2.at_.choose := m2.at_.choose_spec.2.mono pm.grow
                      have nD4 : ¬ Own σ2 E4 D := fun z => (pm.own D z).elim m2.own fun z => by rw [m2.at_.choose_spec.1] at z; cases z
                      have ho2 : ownOk E4 t2.slots = true := by
                        unfold ownOk
                        rw [List.all_eq_true]
                        intro j hj
                        have h1 : E4.ro = E1.ro := by rw [pm.roE, m2.post.roE, wipeE_len.2]
                        unfold ownOk at ho
                        rw [List.all_eq_true] at ho
                        rw [h1]
                        exact ho j (ht2 j hj)
                      have I4 := wiped p4.ok ho2
                      have nD4w : ¬ Own (wipe σ2 t2.slots) (wipeE E4 t2.slots) D := fun ⟨i, ⟨q, g⟩, e⟩ => by
                        have hi : i ∉ t2.slots := fun h => by rw [wipeE_in h] at g; rcases g with g | g <;> cases g
                        rw [wipeE_out hi] at g
                        rw [wipe_out hi] at e
                        exact nD4 ⟨i, ⟨q, g⟩, e⟩
                      have hwb : ∀ i ∈ t2.slots, (wipeE E1 own).get i = .un := fun i hi => hu i (ht2 i hi)
                      have how3 : ownOk (wipeE E1 own) t2.slots = true := by
                        unfold ownOk at ho ⊢
                        rw [List.all_eq_true] at ho ⊢
                        intro j hj
                        rw [wipeE_len.2]; exact ho j (ht2 j hj)
                      have pb4 := (m2.post.trans pm).wipe hwb how3
                      have start2 : Mid K S1 H1 (wipe σ own) (wipeE E1 own) D acc S4 H4 (wipe σ2 t2.slots) (wipeE E4 t2.slots) := ⟨pb4, ⟨_, hD4, rD4⟩, sD4, nD4w⟩
                      refine ⟨fun j k H5 => k = ds2.length - j ∧ j ≤ ds2.length ∧ ∃ S5 acc5 E5, Mid K S1 H1 (wipe σ own) (wipeE E1 own) D acc5 S5 H5 (wipe σ2 t2.slots) E5 ∧ Same S4 S5 ∧ LockIn E4 σ2 E5 (wipe σ2 t2.slots) l2 ∧ cmpL (turnF t2 (evT C cs2) (evE C c) t2.slots) (ds2.drop j) acc5 E5 = some (acc3, E9),
                        ⟨ds2.length, by simp, Nat.zero_le _, S4, acc, _, start2, .refl _, fun j b hl d hd => by
                          have hj := lock_out lf2 j b hl
                          exact ⟨by rw [wipeE_out hj]; exact hd, wipe_out hj⟩, e9⟩, ?_⟩
                      rintro j k H5 ⟨rfl, hj, S5, acc5, E5, mid5, s45, lk5, run5⟩
                      have guard5 : G2 S5 H5 := hG2 S5 H5 (wipe σ2 t2.slots) E5 mid5.post.ok s45 lk5
                      by_cases hlt2 : j < ds2.length
                      · right
                        rw [drop_at hlt2] at run5
                        obtain ⟨go5, yl5⟩ := wk2.step S5 H5 j ds2[j] s45 mid5.post.ok.sub guard5 (List.getElem?_eq_getElem hlt2)
                        unfold cmpL at run5
                        cases f5 : turnF t2 (evT C cs2) (evE C c) t2.slots ds2[j] E5 with
                        | none => rw [f5] at run5; cases run5
                        | some p =>
                          obtain ⟨od, E6'⟩ := p
                          rw [f5] at run5
                          refine ⟨go5, fun H6 => ∃ S6 acc6, Mid K S1 H1 (wipe σ own) (wipeE E1 own) D acc6 S6 H6 (wipe σ2 t2.slots) E6' ∧ Same S4 S6 ∧ LockIn E4 σ2 E6' (wipe σ2 t2.slots) l2 ∧ cmpL (turnF t2 (evT C cs2) (evE C c) t2.slots) (ds2.drop (j + 1)) acc6 E6' = some (acc3, E9), fun H6 ⟨S6, acc6, m6, s6, l6, r6⟩ => ⟨ds2.length - (j + 1), by omega, rfl, hlt2, S6, acc6, E6', m6, s6, l6, r6⟩, fun x5 H6 hy5 => ?_⟩
                          obtain ⟨S6, ex6, rx6⟩ := yl5 x5 H6 hy5
                          obtain ⟨vs5, hDv5, ra5⟩ := mid5.at_
                          have mid6 : Mid K S1 H1 (wipe σ own) (wipeE E1 own) D acc5 S6 H6 (wipe σ2 t2.slots) E5 := ⟨mid5.post.trans (ex6.post mid5.post.ok), ⟨vs5, ex6.ext _ _ hDv5, ra5.mono ex6.grow⟩, ex6.keepS _ _ hDv5 mid5.out, mid5.own⟩
                          refine turn_read hD sD hwb how3 (fun i hi => hi) mid6 rx6 f5 (fun y hy => ?_) fun S7 H7 m7 s67 lk7 => ?_
                          · subst hy
                            simp only at run5
                            split at run5
                            · assumption
                            · cases run5
                          · have l7 : LockIn E4 σ2 E6' (wipe σ2 t2.slots) l2 := fun a b hl d hd => by
                              obtain ⟨q1, q2⟩ := lk5 a b hl d hd
                              exact ⟨lk7 a d (lock_out lf2 a b hl) q1, q2⟩
                            have s47 := (s45.trans ex6.grow).trans s67
                            cases od with
                            | none => exact ⟨S7, acc5, m7, s47, l7, run5⟩
                            | some y =>
                              simp only at run5
                              split at run5
                              · exact ⟨S7, _, m7, s47, l7, run5⟩
                              · cases run5
                      · left
                        have hje : j = ds2.length := by omega
                        subst hje
                        rw [List.drop_length] at run5
                        unfold cmpL at run5
                        cases run5
                        refine ⟨wk2.stop S5 H5 s45 mid5.post.ok.sub guard5, S5, ?_⟩
                        have pu := mid5.post.unlock (l := l2) fun i hl d hd => by
                          have := ((m2.post.trans pm0).lkd i d hd).1
                          exact hlu2 i hl d this
                        refine fin ((wipe_wipe ht2).trans wq) pu mid5.at_ mid5.out fun w => mid5.own ?_
                        obtain ⟨i, ⟨d, g⟩, e⟩ := w
                        refine ⟨i, ?_, e⟩
                        cases l2 with
                        | none => exact ⟨d, g⟩
                        | some ib =>
                          obtain ⟨jj, b⟩ := ib
                          cases b with
                          | false => exact ⟨d, g⟩
                          | true =>
                            unfold unlock at g
                            simp only at g
                            split at g
                            · rename_i d2 g2
                              by_cases hij : i = jj
                              · subst hij; exact ⟨d2, .inr g2⟩
                              · rw [get_put_ne hij] at g; exact ⟨d, g⟩
                            · exact ⟨d, g⟩
                    · cases f
                  · cases f
                · cases f
              · rename_i E3' e3
                cases f
                refine ⟨wq, S2, E2, false, E3', p2.ok, e3, fun H3 S3 p3 => ?_⟩
                refine iteF ?_
                have pm : Post K S2 H2 (wipe σ own) E'' S3 H3 σ2 E3' := p2.trans p3
                obtain ⟨vs, hD2, ra2⟩ := m2.at_
                exact ⟨S3, fin wq (m2.post.trans pm) ⟨vs, pm.frame D _ m2.own hD2, ra2.mono pm.grow⟩ (pm.keepS D _ m2.own hD2 m2.out) fun z => (pm.own D z).elim m2.own fun z => by rw [hD2] at z; cases z⟩
              · cases f
            · cases f
        · left
          have hie : i = ds.length := by omega
          subst hie
          rw [List.drop_length] at run
          unfold cmpLL at run
          cases run
          refine ⟨wk.stop S' H' mid.post.grow mid.post.ok.sub guard, ?_⟩
          have pb := Post.back p1.ok ho mid.post
          have pall := (p1.trans pb).unlock (l := l) hlu
          obtain ⟨vs, hDv, ra⟩ := mid.at_
          have hl : E1.sl.length = E6.sl.length := by
            have h1 := p1.ok.len
            have h2 := mid.post.ok.len
            rw [wipe_length] at h2
            omega
          exact q (.ref D) H' S' pall (.ow rfl (p1.dom D hD) mid.out (by rw [hDv]; exact .lst ra) (end_own (S := S) (H := H) (E := E) (S' := S') (H' := H') p1.ok nD hl mid.own))
      · cases e
    · cases e
  · cases e
end
end Fi
end

section
/-! FiHide: a comprehension over a dict's keys: its slot put away meanwhile. sorted(set(..)), list(range(..)). Own work. -/
namespace Fi
open PySem PySem.Spec L2
section
variable {K : PySem.W.Frag} {C : Ctx} {S S3 H H3 : Hp} {σ : L2.St} {E E3 : Env} {a : Addr} {od : Obj} {es : List (Key × V)} {i : Nat} {kvs : List (DKey × D)}
/-- S without a -/
def dropA (S : Hp) (a : Addr) : Hp := fun b => if b = a then none else S b
theorem dropA_ne {b : Addr} (h : b ≠ a) : dropA S a b = S b := by unfold dropA; rw [if_neg h]
theorem dropA_same : dropA S a a = none := by unfold dropA; rw [if_pos rfl]
theorem sqT_drop (h : S a = some (.frz od (.dK es))) {b : Addr} {xs : List V} (q : SqT K S b xs) : SqT K (dropA S a) b xs := by
  rcases q with (q | ⟨o, q⟩) | q
  · exact .inl (.inl (by rw [dropA_ne (fun z => by rw [z, h] at q; cases q)]; exact q))
  · exact .inl (.inr ⟨o, by rw [dropA_ne (fun z => by rw [z, h] at q; cases q)]; exact q⟩)
  · exact .inr q
theorem sqL_drop (h : S a = some (.frz od (.dK es))) {b : Addr} {xs : List V} (q : SqL K S b xs) : SqL K (dropA S a) b xs := by
  rcases q with (q | ⟨o, q⟩) | q
  · exact .inl (.inl (by rw [dropA_ne (fun z => by rw [z, h] at q; cases q)]; exact q))
  · exact .inl (.inr ⟨o, by rw [dropA_ne (fun z => by rw [z, h] at q; cases q)]; exact q⟩)
  · exact .inr q
mutual
theorem Rep.drop (h : S a = some (.frz od (.dK es))) : ∀ {d : D} {v : V}, Rep K S d v → Rep K (dropA S a) d v
  | _, _, .non => .non
  | _, _, .bl b => .bl b
  | _, _, .int i => .int i
  | _, _, .str x => .str x
  | _, _, .ty n => .ty n
  | _, _, .tup q r => .tup (sqT_drop h q) (RepL.drop_ h r)
  | _, _, .lst q r => .lst (by rw [dropA_ne (fun z => by rw [z, h] at q; cases q)]; exact q) (RepL.drop_ h r)
  | _, _, .dK q r => .dK (by rw [dropA_ne (fun z => by rw [z, h] at q; cases q)]; exact q) (RepK.drop h r)
  | _, _, .dT q r => .dT (by rw [dropA_ne (fun z => by rw [z, h] at q; cases q)]; exact q) (RepT.drop h r)
  | _, _, .scr q => .scr (sqL_drop h q)
theorem RepL.drop_ (h : S a = some (.frz od (.dK es))) : ∀ {ds : List D} {vs : List V}, RepL K S ds vs → RepL K (dropA S a) ds vs
  | _, _, .nil => .nil
  | _, _, .cons q r => .cons (Rep.drop h q) (RepL.drop_ h r)
theorem RepK.drop (h : S a = some (.frz od (.dK es))) : ∀ {ds : List (DKey × D)} {vs : List (Key × V)}, RepK K S ds vs → RepK K (dropA S a) ds vs
  | _, _, .nil => .nil
  | _, _, .cons k q r => .cons k (Rep.drop h q) (RepK.drop h r)
theorem RepT.drop (h : S a = some (.frz od (.dK es))) : ∀ {ds : List (DKey × D)} {vs : List (List Key × V)}, RepT K S ds vs → RepT K (dropA S a) ds vs
  | _, _, .nil => .nil
  | _, _, .cons k q r => .cons k (Rep.drop h q) (RepT.drop h r)
end
theorem OwnAt.drop (h : S a = Option.some (.frz od (.dK es))) {o : Option HO} {d : D} (q : OwnAt K S o d) : OwnAt K (dropA S a) o d := by
  cases q with
  | lst r => exact .lst (r.drop_ h)
  | dK r => exact .dK (r.drop h)
  | dT r => exact .dT (r.drop h)
theorem hide_ne {j : Nat} (h : j ≠ i) : (hide E i).get j = E.get j := get_put_ne (E := E) h
theorem hide_same (h : i < E.sl.length) : (hide E i).get i = .un := get_put_same (E := E) h
theorem unhide_ne {d : D} {ro : List Nat} {j : Nat} (h : j ≠ i) : (unhide E i d ro).get j = E.get j := get_put_ne (E := E) h
theorem unhide_same {d : D} {ro : List Nat} (h : i < E.sl.length) : (unhide E i d ro).get i = .ow d := get_put_same (E := E) h
/-- put away -/
theorem hide_ok (I : EnvOk K S H σ E) (g : E.get i = .ow (.dct false kvs)) (ea : σ[i]? = some (some (.ref a))) (sa : S a = none) (ha : H a = some (.dK es)) :
    EnvOk K (upd S a (.frz od (.dK es))) (upd H a (.frz od (.dK es))) σ (hide E i) := by
  have hi := get_lt g (by simp)
  have owi : E.isOw i := ⟨_, .inl g⟩
  have ne : ∀ j, (hide E i).get j ≠ .un → j ≠ i := fun j h e => by subst e; exact h (hide_same hi)
  have gr : Same S (upd S a (.frz od (.dK es))) := same_upd sa
  refine ⟨same_upd2 I.sub, by rw [I.len]; simp [hide], fun j d h => ?_, fun j d h => ?_, fun j k b h1 h2 e1 e2 => ?_, fun j hj => ?_⟩
  · have hj := ne j (by rw [h]; simp)
    rw [hide_ne hj] at h
    obtain ⟨v, e, r⟩ := I.sh j d h
    exact ⟨v, e, r.mono gr⟩
  · have hj := ne j (by rcases h with h | h <;> rw [h] <;> simp)
    rw [hide_ne hj] at h
    obtain ⟨b, e, s, o⟩ := I.ow j d h
    have hb : b ≠ a := fun z => hj (I.inj j i a ⟨d, h⟩ owi (by rw [← z]; exact e) ea)
    exact ⟨b, e, by rw [upd_ne hb]; exact s, by rw [upd_ne hb]; exact o.mono gr⟩
  · obtain ⟨d1, h1⟩ := h1
    obtain ⟨d2, h2⟩ := h2
    have hj := ne j (by rcases h1 with h | h <;> rw [h] <;> simp)
    have hk := ne k (by rcases h2 with h | h <;> rw [h] <;> simp)
    rw [hide_ne hj] at h1
    rw [hide_ne hk] at h2
    exact I.inj j k b ⟨d1, h1⟩ ⟨d2, h2⟩ e1 e2
  · rcases List.mem_cons.mp hj with rfl | hj
    · exact ⟨a, ea, .inr (by rw [upd_same]; simp)⟩
    · obtain ⟨b, e, h⟩ := I.ro j hj
      by_cases hji : j = i
      · subst hji
        rw [ea] at e; cases e
        exact ⟨a, ea, .inr (by rw [upd_same]; simp)⟩
      · refine ⟨b, e, ?_⟩
        rcases h with ⟨d, h⟩ | h
        · exact .inl ⟨d, by rw [hide_ne hji]; exact h⟩
        · right
          by_cases hb : b = a
          · subst hb; rw [upd_same]; simp
          · rw [upd_ne hb]; exact h
theorem own_hide (I : EnvOk K S H σ E) (g : E.get i = .ow (.dct false kvs)) {b : Addr} (h : Own σ (hide E i) b) : Own σ E b := by
  have hi := get_lt g (by simp)
  obtain ⟨j, ⟨d, h⟩, e⟩ := h
  have hj : j ≠ i := fun z => by subst z; rw [hide_same hi] at h; rcases h with h | h <;> cases h
  rw [hide_ne hj] at h
  exact ⟨j, ⟨d, h⟩, e⟩
/-- .. and there again -/
theorem unhide_ok (I : EnvOk K S H σ E) (g : E.get i = .ow (.dct false kvs)) (ea : σ[i]? = some (some (.ref a))) (sa : S a = none) (ha : H a = some (.dK es)) (rk : RepK K S kvs es)
    (p : Post K (upd S a (.frz od (.dK es))) (upd H a (.frz od (.dK es))) σ (hide E i) S3 H3 σ E3) :
    H3 a = some (.frz od (.dK es)) ∧ S3 a = some (.frz od (.dK es)) ∧ Post K S H σ E (dropA S3 a) (upd H3 a (.dK es)) σ (unhide E3 i (.dct false kvs) E.ro) := by
  have hi := get_lt g (by simp)
  have hi3 : i < E3.sl.length := by
    have h1 := p.ok.len
    have h2 := I.len
    omega
  have owi : E.isOw i := ⟨_, .inl g⟩
  have owa : Own σ E a := ⟨i, owi, ea⟩
  have s3 : S3 a = some (.frz od (.dK es)) := p.grow _ _ upd_same
  have h3 : H3 a = some (.frz od (.dK es)) := p.ok.sub _ _ s3
  have gr : Same S (dropA S3 a) := fun b o e => by
    have hb : b ≠ a := fun z => by rw [z, sa] at e; cases e
    rw [dropA_ne hb]
    exact p.grow _ _ (by rw [upd_ne hb]; exact e)
  have nea : ∀ {j : Nat} {b : Addr}, E3.isOw j → σ[j]? = some (some (.ref b)) → b ≠ a := fun {j b} w e z => by
    obtain ⟨d, w⟩ := w
    obtain ⟨c, e2, s, _⟩ := p.ok.ow j d w
    rw [e] at e2; cases e2
    rw [z, s3] at s; cases s
  have isow : ∀ {j : Nat}, (unhide E3 i (.dct false kvs) E.ro).isOw j → j ≠ i → E3.isOw j := fun {j} ⟨d, w⟩ hj => ⟨d, by rwa [unhide_ne hj] at w⟩
  refine ⟨h3, s3, ⟨⟨fun b o e => ?_, by rw [p.ok.len]; simp [unhide], fun j d h => ?_, fun j d h => ?_, fun j k b h1 h2 e1 e2 => ?_, fun j hj => ?_⟩, gr, fun b o n e => ?_, fun b o n e s => ?_, fun b e => ?_, fun b h => ?_, rfl, fun _ _ => rfl, fun j d h => ⟨?_, rfl⟩⟩⟩
  · have hb : b ≠ a := fun z => by rw [z, dropA_same] at e; cases e
    rw [dropA_ne hb] at e
    rw [upd_ne hb]
    exact p.ok.sub _ _ e
  · have hj : j ≠ i := fun z => by subst z; rw [unhide_same hi3] at h; cases h
    rw [unhide_ne hj] at h
    obtain ⟨v, e, r⟩ := p.ok.sh j d h
    exact ⟨v, e, r.drop s3⟩
  · by_cases hj : j = i
    · subst hj
      rw [unhide_same hi3] at h
      rcases h with h | h
      · cases h
        exact ⟨a, ea, dropA_same, by rw [upd_same]; exact .dK (rk.mono gr)⟩
      · cases h
    · rw [unhide_ne hj] at h
      obtain ⟨b, e, s, o⟩ := p.ok.ow j d h
      have hb := nea ⟨d, h⟩ e
      exact ⟨b, e, by rw [dropA_ne hb]; exact s, by rw [upd_ne hb]; exact o.drop s3⟩
  · by_cases hj : j = i
    · by_cases hk : k = i
      · rw [hj, hk]
      · subst hj
        rw [ea] at e1; cases e1
        exact absurd rfl (nea (isow h2 hk) e2)
    · by_cases hk : k = i
      · subst hk
        rw [ea] at e2; cases e2
        exact absurd rfl (nea (isow h1 hj) e1)
      · exact p.ok.inj j k b (isow h1 hj) (isow h2 hk) e1 e2
  · obtain ⟨b, e, h⟩ := p.ok.ro j (by rw [p.roE]; exact List.mem_cons_of_mem _ hj)
    by_cases hji : j = i
    · subst hji
      exact ⟨b, e, .inl ⟨_, .inl (unhide_same hi3)⟩⟩
    · refine ⟨b, e, ?_⟩
      rcases h with ⟨d, h⟩ | h
      · exact .inl ⟨d, by rw [unhide_ne hji]; exact h⟩
      · by_cases hb : b = a
        · subst hb
          obtain ⟨c, e2, h2⟩ := I.ro j hj
          rw [e] at e2; cases e2
          rcases h2 with w | h2
          · exact absurd (I.inj j i _ w owi e ea) hji
          · exact absurd sa h2
        · exact .inr (by rw [dropA_ne hb]; exact h)
  · have hb : b ≠ a := fun z => n (by rw [z]; exact owa)
    rw [upd_ne hb]
    exact p.frame b o (fun w => n (own_hide I g w)) (by rw [upd_ne hb]; exact e)
  · have hb : b ≠ a := fun z => n (by rw [z]; exact owa)
    rw [dropA_ne hb]
    exact p.keepS b o (fun w => n (own_hide I g w)) (by rw [upd_ne hb]; exact e) (by rw [upd_ne hb]; exact s)
  · have hb : b ≠ a := fun z => by rw [z, upd_same] at e; cases e
    rw [upd_ne hb] at e
    have := p.dom b e
    rwa [upd_ne hb] at this
  · obtain ⟨j, w, e⟩ := h
    by_cases hj : j = i
    · subst hj
      rw [ea] at e; cases e
      exact .inl owa
    · rcases p.own b ⟨j, isow w hj, e⟩ with z | z
      · exact .inl (own_hide I g z)
      · by_cases hb : b = a
        · subst hb; exact .inl owa
        · rw [upd_ne hb] at z; exact .inr z
  · have hj : j ≠ i := fun z => by subst z; rw [g] at h; cases h
    rw [unhide_ne hj]
    exact (p.lkd j d (by rw [hide_ne hj]; exact h)).1
end
end Fi
end

section
namespace Fi
open PySem PySem.Spec L2
section
variable {X : Cx} {N : List Str} {sc W : Nms} {C : Ctx} {F : List (Str × Nat)} {n : Nat}
theorem rep_ofKey {K : PySem.W.Frag} {S : Hp} {k : DKey} {j : Key} (h : k.toKey = some j) : Rep K S k.d (kV j) := by
  cases k with
  | i n => cases h; exact .int n
  | s x => cases h; exact .str x
  | t xs => cases h
theorem repK_get {K : PySem.W.Frag} {S : Hp} : ∀ {kvs : List (DKey × D)} {es : List (Key × V)}, RepK K S kvs es → ∀ {i : Nat} {d : D}, (kvs.map fun kv => kv.1.d)[i]? = some d → ∃ k v, es[i]? = some (k, v) ∧ Rep K S d (kV k)
  | _, _, .nil, i, d, h => by simp at h
  | _, _, .cons (j := j) (v := v) hk hr r, 0, d, h => by
    simp only [List.map_cons, List.getElem?_cons_zero, Option.some.injEq] at h
    subst h
    exact ⟨j, v, rfl, rep_ofKey hk⟩
  | _, _, .cons hk hr r, i + 1, d, h => by
    simp only [List.map_cons, List.getElem?_cons_succ] at h
    obtain ⟨k, v, e, q⟩ := repK_get r h
    exact ⟨k, v, by simpa using e, q⟩
theorem walk_keys {K : PySem.W.Frag} {S0 : Hp} {a : Addr} {od : Obj} {kvs : List (DKey × D)} {es : List (Key × V)} (h : S0 a = some (.frz od (.dK es))) (r : RepK K S0 kvs es) : WalkOk K (Itk a od es) S0 (fun _ _ => True) (kvs.map fun kv => kv.1.d) := by
  refine ⟨fun S H i d s0 s1 _ hd => ?_, fun S H s0 s1 _ => ?_⟩
  · obtain ⟨k, v, e, q⟩ := repK_get r hd
    refine ⟨⟨s1 _ _ (s0 _ _ h), (List.getElem?_eq_some_iff.mp e).1⟩, fun x H' hy => ?_⟩
    obtain ⟨rfl, k', v', e', rfl⟩ := hy
    rw [e] at e'; cases e'
    exact ⟨S, .refl s1, q.mono s0⟩
  · refine ⟨s1 _ _ (s0 _ _ h), ?_⟩
    rw [List.length_map]
    have := repK_len r
    omega
theorem cmpV_read {K : PySem.W.Frag} {c : CE} {t : Tg} {i : Nat} {cs : CEs} {own : List Nat} (ht : ∀ i ∈ t.slots, i ∈ own) {σ : L2.St} {H : Hp} {Q : VK} (h : tE K C (.cmpV c t i cs own) σ H Q) :
    tLc (tI K C (.seq (.var i))) (gT K t) (tTs K C cs) (tE K C c) own σ H Q ∨ tLockE (tLc (iKeys (tVar i)) (gT K t) (tTs K C cs) (tE K C c) own) σ H Q := by
  obtain ⟨S, E, r, E', I, e, q⟩ := h
  unfold evE at e
  split at e
  · -- a dict
    rename_i kvs hk
    right
    have g : E.get i = .ow (.dct false kvs) := by
      unfold dictAt at hk
      split at hk
      · rename_i kvs' g; cases hk; exact g
      · cases hk
    split at e
    · rename_i ho
      split at e
      · rename_i out E6 e6
        cases e
        obtain ⟨a, ea, sa, o⟩ := I.ow i _ (.inl g)
        generalize z : H a = w at o
        cases o with
        | @dK es _ rk =>
          refine ⟨a, _, z, trivial, fun od => ?_⟩
          have I2 := hide_ok (od := od) I g ea sa z
          refine ⟨_, ea, a, od, rfl, .inl ⟨es, upd_same, ?_⟩⟩
          refine cmp_core (Q := fun v H' => H' a = some (.frz od (.dK es)) ∧ Q v (upd H' a (.dK es))) ht (l := none) I2 (walk_keys (upd_same) (rk.mono (same_upd sa))) (fun _ _ _ _ _ _ _ => trivial) rfl ho e6 fun D H' S' hD pb sD ow no => ?_
          obtain ⟨h3, s3, P⟩ := unhide_ok I g ea sa z rk pb
          have hDa : D ≠ a := fun z2 => by rw [z2, upd_same] at hD; cases hD
          refine ⟨h3, q (.ref D) _ _ P (.ow rfl (by rw [upd_ne hDa] at hD; exact hD) (by rw [dropA_ne hDa]; exact sD) (by rw [upd_ne hDa]; exact ow.drop s3) fun ⟨j, ⟨d, w⟩, e⟩ => ?_)⟩
          by_cases hj : j = i
          · subst hj
            rw [ea] at e; cases e
            exact hDa rfl
          · rw [unhide_ne hj] at w
            exact no ⟨j, ⟨d, w⟩, e⟩
      · cases e
    · cases e
  · -- no dict
    left
    refine cmp_read ht ⟨S, E, r, E', I, ?_, q⟩
    rw [← e]
    rename_i hk
    unfold evE evI evE lockVar
    cases g : E.get i with
    | un => simp only [g]
    | sh d => simp only [g, lock]; cases z : seqD d <;> simp only [z, Option.map_none, Option.map_some]
    | ow d => simp only [g, lock]; cases z : seqD d <;> simp only [z, Option.map_none, Option.map_some]
    | lk d => simp only [g, lock]; cases z : seqD d <;> simp only [z, Option.map_none, Option.map_some]
end
end Fi
end

section
namespace Fi
open PySem PySem.Spec L2
theorem allTx_map (ts : List Txt) : allTx (ts.map strOf) = (allT ts).map strOf := by
  have go : ∀ (ts : List Txt) (L : List Txt), (ts.map strOf).foldl putTx (L.map strOf) = (ts.foldl putT L).map strOf := by
    intro ts
    induction ts with
    | nil => intro L; rfl
    | cons t ts ih =>
      intro L
      have e : putTx (L.map strOf) (strOf t) = (putT L t).map strOf := by
        unfold putTx putT
        have m : strOf t ∈ L.map strOf ↔ t ∈ L := by
          constructor
          · intro h
            obtain ⟨u, hu, e⟩ := List.mem_map.mp h
            rw [strOf_inj.mp e] at hu; exact hu
          · exact fun h => List.mem_map_of_mem h
        by_cases h : t ∈ L
        · rw [if_pos h, if_pos (m.mpr h)]
        · rw [if_neg h, if_neg (fun z => h (m.mp z)), List.map_append]; rfl
      show (ts.map strOf).foldl putTx (putTx (L.map strOf) (strOf t)) = (ts.foldl putT (putT L t)).map strOf
      rw [e, ih]
  exact go ts []
theorem setTx_map (ts : List Txt) : (allTx (ts.map strOf)).mergeSort leS = (setT ts).map strOf := by
  rw [allTx_map]
  unfold setT
  refine (List.map_mergeSort (f := strOf) (s := leS) fun a _ b _ => ?_).symm
  unfold leT leS
  rw [strOf_cps, strOf_cps]
section
variable {X : Cx} {N : List Str} {sc W : Nms} {C : Ctx} {F : List (Str × Nat)} {n : Nat}
theorem txts_repL {K : PySem.W.Frag} {S : Hp} : ∀ (xs : List Txt), RepL K S (xs.map .str) (xs.map fun x => V.str (strOf x))
  | [] => .nil
  | x :: xs => .cons (.str x) (txts_repL xs)
theorem so_sset (O : Ok X N sc C F n) {a : Expr} {c : CE} {p p2 q pos : Pos} (h1 : sc.lookup ("sorted" : Str) = some NameKind.globalImplicit) (h2 : sc.lookup ("set" : Str) = some NameKind.globalImplicit) (hs : isStar a = false) (h : PE X a (tE X.K C c)) :
    PE X (.Call (.Name "sorted" p) [.Call (.Name "set" p2) [a] [] q] [] pos) (tE X.K C (.sset c)) := by
  refine PE.imp (pe_sset O.calm (by have := O.room.un; omega) (O.gl h1) (O.blt "sorted" (by decide)) (O.gl h2) (O.blt "set" (by decide)) h (star_cons hs)) fun σ H Q ⟨S, E, r, E', I, e, qq⟩ => ?_
  unfold evE at e
  split at e
  · rename_i ra E1 e1
    split at e
    · rename_i xs va
      simp only [Option.bind_eq_some_iff] at e
      obtain ⟨ts, ht, e⟩ := e
      split at e
      · rename_i few
        cases e
        refine op_kept I e1 fun x H1 S1 p1 l1 => ?_
        have vx := l1.vw p1.ok (by rw [vw_fz]; exact va)
        obtain ⟨b, us, rfl, ha, rl⟩ := vx.lst p1.sub
        have e2 := txts_rep rl ht
        have e3 : us = (ts.map strOf).map V.str := by rw [e2, List.map_map]; rfl
        refine ⟨b, ts.map strOf, rfl, by rw [← e3]; exact .of ha, by rw [List.length_map]; exact few, fun p hp => ?_⟩
        rw [setTx_map, List.map_map]
        exact op_end (p := .fr (.lst ((setT ts).map .str))) I qq p1 (ext_new p1.sub hp) (new_fr p1.sub hp (.lst (txts_repL _)))
      · cases e
    · cases e
  · cases e
theorem rg_repL {K : PySem.W.Frag} {S : Hp} (a : Int) (m : Nat) : RepL K S ((List.range m).map fun (k : Nat) => D.int (a + k)) ((List.range m).map fun (k : Nat) => V.int (a + k)) := by
  induction List.range m with
  | nil => exact .nil
  | cons k l ih => exact .cons (.int _) ih
theorem so_lrng1 (O : Ok X N sc C F n) {a : Expr} {c : CE} {p p2 q pos : Pos} (h1 : sc.lookup ("list" : Str) = some NameKind.globalImplicit) (h2 : sc.lookup ("range" : Str) = some NameKind.globalImplicit) (hs : isStar a = false) (h : PE X a (tE X.K C c)) :
    PE X (.Call (.Name "list" p) [.Call (.Name "range" p2) [a] [] q] [] pos) (tE X.K C (.lrng (.rng1 c))) := by
  refine PE.imp (pe_listRg O.calm (O.gl h1) (O.blt "list" (by decide)) (prg_1 (O.gl h2) (O.blt "range" (by decide)) h (star_cons hs))) fun σ H Q ⟨S, E, r, E', I, e, qq⟩ => ?_
  unfold evE at e
  split at e
  · rename_i ds E1 e1
    split at e
    · rename_i big
      cases e
      unfold evI at e1
      split at e1
      · rename_i ra E2 e2
        split at e1
        · rename_i m va
          simp only [Option.map_eq_some_iff] at e1
          obtain ⟨ds', hr, e1⟩ := e1
          cases e1
          obtain ⟨b1, b2, b3, b4, rfl⟩ := rng_ok hr
          refine op_kept I e2 fun x H1 S1 p1 l1 => ?_
          have := (l1.vw p1.ok (by rw [vw_fz]; exact va)).int
          subst this
          rw [List.length_map, List.length_range] at big
          refine ⟨m, rfl, ⟨b1, b2, b3, b4, by unfold bigLine at big; omega⟩, fun p hp => ?_⟩
          exact op_end (p := .fr (.lst _)) I qq p1 (ext_new p1.sub hp) (new_fr p1.sub hp (.lst (rg_repL 0 (m - 0).toNat)))
        · cases e1
      · cases e1
    · cases e
  · cases e
theorem so_lrng2 (O : Ok X N sc C F n) {a b : Expr} {c d : CE} {p p2 q pos : Pos} (h1 : sc.lookup ("list" : Str) = some NameKind.globalImplicit) (h2 : sc.lookup ("range" : Str) = some NameKind.globalImplicit) (hs : isStar a = false) (ht : isStar b = false) (h : PE X a (tE X.K C c)) (h' : PE X b (tE X.K C d)) :
    PE X (.Call (.Name "list" p) [.Call (.Name "range" p2) [a, b] [] q] [] pos) (tE X.K C (.lrng (.rng2 c d))) := by
  refine PE.imp (pe_listRg O.calm (O.gl h1) (O.blt "list" (by decide)) (prg_2 (O.gl h2) (O.blt "range" (by decide)) h h' (star_cons hs) (star_cons ht) (star_any (by simp [ht])))) fun σ H Q ⟨S, E, r, E', I, e, qq⟩ => ?_
  unfold evE at e
  split at e
  · rename_i ds E1 e1
    split at e
    · rename_i big
      cases e
      unfold evI at e1
      split at e1
      · rename_i ra E2 e2
        split at e1
        · rename_i rb E3 e3
          split at e1
          · rename_i m k va vb
            simp only [Option.map_eq_some_iff] at e1
            obtain ⟨ds', hr, e1⟩ := e1
            cases e1
            obtain ⟨b1, b2, b3, b4, rfl⟩ := rng_ok hr
            have keep : ra.fz = ra ∨ True := .inr trivial
            refine op_kept I e2 fun x H1 S1 p1 l1 => ?_
            refine op_kept p1.ok e3 fun y H2 S2 p2 l2 => ?_
            have := (l2.vw p2.ok (by rw [vw_fz]; exact vb)).int
            subst this
            have hx : x = .int m := by
              exact ((l1.mono p2.grow).vw p2.ok (by rw [vw_fz]; exact va)).int
            subst hx
            rw [List.length_map, List.length_range] at big
            refine ⟨m, k, rfl, rfl, ⟨b1, b2, b3, b4, by unfold bigLine at big; omega⟩, fun p hp => ?_⟩
            exact op_end (p := .fr (.lst _)) I qq (p1.trans p2) (ext_new p2.sub hp) (new_fr p2.sub hp (.lst (rg_repL m (k - m).toNat)))
          · cases e1
        · cases e1
      · cases e1
    · cases e
  · cases e
end
end Fi
end

section
/-! FiK: statements. Own work. -/
namespace Fi
open PySem PySem.Spec L2

def OutQ (K : PySem.W.Frag) (S H : Hp) (σ : L2.St) (E : Env) (D : Ends) : Out → Prop
  | .nx E' => ∀ σ' H' S', Post K S H σ E S' H' σ' E' → D.nx σ' H'
  | .ct E' => ∀ σ' H' S', Post K S H σ E S' H' σ' E' → D.ct σ' H'
  | .bk E' => ∀ σ' H' S', Post K S H σ E S' H' σ' E' → D.bk σ' H'
  | .rt r E' => ∀ v σ' H' S', Post K S H σ E S' H' σ' E' → ResOk K S' H' H σ' E' v r → D.rt v H'
def tS (K : PySem.W.Frag) (C : Ctx) (c : CS) : TS := fun D σ H => ∃ S E o, EnvOk K S H σ E ∧ evS C c E = some o ∧ OutQ K S H σ E D o
def tB (K : PySem.W.Frag) (C : Ctx) (c : CB) : TS := fun D σ H => ∃ S E o, EnvOk K S H σ E ∧ evB C c E = some o ∧ OutQ K S H σ E D o
theorem OutQ.from {K : PySem.W.Frag} {S H S1 H1 : Hp} {σ σ1 : L2.St} {E E1 : Env} {D : Ends} {o : Out} (q : OutQ K S H σ E D o) (p : Post K S H σ E S1 H1 σ1 E1) : OutQ K S1 H1 σ1 E1 D o := by
  cases o with
  | nx E' => exact fun σ' H' S' p' => q σ' H' S' (p.trans p')
  | ct E' => exact fun σ' H' S' p' => q σ' H' S' (p.trans p')
  | bk E' => exact fun σ' H' S' p' => q σ' H' S' (p.trans p')
  | rt r E' => exact fun v σ' H' S' p' h => q v σ' H' S' (p.trans p') (h.from p.dom)

/-- is the expression a comprehension -/
def isCmp : Expr → Bool
  | .ListComp _ _ _ _ => true
  | .SetComp _ _ _ _ => true
  | .DictComp _ _ _ _ _ => true
  | _ => false
theorem no_swap {e : Expr} {t : Option Expr} {l : Nat} {env : PySem.Env} (h : isCmp e = false) : swapsWith e t l env = pure false := by
  cases e <;> first | rfl | cases h
theorem no_swap_tup {e : Expr} {es : List Expr} {k : Nat} {p : Pos} {l : Nat} {env : PySem.Env} (h : isCmp e = false) : swapsWithSole [.Tuple es k p] e l env = pure false := by
  have q := no_swap (e := e) (t := some (.Tuple es k p)) (l := l) (env := env) h
  unfold swapsWithSole
  exact q
def isTupE : Expr → Bool
  | .Tuple _ _ _ => true
  | _ => false
theorem no_stores {e : Expr} {es : List Expr} {k : Nat} {p : Pos} {env : PySem.Env} (h : isTupE e = false) : swappedStores [.Tuple es k p] e env = pure none := by
  cases e <;> first | rfl | cases h

section
variable {X : Cx} {N : List Str} {sc W : Nms} {C : Ctx} {F : List (Str × Nat)} {n : Nat}
/-! ### small ones -/
theorem so_bnil : PSs X [] (tB X.K C .nil) := by
  refine PSs.imp pss_nil fun D σ H ⟨S, E, o, I, e, q⟩ => ?_
  unfold evB at e
  cases e
  exact q σ H S (.refl I)
theorem so_bcons {s : Stmt} {r : List Stmt} {c : CS} {cs : CB} (h : PS X s (tS X.K C c)) (hr : PSs X r (tB X.K C cs)) : PSs X (s :: r) (tB X.K C (.cons c cs)) := by
  refine PSs.imp (pss_cons h hr) fun D σ H ⟨S, E, o, I, e, q⟩ => ?_
  unfold evB at e
  split at e
  · rename_i E1 e1
    exact ⟨S, E, _, I, e1, fun σ' H' S' p => ⟨S', E1, o, p.ok, e, q.from p⟩⟩
  · rename_i o' ne e1
    cases e
    refine ⟨S, E, o, I, e1, ?_⟩
    cases o with
    | nx E' => exact absurd rfl (ne E')
    | ct E' => exact q
    | bk E' => exact q
    | rt r E' => exact q
  · cases e
theorem so_pas {pos : Pos} : PS X (.Pass pos) (tS X.K C .pas) := by
  refine PS.imp ps_pass fun D σ H ⟨S, E, o, I, e, q⟩ => ?_
  unfold evS at e
  cases e
  exact q σ H S (.refl I)
theorem so_brk {pos : Pos} : PS X (.Break pos) (tS X.K C .brk) := by
  refine PS.imp ps_break fun D σ H ⟨S, E, o, I, e, q⟩ => ?_
  unfold evS at e
  cases e
  exact q σ H S (.refl I)
theorem so_cnt {pos : Pos} : PS X (.Continue pos) (tS X.K C .cnt) := by
  refine PS.imp ps_continue fun D σ H ⟨S, E, o, I, e, q⟩ => ?_
  unfold evS at e
  cases e
  exact q σ H S (.refl I)
theorem so_ex {e : Expr} {c : CE} {pos : Pos} (hc : isCmp e = false) (h : PE X e (tE X.K C c)) : PS X (.Expr e pos) (tS X.K C (.ex c)) := by
  refine PS.imp (ps_expr h (no_swap hc)) fun D σ H ⟨S, E, o, I, e, q⟩ => ?_
  unfold evS at e
  split at e
  · rename_i r E1 e1
    cases e
    exact ⟨S, E, r, E1, I, e1, fun v H' S' p _ => q σ H' S' p⟩
  · cases e
theorem so_ret {e : Expr} {c : CE} {pos : Pos} (h : PE X e (tE X.K C c)) : PS X (.Return (some e) pos) (tS X.K C (.ret c)) := by
  refine PS.imp (ps_ret h) fun D σ H ⟨S, E, o, I, e, q⟩ => ?_
  unfold evS at e
  split at e
  · rename_i r E1 e1
    cases e
    exact ⟨S, E, r, E1, I, e1, fun v H' S' p h => q v σ H' S' p h⟩
  · cases e
theorem so_retN {pos : Pos} : PS X (.Return none pos) (tS X.K C .retN) := by
  refine PS.imp ps_retN fun D σ H ⟨S, E, o, I, e, q⟩ => ?_
  unfold evS at e
  cases e
  exact q .non σ H S (.refl I) (.sh .non)
theorem so_ite {c : Expr} {a b : List Stmt} {cc : CE} {ca cb : CB} {pos : Pos} (hc : PT X c (tT X.K C cc)) (ha : PSs X a (tB X.K C ca)) (hb : PSs X b (tB X.K C cb)) : PS X (.If c a b pos) (tS X.K C (.ite cc ca cb)) := by
  refine PS.imp (ps_if hc ha hb) fun D σ H ⟨S, E, o, I, e, q⟩ => ?_
  unfold evS at e
  split at e
  · rename_i r E1 e1
    split at e
    · rename_i t
      exact ⟨S, E, r, E1, true, I, e1, t, fun H1 S1 p1 => iteT ⟨S1, E1, o, p1.ok, e, q.from p1⟩⟩
    · rename_i t
      exact ⟨S, E, r, E1, false, I, e1, t, fun H1 S1 p1 => iteF ⟨S1, E1, o, p1.ok, e, q.from p1⟩⟩
    · cases e
  · cases e

/-! ### assignments -/
theorem asg_read {i : Nat} {c : CE} {D : Ends} {σ : L2.St} {H : Hp} (h : tS X.K C (.asg (.nm i) c) D σ H) : tAsg (tE X.K C c) (gName i) D σ H := by
  obtain ⟨S, E, o, I, e, q⟩ := h
  unfold evS at e
  split at e
  · rename_i r E1 e1
    refine ⟨S, E, r, E1, I, e1, fun v H1 S1 p1 h1 => ?_⟩
    simp only at e
    split at e
    · rename_i d
      split at e
      · rename_i hf
        cases e
        cases h1 with
        | ow ev n s o w =>
          subst ev
          exact q _ H1 S1 (p1.put_ow hf n s o w)
      · cases e
    · rename_i nr
      split at e
      · rename_i d E2 e2
        split at e
        · rename_i hf
          cases e
          obtain ⟨S2, p2, rep⟩ := tk_ok p1.ok h1 (fun d z => nr d z) e2
          exact q _ H1 S2 ((p1.trans p2).trans (put_sh p2.ok hf rep))
        · cases e
      · cases e
  · cases e
theorem so_asg (O : Ok X N sc C F n) (OW : OkW X W) {x : Str} {i : Nat} {e : Expr} {c : CE} {px pos : Pos} (hx : slot N x = some i) (hs : sto sc W x = true) (hc : isCmp e = false) (h : PE X e (tE X.K C c)) : PS X (.Assign [.Name x px] e pos) (tS X.K C (.asg (.nm i) c)) := by
  obtain ⟨h1, h2⟩ := O.loc OW hs
  exact PS.imp (ps_set (i := i) (by rw [O.eN]; exact O.nd) (by rw [O.eN]; exact slot_ok hx) h1 h (no_swap hc) h2) fun D σ H q => asg_read q
theorem so_asgT (O : Ok X N sc C F n) (OW : OkW X W) {es : List Expr} {k : Nat} {is : List Nat} {e : Expr} {c : CE} {px pos : Pos} (ht : nmSlots N sc W es = some is) (hc : isCmp e = false) (hw : swappedStores [.Tuple es k px] e X.env = pure none) (h : PE X e (tE X.K C c)) :
    PS X (.Assign [.Tuple es k px] e pos) (tS X.K C (.asg (.tp is) c)) := by
  refine PS.imp (ps_asg h (so_tp O OW ht) (no_swap_tup hc) hw rfl) fun D σ H ⟨S, E, o, I, e, q⟩ => ?_
  unfold evS at e
  split at e
  · rename_i r E1 e1
    simp only at e
    split at e
    · rename_i ds vw
      simp only [Option.map_eq_some_iff] at e
      obtain ⟨E2, e2, e⟩ := e
      cases e
      refine op_kept I e1 fun v H1 S1 p1 l1 => ?_
      have rv := vw_tup (l1.vw p1.ok (by rw [vw_fz]; exact vw))
      exact ⟨S1, E1, .tup ds, E2, p1.ok, rv, e2, fun σ' p2 _ _ => q σ' H1 S1 (p1.trans p2)⟩
    · cases e
  · cases e
/-- name op= e -/
theorem so_aug (O : Ok X N sc C F n) (OW : OkW X W) {x : Str} {i : Nat} {e : Expr} {c : CE} {o : O2} {op : Operator} {r : R2} {px pos : Pos} (hx : slot N x = some i) (hs : sto sc W x = true) (ho : OpR X (inplaceOp op) r) (pr : Prim2 X.K r (iopD o)) (h : PE X e (tE X.K C c)) :
    PS X (.AugAssign (.Name x px) op e pos) (tS X.K C (.aug i o c)) := by
  obtain ⟨h1, h2⟩ := O.loc OW hs
  refine PS.imp (ps_aug (i := i) (by rw [O.eN]; exact O.nd) (by rw [O.eN]; exact slot_ok hx) h1 h (ti := r) (fun pins s σ H x y v u Q I rx ry q => ho pins s σ H x y v u Q I rx ry q) h2) fun D σ H ⟨S, E, o', I, e, q⟩ => ?_
  unfold evS at e
  split at e
  · rename_i d g
    obtain ⟨v, ev, rv⟩ := I.sh i d g
    split at e
    · rename_i rr E1 e1
      split at e
      · rename_i d2 v2
        split at e
        · rename_i d3 h3
          split at e
          · rename_i hf
            cases e
            refine ⟨v, ev, ?_⟩
            refine op_kept I e1 fun y H1 S1 p1 l1 => ?_
            refine pr S1 H1 v y d d2 _ _ p1.sub (.inl (rv.mono p1.grow)) (l1.vw p1.ok (by rw [vw_fz]; exact v2)) h3 fun z H2 S2 ex pres => ?_
            cases pres with
            | sc rz =>
              have p2 := p1.trans (ex.post p1.ok)
              exact q _ H2 S2 (p2.trans (put_sh p2.ok hf rz))
          · cases e
        · cases e
      · cases e
    · cases e
  · cases e

/-! ### loops -/
theorem so_for (O : Ok X N sc C F n) {tg it : Expr} {body : List Stmt} {t : Tg} {ci : IT} {cb : CB} {pos : Pos} (hset : isSetD it = false) (hi : PI X tg it (tI X.K C ci)) (hg : PG X tg (gT X.K t)) (hb : PSs X body (tB X.K C cb)) : PS X (.For tg it body [] pos) (tS X.K C (.for t ci cb)) := by
  have hp : PassesOwn (model X.prog X.w) X.A X.env X.xe := by rw [O.nox]; exact PassesOwn.never
  refine PS.imp (ps_for hp O.calm hi hg hb (fold_ok hset X.env)) fun D σ H ⟨S, E, o, I, e, q⟩ => ?_
  unfold evS at e
  split at e
  · rename_i ds l E1 e1
    split at e
    · rename_i o0 e2
      cases e
      refine ⟨S, E, ds, l, E1, I, e1, fun J H1 S1 p1 ⟨G, wk, hG⟩ hlk hlu => ?_⟩
      generalize hbd : (fun d E' => match bindT t d E' with | some E2 => evB C cb E2 | none => none) = body' at e2
      refine ⟨fun i m σ' H' => m = ds.length - i ∧ i ≤ ds.length ∧ ∃ S' E'', Post X.K S1 H1 σ E1 S' H' σ' E'' ∧ forL body' (ds.drop i) E'' = some o0,
        ⟨ds.length, by simp, Nat.zero_le _, S1, E1, .refl p1.ok, e2⟩, ?_⟩
      rintro i m σ' H' ⟨rfl, hi, S', E'', pp, run⟩
      have guard : G S' H' := hG S' H' σ' E'' pp.ok pp.grow fun j b hl d hd => pp.lkd j d hd
      have fin : ∀ {σ2 : L2.St} {H2 S2 : Hp} {E3 : Env}, o0 = .nx E3 → Post X.K S1 H1 σ E1 S2 H2 σ2 E3 → D.nx σ2 H2 := fun {σ2 H2 S2 E3} ho p2 => by
        subst ho
        exact q σ2 H2 S2 ((p1.trans p2).unlock hlu)
      by_cases hlt : i < ds.length
      · right
        rw [drop_at hlt] at run
        obtain ⟨go, yl⟩ := wk.step S' H' i ds[i] pp.grow pp.ok.sub guard (List.getElem?_eq_getElem hlt)
        refine ⟨go, fun σ2 H2 => ∃ S2 E2, Post X.K S1 H1 σ E1 S2 H2 σ2 E2 ∧ forL body' (ds.drop (i + 1)) E2 = some o0, fun σ2 H2 ⟨S2, E2, p2, r2⟩ => ⟨ds.length - (i + 1), by omega, rfl, hlt, S2, E2, p2, r2⟩, fun x H2 hy => ?_⟩
        obtain ⟨S2, ex, rx⟩ := yl x H2 hy
        have p2 := pp.trans (ex.post pp.ok)
        unfold forL at run
        cases f : body' ds[i] E'' with
        | none => rw [f] at run; cases run
        | some ob =>
          rw [f] at run
          rw [← hbd] at f
          simp only at f
          split at f
          · rename_i E3 b3
            refine ⟨S2, E'', ds[i], E3, p2.ok, rx, b3, fun σ3 p3 _ _ => ?_⟩
            refine ⟨S2, E3, ob, p3.ok, f, ?_⟩
            have p13 := p2.trans p3
            cases ob with
            | nx E4 => exact fun σ4 H4 S4 p4 => ⟨S4, E4, p13.trans p4, run⟩
            | ct E4 => exact fun σ4 H4 S4 p4 => ⟨S4, E4, p13.trans p4, run⟩
            | bk E4 =>
              simp only [Option.some.injEq] at run
              exact fun σ4 H4 S4 p4 => fin run.symm (p13.trans p4)
            | rt v E4 =>
              simp only [Option.some.injEq] at run
              subst run
              exact fun u σ4 H4 S4 p4 h4 => q u σ4 H4 S4 (((p1.trans p13).trans p4).unlock hlu) (by
                have h5 := h4.from (H3 := H) fun a z => p1.dom a (p13.dom a z)
                cases h5 with
                | sh r => exact .sh r
                | pk r => exact .pk r
                | ow ev n s o w =>
                  refine .ow ev n s o fun w' => w ?_
                  obtain ⟨k, ⟨d, g⟩, ek⟩ := w'
                  refine ⟨k, ?_, ek⟩
                  cases l with
                  | none => exact ⟨d, g⟩
                  | some ib =>
                    obtain ⟨j, b⟩ := ib
                    cases b with
                    | false => exact ⟨d, g⟩
                    | true =>
                      unfold unlock at g
                      simp only at g
                      split at g
                      · rename_i d2 g2
                        by_cases hij : k = j
                        · subst hij; exact ⟨d2, .inr g2⟩
                        · rw [get_put_ne hij] at g; exact ⟨d, g⟩
                      · exact ⟨d, g⟩)
          · cases f
      · left
        have hie : i = ds.length := by omega
        subst hie
        rw [List.drop_length] at run
        unfold forL at run
        simp only [Option.some.injEq] at run
        exact ⟨wk.stop S' H' pp.grow pp.ok.sub guard, fin run.symm pp⟩
    · cases e
  · cases e
theorem so_whl (O : Ok X N sc C F n) {c : Expr} {body : List Stmt} {cc : CE} {cb : CB} {pos : Pos} (hc : PT X c (tT X.K C cc)) (hb : PSs X body (tB X.K C cb)) : PS X (.While c body [] pos) (tS X.K C (.whl cc cb)) := by
  have hp : PassesOwn (model X.prog X.w) X.A X.env X.xe := by rw [O.nox]; exact PassesOwn.never
  refine PS.imp (ps_while hp hc hb) fun D σ H ⟨S, E, o, I, e, q⟩ => ?_
  unfold evS at e
  generalize ht : (fun E' => match evE C cc E' with | some (r, E1) => (match (E1.vw r).bind Fi.D.truth with | some k => some (k, E1) | none => none) | none => none) = tst at e
  unfold whl at e
  split at e
  · rename_i hex
    have hch := hex.choose_spec
    cases e
    obtain ⟨m0, run0⟩ := hch
    generalize hex.choose = o at run0 q
    refine ⟨fun m σ' H' => ∃ S' E'', Post X.K S H σ E S' H' σ' E'' ∧ whlN tst (fun E' => evB C cb E') m E'' = some o, ⟨m0, S, E, .refl I, run0⟩, ?_⟩
    rintro m σ' H' ⟨S', E'', pp, run⟩
    cases m with
    | zero => cases run
    | succ m =>
      unfold whlN at run
      split at run
      · rename_i E1 e1
        rw [← ht] at e1
        simp only at e1
        split at e1
        · rename_i r E1' e1'
          split at e1
          · rename_i k tk
            cases e1
            refine ⟨S', E'', r, E1, true, pp.ok, e1', tk, fun H1 S1 p1 => iteT ?_⟩
            refine ⟨fun σ2 H2 => ∃ S2 E2, Post X.K S H σ E S2 H2 σ2 E2 ∧ whlN tst (fun E' => evB C cb E') m E2 = some o, fun σ2 H2 ⟨S2, E2, p2, r2⟩ => ⟨m, Nat.lt_succ_self m, S2, E2, p2, r2⟩, ?_⟩
            have p01 := pp.trans p1
            cases f : evB C cb E1 with
            | none => simp only [f] at run; cases run
            | some ob =>
              simp only [f] at run
              refine ⟨S1, E1, ob, p1.ok, f, ?_⟩
              cases ob with
              | nx E4 => exact fun σ4 H4 S4 p4 => ⟨S4, E4, p01.trans p4, run⟩
              | ct E4 => exact fun σ4 H4 S4 p4 => ⟨S4, E4, p01.trans p4, run⟩
              | bk E4 =>
                simp only [Option.some.injEq] at run
                subst run
                exact fun σ4 H4 S4 p4 => q σ4 H4 S4 (p01.trans p4)
              | rt v E4 =>
                simp only [Option.some.injEq] at run
                subst run
                exact fun u σ4 H4 S4 p4 h4 => q u σ4 H4 S4 (p01.trans p4) (h4.from p01.dom)
          · cases e1
        · cases e1
      · rename_i E1 e1
        rw [← ht] at e1
        simp only at e1
        split at e1
        · rename_i r E1' e1'
          split at e1
          · rename_i k tk
            cases e1
            simp only [Option.some.injEq] at run
            subst run
            exact ⟨S', E'', r, E1, false, pp.ok, e1', tk, fun H1 S1 p1 => iteF (q σ' H1 S1 (pp.trans p1))⟩
          · cases e1
        · cases e1
      · cases run
  · cases e
end
end Fi
end

section
/-! FiL: stores in a row, stores to places. Own work. -/
namespace Fi
open PySem PySem.Spec L2
theorem swp2 {x y : Str} {px py pt pt2 : Pos} {kt k2 : Nat} {a b : Expr} {env : PySem.Env} (hk : env.scope.kind = .function) (kx : env.kindOf x = some .local) (ky : env.kindOf y = some .local) (hl : py.line = px.line) (ne : x ≠ y)
    (nf : (foldedForSure 8 a && foldedForSure 8 b) = false) (nc : (constantsAlone 8 a && constantsAlone 8 b) = false) (sa : isStar a = false) (sb : isStar b = false) :
    swappedStores [.Tuple [.Name x px, .Name y py] kt pt] (.Tuple [a, b] k2 pt2) env = pure (some [x, y]) := by
  have hb : env.blockKind = .function := by unfold Env.blockKind; rw [hk]; rfl
  have e1 : (y == x) = false := by simpa using Ne.symm ne
  unfold swappedStores
  simp [hb, kx, ky, hl, ne, nf, nc, Expr.pos, List.eraseDups, List.eraseDupsBy, List.eraseDupsBy.loop]
  rw [if_neg (by
    rintro (h | h)
    · split at h
      · cases sa
      · cases h
    · split at h
      · cases sb
      · cases h)]
  rw [e1]; rfl
theorem swp3 {x y z : Str} {px py pz pt pt2 : Pos} {kt k2 : Nat} {a b c : Expr} {env : PySem.Env} (hk : env.scope.kind = .function) (kx : env.kindOf x = some .local) (ky : env.kindOf y = some .local) (kz : env.kindOf z = some .local) (hl : py.line = px.line) (hl2 : pz.line = px.line) (ne : x ≠ y) (ne2 : x ≠ z) (ne3 : y ≠ z)
    (nf : (foldedForSure 8 a && (foldedForSure 8 b && foldedForSure 8 c)) = false) (nc : (constantsAlone 8 a && (constantsAlone 8 b && constantsAlone 8 c)) = false) (sa : isStar a = false) (sb : isStar b = false) (sc : isStar c = false) :
    swappedStores [.Tuple [.Name x px, .Name y py, .Name z pz] kt pt] (.Tuple [a, b, c] k2 pt2) env = pure (some [x, y, z]) := by
  have hb : env.blockKind = .function := by unfold Env.blockKind; rw [hk]; rfl
  have e1 : (y == x) = false := by simpa using Ne.symm ne
  have e2 : (z == x) = false := by simpa using Ne.symm ne2
  have e3 : (z == y) = false := by simpa using Ne.symm ne3
  unfold swappedStores
  simp [hb, kx, ky, kz, hl, hl2, ne, ne2, ne3, nf, nc, Expr.pos, List.eraseDups, List.eraseDupsBy, List.eraseDupsBy.loop]
  rw [if_neg (by
    rintro (h | h | h)
    · split at h
      · cases sa
      · cases h
    · split at h
      · cases sb
      · cases h
    · split at h
      · cases sc
      · cases h)]
  simp [e1, e2, e3]
  try rfl
theorem no_stores4 {es vs : List Expr} {k k2 : Nat} {p p2 : Pos} {env : PySem.Env} (h : (es.length == 2 || es.length == 3) = false) : swappedStores [.Tuple es k p] (.Tuple vs k2 p2) env = pure none := by
  unfold swappedStores
  simp [h]
/-- one of the names is no plain local name: the tuple is made -/
theorem no_storesN {es vs : List Expr} {k k2 : Nat} {p p2 : Pos} {env : PySem.Env} {x : Str} {px : Pos} (hm : Expr.Name x px ∈ es) (h : env.kindOf x ≠ some .local) : swappedStores [.Tuple es k p] (.Tuple vs k2 p2) env = pure none := by
  have h' : (env.kindOf x == some .local) = false := by simpa using h
  unfold swappedStores
  simp only []
  split
  · rfl
  · split
    · rfl
    · rw [if_pos]
      · rw [Bool.or_eq_true]
        left
        rw [bne_iff_ne]
        exact Nat.ne_of_lt (List.length_filterMap_lt_length_iff_exists.mpr ⟨_, hm, by simp [h']⟩)
section
variable {X : Cx} {N : List Str} {sc W : Nms} {C : Ctx} {F : List (Str × Nat)} {n : Nat}
theorem repL2 {K : PySem.W.Frag} {S : Hp} {d e : Fi.D} {vs : List V} (h : RepL K S [d, e] vs) : ∃ v u, vs = [v, u] ∧ Rep K S d v ∧ Rep K S e u := by
  cases h with | cons a r => cases r with | cons b r => cases r; exact ⟨_, _, rfl, a, b⟩
theorem par_read {is : List Nat} {cs : CEs} {D : Ends} {σ : L2.St} {H : Hp} (h : tS X.K C (.par is cs) D σ H) : tEs X.K C cs σ H fun vs H1 => gNs is vs σ H1 D.nx := by
  obtain ⟨S, E, o, I, e, q⟩ := h
  unfold evS at e
  split at e
  · rename_i rs E1 e1
    split at e
    · rename_i ds E2 e2
      simp only [Option.map_eq_some_iff] at e
      obtain ⟨E3, e3, e⟩ := e
      cases e
      refine ⟨S, E, rs, E1, I, e1, fun vs H1 S1 p1 l1 => ?_⟩
      obtain ⟨S2, p2, rep⟩ := l1.tks p1.ok e2
      have p12 := p1.trans p2
      exact puts_ok p12.ok rep e3 fun σ' p3 _ _ => q σ' H1 S2 (p12.trans p3)
    · cases e
  · cases e
theorem so_par2 (O : Ok X N sc C F n) {x y : Str} {i j : Nat} {a b : Expr} {cs : CEs} {px py pt pt2 pos : Pos} {kt k2 : Nat} (hx : slot N x = some i) (hy : slot N y = some j) (lx : sc.lookup x = some .local) (ly : sc.lookup y = some .local) (hij : i ≠ j) (hl : py.line = px.line)
    (nf : (foldedForSure 8 a && foldedForSure 8 b) = false) (nc : (constantsAlone 8 a && constantsAlone 8 b) = false) (sa : isStar a = false) (sb : isStar b = false) (ha : PA X [a, b] (tEs X.K C cs)) :
    PS X (.Assign [.Tuple [.Name x px, .Name y py] kt pt] (.Tuple [a, b] k2 pt2) pos) (tS X.K C (.par [i, j] cs)) := by
  have kx : X.env.kindOf x = some .local := by show X.env.scope.names.lookup x = _; rw [O.names]; exact lx
  have ky : X.env.kindOf y = some .local := by show X.env.scope.names.lookup y = _; rw [O.names]; exact ly
  have hNx : X.N[i]? = some x := by rw [O.eN]; exact slot_ok hx
  have hNy : X.N[j]? = some y := by rw [O.eN]; exact slot_ok hy
  have ne : x ≠ y := by
    rintro rfl
    exact hij (nodup_ix (by rw [O.eN]; exact O.nd) hNx hNy)
  refine PS.imp (ps_par O.calm (by rw [O.eN]; exact O.nd) hNx hNy hij kx ky ha (swp2 O.kind kx ky hl ne nf nc sa sb)) fun D σ H h => ?_
  obtain ⟨S, E, rs, E1, I, e1, q⟩ := par_read h
  refine ⟨S, E, rs, E1, I, e1, fun vs H1 S1 p1 l1 => ?_⟩
  obtain ⟨v, r, rfl, u, r2, rfl, rfl, q⟩ := q vs H1 S1 p1 l1
  exact ⟨v, u, rfl, q⟩
theorem so_par3 (O : Ok X N sc C F n) {x y z : Str} {i j k : Nat} {a b c : Expr} {cs : CEs} {px py pz pt pt2 pos : Pos} {kt k2 : Nat} (hx : slot N x = some i) (hy : slot N y = some j) (hz : slot N z = some k) (lx : sc.lookup x = some .local) (ly : sc.lookup y = some .local) (lz : sc.lookup z = some .local) (hij : i ≠ j) (hik : i ≠ k) (hjk : j ≠ k) (hl : py.line = px.line) (hl2 : pz.line = px.line)
    (nf : (foldedForSure 8 a && (foldedForSure 8 b && foldedForSure 8 c)) = false) (nc : (constantsAlone 8 a && (constantsAlone 8 b && constantsAlone 8 c)) = false) (sa : isStar a = false) (sb : isStar b = false) (sc' : isStar c = false) (ha : PA X [a, b, c] (tEs X.K C cs)) :
    PS X (.Assign [.Tuple [.Name x px, .Name y py, .Name z pz] kt pt] (.Tuple [a, b, c] k2 pt2) pos) (tS X.K C (.par [i, j, k] cs)) := by
  have kx : X.env.kindOf x = some .local := by show X.env.scope.names.lookup x = _; rw [O.names]; exact lx
  have ky : X.env.kindOf y = some .local := by show X.env.scope.names.lookup y = _; rw [O.names]; exact ly
  have kz : X.env.kindOf z = some .local := by show X.env.scope.names.lookup z = _; rw [O.names]; exact lz
  have nd : X.N.Nodup := by rw [O.eN]; exact O.nd
  have hNx : X.N[i]? = some x := by rw [O.eN]; exact slot_ok hx
  have hNy : X.N[j]? = some y := by rw [O.eN]; exact slot_ok hy
  have hNz : X.N[k]? = some z := by rw [O.eN]; exact slot_ok hz
  have ne : x ≠ y := by rintro rfl; exact hij (nodup_ix nd hNx hNy)
  have ne2 : x ≠ z := by rintro rfl; exact hik (nodup_ix nd hNx hNz)
  have ne3 : y ≠ z := by rintro rfl; exact hjk (nodup_ix nd hNy hNz)
  refine PS.imp (ps_par3 O.calm nd hNx hNy hNz hij hik hjk kx ky kz ha (swp3 O.kind kx ky kz hl hl2 ne ne2 ne3 nf nc sa sb sc')) fun D σ H h => ?_
  obtain ⟨S, E, rs, E1, I, e1, q⟩ := par_read h
  refine ⟨S, E, rs, E1, I, e1, fun vs H1 S1 p1 l1 => ?_⟩
  obtain ⟨v, r, rfl, u, r2, rfl, w, r3, rfl, rfl, q⟩ := q vs H1 S1 p1 l1
  exact ⟨v, u, w, rfl, q⟩

/-! ### stores to places -/
theorem assign_sub {o i : Expr} {pos : Pos} {env : PySem.Env} (h : isSlice i = false) : ∀ v, assign (.Subscript o i pos) env v = (do
      let ov ← holding [v] (eval o env)
      let iv ← holding [v, ov] (eval i env)
      standAt pos
      holding [v, ov, iv] (setItem ov iv v)
      release [v, ov, iv] []) := by
  intro v
  cases i <;> first | rfl | cases h
theorem aug_store {i : Expr} (h : isSlice i = false) : ∀ ov iv new, augStore i ov iv new = (do holding [new, ov, iv] (setItem ov iv new); release [new, ov, iv] []; pure .next) := by
  intro ov iv new
  cases i <;> first | rfl | cases h
theorem own_dK {S H : Hp} {σ : L2.St} {E : Env} {i : Nat} {kvs : List (DKey × Fi.D)} (I : EnvOk X.K S H σ E) (g : E.get i = .ow (.dct false kvs)) : ∃ a es, σ[i]? = some (some (.ref a)) ∧ H a = some (.dK es) ∧ RepK X.K S kvs es := by
  obtain ⟨a, e, _, o⟩ := I.ow i _ (.inl g)
  generalize z : H a = w at o
  cases o with
  | dK r => exact ⟨a, _, e, z, r⟩
theorem so_setIx (O : Ok X N sc C F n) (hu : X.A.units + 1 < cLine) {x : Str} {i : Nat} {k e : Expr} {ck ce : CE} {px ps pos : Pos} (hx : slot N x = some i) (hv : vis sc x = true) (hd : (x == ("__debug__" : Str)) = false) (hc : (x == ("__classdict__" : Str)) = false) (hs : isSlice k = false) (hcm : isCmp e = false)
    (hk : PE X k (tE X.K C ck)) (he : PE X e (tE X.K C ce)) : PS X (.Assign [.Subscript (.Name x px) k ps] e pos) (tS X.K C (.setIx i ck ce)) := by
  have hN : X.N[i]? = some x := by rw [O.eN]; exact slot_ok hx
  have pv := pe_var (X := X) (pos := px) hN (O.vis hv) hd hc
  have sw : swapsWithSole [.Subscript (.Name x px) k ps] e pos.line X.env = pure false := by
    have q := no_swap (e := e) (t := some (.Subscript (.Name x px) k ps)) (l := pos.line) (env := X.env) hcm
    unfold swapsWithSole
    exact q
  refine PS.imp (PS.or (ps_dput hu pv hk he (no_swap hcm)) (ps_asg he (pg_sub pv hk set_list (assign_sub hs)) sw rfl rfl)) fun D σ H ⟨S, E, o, I, e, q⟩ => ?_
  unfold evS at e
  split at e
  · rename_i r E1 e1
    split at e
    · rename_i d E2 e2
      split at e
      · rename_i c0 g0
        split at e
        · rename_i rk E3 e3
          split at e
          · rename_i c dk g vk
            simp only [Option.map_eq_some_iff] at e
            obtain ⟨c2, hc2, e⟩ := e
            cases e
            unfold setD at hc2
            split at hc2
            · rename_i xs z
              simp only [Option.map_eq_some_iff] at hc2
              obtain ⟨j, hj, rfl⟩ := hc2
              right
              refine op_kept I e1 fun v H1 S1 p1 l1 => ?_
              obtain ⟨S2, p2, rv⟩ := l1.tk p1.ok (by rw [tk_fz]; exact e2)
              have p12 := p1.trans p2
              obtain ⟨a, ea, _, _⟩ := p12.ok.ow i c0 (.inl g0)
              refine ⟨_, ea, ?_⟩
              refine op_kept p12.ok e3 fun kv H3 S3 p3 l3 => ?_
              have p13 := p12.trans p3
              obtain ⟨a', us, ea', ha, ru⟩ := own_lst p13.ok g
              rw [ea] at ea'; cases ea'
              have hk := (l3.vw p13.ok (by rw [vw_fz]; exact vk)).int
              refine ⟨a, us, z, j, rfl, hk, ha, by rw [← ru.length]; exact hj, ?_⟩
              exact q _ _ S3 (p13.trans (upd_ow p13.ok g ea (.lst (ru.set j (rv.mono p3.grow)))))
            · rename_i kvs
              simp only [Option.bind_eq_some_iff] at hc2
              obtain ⟨key, hkey, hc2⟩ := hc2
              split at hc2
              · rename_i hok
                simp only [Bool.and_eq_true, decide_eq_true_eq] at hok
                cases hc2
                left
                refine op_kept I e1 fun v H1 S1 p1 l1 => ?_
                obtain ⟨S2, p2, rv⟩ := l1.tk p1.ok (by rw [tk_fz]; exact e2)
                have p12 := p1.trans p2
                obtain ⟨a, ea, _, _⟩ := p12.ok.ow i c0 (.inl g0)
                refine ⟨_, ea, ?_⟩
                refine op_kept p12.ok e3 fun kv H3 S3 p3 l3 => ?_
                have p13 := p12.trans p3
                obtain ⟨a', es, ea', ha, ru⟩ := own_dK p13.ok g
                rw [ea] at ea'; cases ea'
                obtain ⟨j, hj, rfl⟩ := key_rep (l3.vw p13.ok (by rw [vw_fz]; exact vk)) hkey hok.1
                refine ⟨a, _, rfl, DPut.k ha (by rw [← repK_len ru, ← big_eq]; exact hok.2), ?_⟩
                exact q _ _ S3 (p13.trans (upd_ow p13.ok g ea (.dK (put_rep ru hj (rv.mono p3.grow)))))
              · cases hc2
            · cases hc2
          · cases e
        · cases e
      · cases e
    · cases e
  · cases e
/-- d[k] op= e, d a dict -/
theorem so_augIx (O : Ok X N sc C F n) (hu : X.A.units + 1 < cLine) {x : Str} {i : Nat} {k e : Expr} {ck ce : CE} {o : O2} {op : Operator} {r : R2} {px ps pos : Pos} (hx : slot N x = some i) (hv : vis sc x = true) (hd : (x == ("__debug__" : Str)) = false) (hc : (x == ("__classdict__" : Str)) = false) (hs : isSlice k = false)
    (ho : InOp X op r) (pr : Prim2 X.K r (inopD o)) (hk : PE X k (tE X.K C ck)) (he : PE X e (tE X.K C ce)) : PS X (.AugAssign (.Subscript (.Name x px) k ps) op e pos) (tS X.K C (.augIx i ck o ce)) := by
  have hN : X.N[i]? = some x := by rw [O.eN]; exact slot_ok hx
  have pv := pe_var (X := X) (pos := px) hN (O.vis hv) hd hc
  refine PS.imp (ps_daug hu pv hk he ho (aug_store hs)) fun D σ H ⟨S, E, oo, I, e, q⟩ => ?_
  unfold evS at e
  split at e
  · rename_i c0 g0
    split at e
    · rename_i rk E1 e1
      split at e
      · rename_i kvs key g hkey
        simp only [Option.bind_eq_some_iff] at hkey
        obtain ⟨dk, vk, hkey⟩ := hkey
        split at e
        · rename_i hok
          split at e
          · rename_i old hold
            split at e
            · rename_i rr E2 e2
              split at e
              · rename_i kvs2 d2 g2 v2
                split at e
                · rename_i d3 h3
                  split at e
                  · rename_i hz
                    cases e
                    obtain ⟨a, ea, _, _⟩ := I.ow i c0 (.inl g0)
                    refine ⟨_, ea, ?_⟩
                    refine op_kept I e1 fun kv H1 S1 p1 l1 => ?_
                    have vwk := l1.vw p1.ok (by rw [vw_fz]; exact vk)
                    obtain ⟨a', es, ea', ha, ru⟩ := own_dK p1.ok g
                    rw [ea] at ea'; cases ea'
                    obtain ⟨j, hj, rfl⟩ := key_rep vwk hkey hok
                    obtain ⟨g1, _⟩ := get_rep ru hj
                    obtain ⟨v, hv, rv⟩ := g1 old hold
                    refine ⟨a, v, rfl, by rw [← hv]; exact DGet.k ha, ?_⟩
                    refine op_kept p1.ok e2 fun y H2 S2 p2 l2 => ?_
                    have p12 := p1.trans p2
                    refine pr S2 H2 v y old d2 _ _ p12.sub (.inl (rv.mono p2.grow)) (l2.vw p12.ok (by rw [vw_fz]; exact v2)) h3 fun z H3 S3 ex pres => ?_
                    have p3 := p12.trans (ex.post p12.ok)
                    cases pres with
                    | sc rz =>
                      obtain ⟨a', es2, ea', ha2, ru2⟩ := own_dK p3.ok g2
                      rw [ea] at ea'; cases ea'
                      refine ⟨_, DPut.k ha2 (by rw [← repK_len ru2, ← big_eq]; exact hz), ?_⟩
                      exact q _ _ S3 (p3.trans (upd_ow p3.ok g2 ea (.dK (put_rep ru2 hj rz))))
                  · cases e
                · cases e
              · cases e
            · cases e
          · cases e
        · cases e
      · cases e
    · cases e
  · cases e
end
end Fi
end

section
/-! FiM: comparisons, membership, displays of dicts. Own work. -/
namespace Fi
open PySem PySem.Spec L2
section
variable {X : Cx} {N : List Str} {sc W : Nms} {C : Ctx} {F : List (Str × Nat)} {n : Nat}
theorem Ok.u65 (O : Ok X N sc C F n) : X.A.units + 65 < cLine := by have := O.room.un; omega
theorem Ok.u66 (O : Ok X N sc C F n) : X.A.units + 66 < cLine := by have := O.room.un; omega
theorem Ok.u64 (O : Ok X N sc C F n) : X.A.units + 64 < cLine := by have := O.room.un; omega
theorem Ok.u1 (O : Ok X N sc C F n) : X.A.units + 1 < cLine := by have := O.room.un; omega

/-! ### displays of dicts -/
def kvOf : DKey → V
  | .i m => .int m
  | .s x => .str (strOf x)
  | .t _ => .non
def dspT (K : PySem.W.Frag) (C : Ctx) : List DKey → CEs → List (TE × TE)
  | k :: ks, .cons c cs => (tC (kvOf k), tE K C c) :: dspT K C ks cs
  | _, _ => []
theorem dsp_read {K : PySem.W.Frag} : ∀ {ks : List DKey} {cs : CEs} {S H : Hp} {σ : L2.St} {E E' : Env} {rs : List Rs} {Q : List (V × V) → Hp → Prop}, ks.length = cs.len → EnvOk K S H σ E → evEs C cs E = some (rs, E') →
    (∀ vs H' S', Post K S H σ E S' H' σ E' → LsOk K S' σ vs rs → Q ((ks.map kvOf).zip vs) H') → tPairs (dspT K C ks cs) σ H Q := by
  intro ks
  induction ks with
  | nil =>
    intro cs S H σ E E' rs Q hl I e q
    cases cs with
    | nil => unfold evEs at e; cases e; exact q [] H S (.refl I) .nil
    | cons c cs => cases hl
  | cons k ks ih =>
    intro cs S H σ E E' rs Q hl I e q
    cases cs with
    | nil => cases hl
    | cons c cs =>
      unfold evEs at e
      split at e
      · rename_i x E1 e1
        split at e
        · rename_i xs E2 e2
          cases e
          refine op_kept I e1 fun v H1 S1 p1 l1 => ?_
          refine ih (by simpa [CEs.len] using hl) p1.ok e2 fun vs H2 S2 p2 l2 => ?_
          exact q (v :: vs) H2 S2 (p1.trans p2) (.cons (l1.mono p2.grow) l2)
        · cases e
      · cases e
theorem kvOf_key {k : DKey} (h : k.ok false = true) : ∃ j, k.toKey = some j ∧ kvOf k = kV j := by
  cases k <;> first | exact ⟨_, rfl, rfl⟩ | cases h
theorem zip_keys {K : PySem.W.Frag} {S : Hp} : ∀ {ks : List DKey} {ds : List Fi.D} {vs : List V}, ks.all (DKey.ok false) = true → ks.length = ds.length → RepL K S ds vs →
    ∃ es : List (Key × V), (ks.map kvOf).zip vs = es.map (fun kv => (kV kv.1, kv.2)) ∧ es.length = ks.length ∧ ∀ kvs0 es0, RepK K S kvs0 es0 → RepK K S ((ks.zip ds).foldl (fun acc kd => kput kd.1 kd.2 acc) kvs0) (mergeK es0 es) := by
  intro ks
  induction ks with
  | nil => intro ds vs h hl r; cases ds with | nil => exact ⟨[], by simp, rfl, fun _ _ r => r⟩ | cons => cases hl
  | cons k ks ih =>
    intro ds vs h hl r
    cases ds with
    | nil => cases hl
    | cons d ds =>
      cases r with
      | @cons _ v _ vs rv rl =>
        simp only [List.all_cons, Bool.and_eq_true] at h
        obtain ⟨es, e1, e2, e3⟩ := ih h.2 (by simpa using hl) rl
        obtain ⟨j, hj, hk⟩ := kvOf_key h.1
        refine ⟨(j, v) :: es, by simp [e1, hk], by simp [e2], fun kvs0 es0 r0 => ?_⟩
        exact e3 _ _ (put_rep r0 hj rv)
theorem so_dsp {keys : List (Option Expr)} {vals : List Expr} {ks : List DKey} {cs : CEs} {pos : Pos} (hl : ks.length = cs.len) (h : PPs X pos keys vals (dspT X.K C ks cs)) (hall : keys.all (·.isSome) = true) (hkl : keys.length = vals.length) (h0 : keys ≠ []) (h15 : keys.length ≤ 15) :
    PE X (.Dict keys vals pos) (tE X.K C (.dsp ks cs)) := by
  refine PE.imp (pe_disp h hall hkl h0 h15) fun σ H Q ⟨S, E, r, E', I, e, q⟩ => ?_
  unfold evE at e
  split at e
  · rename_i rs E1 e1
    split at e
    · rename_i ds E2 e2
      split at e
      · rename_i c
        simp only [Bool.and_eq_true, decide_eq_true_eq] at c
        obtain ⟨⟨⟨c1, c2⟩, c3⟩, c4⟩ := c
        cases e
        intro p hp
        have x0 := (ext_new (o := .dK []) I.sub hp).post I
        have sp := same_none I.sub hp
        have np : ¬ Own σ E p := fun z => by
          obtain ⟨o, ho, _⟩ := own_some I z
          rw [hp] at ho; cases ho
        refine dsp_read hl x0.ok e1 fun vs H1 S1 p1 l1 => ?_
        obtain ⟨S2, p2, rl⟩ := l1.tks p1.ok e2
        have p02 : Post X.K S (upd H p (.dK [])) σ E S2 H1 σ E' := p1.trans p2
        have hp1 := p02.frame p _ np upd_same
        have sp2 := p02.keepS p _ np upd_same sp
        have np2 : ¬ Own σ E' p := fun z => (p02.own p z).elim np fun z => by rw [upd_same] at z; cases z
        obtain ⟨es, ez, el, em⟩ := zip_keys c4 c1 rl
        refine ⟨hp1, es, ez, by rw [el]; exact c3, ?_⟩
        have pall := (x0.trans p02).upd_new (o := .dK (mergeK [] es)) hp sp2 (by rw [hp1]; simp) np2
        exact q _ _ S2 pall (.ow rfl hp sp2 (by rw [upd_same]; exact .dK (em _ _ .nil)) np2)
      · cases e
    · cases e
  · cases e

/-! ### membership -/
theorem in_read (neg : Bool) {o : O2} (ho : o = if neg then .nin else .inn) {ca cb : CE} {σ : L2.St} {H : Hp} {Q : VK} (h : tE X.K C (.op2 o ca cb) σ H Q) :
    tOp (rInA X.K neg) (tE X.K C ca) (tE X.K C cb) σ H Q ∨ (if neg then tDNotIn (tE X.K C ca) (tE X.K C cb) σ H Q else tDIn (tE X.K C ca) (tE X.K C cb) σ H Q) := by
  obtain ⟨S, E, rr, E', I, e, q⟩ := h
  unfold evE at e
  split at e
  · rename_i ra E1 e1
    split at e
    · rename_i rb E2 e2
      split at e
      · rename_i da db va vb
        simp only [Option.map_eq_some_iff] at e
        obtain ⟨p, hp, e⟩ := e
        cases e
        have hp' : ∃ r, inD da db = some r ∧ p = .sc (.bl (if neg then !r else r)) := by
          cases neg
          · subst ho
            simp only [op2D, Option.map_eq_some_iff, Bool.false_eq_true, if_false] at hp
            obtain ⟨r, hr, rfl⟩ := hp
            exact ⟨r, hr, rfl⟩
          · subst ho
            simp only [op2D, Option.map_eq_some_iff, if_true] at hp
            obtain ⟨r, hr, rfl⟩ := hp
            exact ⟨r, hr, rfl⟩
        obtain ⟨r, hr, rfl⟩ := hp'
        by_cases nd : notDct db = true
        · left
          refine op_kept I e1 fun x H1 S1 p1 l1 => ?_
          refine op_kept p1.ok e2 fun y H2 S2 p2 l2 => ?_
          have p12 := p1.trans p2
          exact prim_in neg p12.sub ((l1.mono p2.grow).vw p12.ok va) (l2.vw p12.ok vb) hr nd fun v H' S' x r => op_end I q p12 x r
        · right
          have core : ∀ (x y : V) (H2 S2 : Hp), Post X.K S H σ E S2 H2 σ E' → Vw X.K S2 H2 da x → Vw X.K S2 H2 db y → ∃ a o, y = .ref a ∧ DGet H2 a x o ∧ Q (.bl (if neg then !o.isSome else o.isSome)) H2 := fun x y H2 S2 p12 vx vy => by
            unfold inD at hr
            split at hr <;> first | (exact absurd rfl nd) | skip
            · rename_i kvs
              simp only [Option.bind_eq_some_iff] at hr
              obtain ⟨k, hk, hr⟩ := hr
              split at hr
              · rename_i ok
                cases hr
                obtain ⟨a, o, ex, g, g1, g2⟩ := dget_rep p12.sub vy vx hk ok
                refine ⟨a, o, ex, g, ?_⟩
                have : o.isSome = (kget k kvs).isSome := by
                  cases w : kget k kvs with
                  | none => rw [g2 w]; rfl
                  | some d => obtain ⟨v, ev, _⟩ := g1 d w; rw [ev]; rfl
                rw [this]
                exact op_end I q p12 (.refl p12.sub) (.sc (.bl _))
              · cases hr
            · cases hr
          cases neg
          · refine op_kept I e1 fun x H1 S1 p1 l1 => ?_
            refine op_kept p1.ok e2 fun y H2 S2 p2 l2 => ?_
            have p12 := p1.trans p2
            exact core x y H2 S2 p12 ((l1.mono p2.grow).vw p12.ok va) (l2.vw p12.ok vb)
          · refine op_kept I e1 fun x H1 S1 p1 l1 => ?_
            refine op_kept p1.ok e2 fun y H2 S2 p2 l2 => ?_
            have p12 := p1.trans p2
            exact core x y H2 S2 p12 ((l1.mono p2.grow).vw p12.ok va) (l2.vw p12.ok vb)
      · cases e
    · cases e
  · cases e
theorem mark_ok {op : CmpOp} {b : Expr} (h : isSetD b = false) : behindInMarks op b = false := by
  cases b <;> first | rfl | cases h
/-- the outcome of a comparison -/
def isCmpO : O2 → Bool
  | .eq => true | .ne => true | .lt => true | .le => true | .gt => true | .ge => true | .is => true | .isn => true | .inn => true | .nin => true
  | _ => false
theorem cmp_bl {o : O2} (h : isCmpO o = true) {a b : Fi.D} {p : PR} (e : op2D o a b = some p) : ∃ k, p = .sc (.bl k) := by
  have cm : ∀ {f : Int → Int → Bool} {g : PyData → PyData → Bool}, cmpA f g a b = some p → ∃ k, p = .sc (.bl k) := fun {f g} e => by
    unfold cmpA at e
    split at e
    · cases e; exact ⟨_, rfl⟩
    · unfold ordD at e
      split at e
      · split at e
        · cases e; exact ⟨_, rfl⟩
        · cases e
      · cases e
  have is : ∀ {neg : Bool}, isD neg a b = some p → ∃ k, p = .sc (.bl k) := fun {f} e => by
    unfold isD at e
    split at e
    · cases e; exact ⟨_, rfl⟩
    · cases e
  cases o <;> first | (cases h; done) | (simp only [op2D] at e; first | exact cm e | exact is e | (simp only [Option.map_eq_some_iff] at e; obtain ⟨r, _, rfl⟩ := e; exact ⟨_, rfl⟩))
theorem cmp_res {o : O2} (h : isCmpO o = true) {ca cb : CE} : ∀ E r E', evE C (.op2 o ca cb) E = some (r, E') → ∃ k, r = .sh (.bl k) := by
  intro E r E' e
  unfold evE at e
  split at e
  · split at e
    · split at e
      · simp only [Option.map_eq_some_iff] at e
        obtain ⟨p, hp, e⟩ := e
        obtain ⟨k, rfl⟩ := cmp_bl h hp
        cases e
        exact ⟨k, rfl⟩
      · cases e
    · cases e
  · cases e
/-- a comparison, by its rule -/
theorem so_cmpO {a b : Expr} {ca cb : CE} {o : O2} {op : CmpOp} {r : R2} {pos : Pos} (hc : isCmpO o = true) (ho : OpR X (compareOp op) r) (pr : Prim2 X.K r (op2D o)) (hs : isSetD b = false) (ha : PE X a (tE X.K C ca)) (hb : PE X b (tE X.K C cb)) :
    PE X (.Compare a [op] [b] pos) (tE X.K C (.op2 o ca cb)) ∧ PT X (.Compare a [op] [b] pos) (tT X.K C (.op2 o ca cb)) := by
  refine ⟨so_op2 (fun h1 h2 => pe_cmpR ho h1 h2 (mark_ok hs)) pr ha hb, so_cmpT (pt_cmpR ho ha hb (mark_ok hs)) (fun σ H Q ⟨S, E, rr, E', I, e, q⟩ => ?_) (cmp_res hc)⟩
  unfold evE at e
  split at e
  · rename_i ra E1 e1
    split at e
    · rename_i rb E2 e2
      split at e
      · rename_i da db va vb
        simp only [Option.map_eq_some_iff] at e
        obtain ⟨p, hp, e⟩ := e
        cases e
        refine op_kept I e1 fun x H1 S1 p1 l1 => ?_
        refine op_kept p1.ok e2 fun y H2 S2 p2 l2 => ?_
        have p12 := p1.trans p2
        exact pr S2 H2 x y da db p Q p12.sub ((l1.mono p2.grow).vw p12.ok va) (l2.vw p12.ok vb) hp fun v H' S' x r => op_end I q p12 x r
      · cases e
    · cases e
  · cases e
theorem PT.or {X : Cx} {e : Expr} {t t' : TT} (h : PT X e t) (h' : PT X e t') : PT X e (fun σ H Q => t σ H Q ∨ t' σ H Q) := ⟨fun pins s σ H Q I q => q.elim (h.run pins s σ H Q I) (h'.run pins s σ H Q I)⟩
theorem tT_of_bl {c : CE} {σ : L2.St} {H : Hp} {Q : Bool → Hp → Prop} (hb : ∀ E r E', evE C c E = some (r, E') → ∃ k, r = .sh (.bl k)) (h : tT X.K C c σ H Q) : tE X.K C c σ H fun x H1 => ∃ k, x = .bl k ∧ Q k H1 := by
  obtain ⟨S, E, r, E', k, I, e, tk, q⟩ := h
  obtain ⟨k', rfl⟩ := hb E r E' e
  refine ⟨S, E, _, E', I, e, fun v H1 S1 p1 r1 => ?_⟩
  have tk : some k' = some k := tk
  cases tk
  cases r1 with
  | sh r => cases r; exact ⟨_, rfl, q H1 S1 p1⟩
theorem so_in (O : Ok X N sc C F n) {a b : Expr} {ca cb : CE} {pos : Pos} (hs : isSetD b = false) (ha : PE X a (tE X.K C ca)) (hb : PE X b (tE X.K C cb)) :
    PE X (.Compare a [.In] [b] pos) (tE X.K C (.op2 .inn ca cb)) ∧ PT X (.Compare a [.In] [b] pos) (tT X.K C (.op2 .inn ca cb)) :=
  ⟨PE.imp (PE.or (pe_cmpR (op_inA O.u66) ha hb (mark_ok hs)) (pe_cmp (pc_din O.u1 ha hb) (mark_ok hs))) fun σ H Q h => in_read false rfl h,
   PT.imp (PT.or (pt_cmpR (op_inA O.u66) ha hb (mark_ok hs)) (pt_cmp (pc_din O.u1 ha hb) (mark_ok hs))) fun σ H Q h => in_read false rfl (tT_of_bl (cmp_res rfl) h)⟩
theorem so_nin (O : Ok X N sc C F n) {a b : Expr} {ca cb : CE} {pos : Pos} (hs : isSetD b = false) (ha : PE X a (tE X.K C ca)) (hb : PE X b (tE X.K C cb)) :
    PE X (.Compare a [.NotIn] [b] pos) (tE X.K C (.op2 .nin ca cb)) ∧ PT X (.Compare a [.NotIn] [b] pos) (tT X.K C (.op2 .nin ca cb)) :=
  ⟨PE.imp (PE.or (pe_cmpR (op_ninA O.u66) ha hb (mark_ok hs)) (pe_cmp (pc_dnotin O.u1 ha hb) (mark_ok hs))) fun σ H Q h => in_read true rfl h,
   PT.imp (PT.or (pt_cmpR (op_ninA O.u66) ha hb (mark_ok hs)) (pt_cmp (pc_dnotin O.u1 ha hb) (mark_ok hs))) fun σ H Q h => in_read true rfl (tT_of_bl (cmp_res rfl) h)⟩
end
end Fi
end

section
/-! FiChn: a op b op c. Own work. -/
namespace Fi
open PySem PySem.Spec L2
section
variable {X : Cx} {N : List Str} {sc W : Nms} {C : Ctx} {F : List (Str × Nat)} {n : Nat}
theorem chain_read {ca cb cc : CE} {o p : O2} {r r' : R2} (pr : Prim2 X.K r (op2D o)) (pr' : Prim2 X.K r' (op2D p)) {σ : L2.St} {H : Hp} {Q : VK} (h : tE X.K C (.chn o p ca cb cc) σ H Q) : tChain r r' (tE X.K C ca) (tE X.K C cb) (tE X.K C cc) σ H Q := by
  obtain ⟨S, E, rr, E', I, e, q⟩ := h
  unfold evE at e
  split at e
  · rename_i ra E1 e1
    split at e
    · rename_i rb E2 e2
      split at e
      · rename_i da db va vb
        refine op_kept I e1 fun x H1 S1 p1 l1 => ?_
        refine op_kept p1.ok e2 fun y H2 S2 p2 l2 => ?_
        have p12 := p1.trans p2
        split at e
        · rename_i ho
          split at e
          · rename_i rc E3 e3
            split at e
            · rename_i db2 dc vb2 vc
              simp only [Option.map_eq_some_iff] at e
              obtain ⟨pq, hp, e⟩ := e
              cases e
              refine pr S2 H2 x y da db _ _ p12.sub ((l1.mono p2.grow).vw p12.ok va) (l2.vw p12.ok vb) ho fun v H3 S3 ex pres => ?_
              have p3 := ex.post p12.ok
              cases pres with
              | sc rv =>
                cases rv
                refine ⟨true, rfl, ?_⟩
                rw [if_pos rfl]
                refine op_kept p3.ok e3 fun w H4 S4 p4 l4 => ?_
                have p14 := (p12.trans p3).trans p4
                exact pr' S4 H4 y w db2 dc pq Q p14.sub ((l2.mono (p3.trans p4).grow).vw p14.ok vb2) (l4.vw p14.ok vc) hp fun v H' S' x r => op_end I q p14 x r
            · cases e
          · cases e
        · rename_i ho
          cases e
          refine pr S2 H2 x y da db _ _ p12.sub ((l1.mono p2.grow).vw p12.ok va) (l2.vw p12.ok vb) ho fun v H3 S3 ex pres => ?_
          have p3 := ex.post p12.ok
          cases pres with
          | sc rv =>
            cases rv
            refine ⟨false, rfl, ?_⟩
            rw [if_neg (by decide)]
            exact q (.bl false) H3 S3 (p12.trans p3) (.sh (.bl false))
        · cases e
      · cases e
    · cases e
  · cases e
theorem chain_res {o p : O2} (h : isCmpO p = true) {ca cb cc : CE} : ∀ E r E', evE C (.chn o p ca cb cc) E = some (r, E') → ∃ k, r = .sh (.bl k) := by
  intro E r E' e
  unfold evE at e
  split at e
  · split at e
    · split at e
      · split at e
        · split at e
          · split at e
            · simp only [Option.map_eq_some_iff] at e
              obtain ⟨p, hp, e⟩ := e
              obtain ⟨k, rfl⟩ := cmp_bl h hp
              cases e
              exact ⟨k, rfl⟩
            · cases e
          · cases e
        · cases e; exact ⟨_, rfl⟩
        · cases e
      · cases e
    · cases e
  · cases e
def isOrdO : CmpOp → Bool
  | .Lt => true | .LtE => true | .Gt => true | .GtE => true | .Eq => true | .NotEq => true
  | _ => false
theorem opr_of (O : Ok X N sc C F n) {op : CmpOp} (h : isOrdO op = true) {o : O2} (ho : (match op with | .Lt => O2.lt | .LtE => .le | .Gt => .gt | .GtE => .ge | .Eq => .eq | _ => .ne) = o) : ∃ r, OpR X (compareOp op) r ∧ Prim2 X.K r (op2D o) ∧ isCmpO o = true := by
  subst ho
  cases op <;> first | (cases h; done) | skip
  · exact ⟨_, op_eqP O.u66, prim_eq, rfl⟩
  · exact ⟨_, op_neP O.u66, prim_ne, rfl⟩
  · exact ⟨_, op_ltA O.u66, prim_cmp _ _, rfl⟩
  · exact ⟨_, op_leA O.u66, prim_cmp _ _, rfl⟩
  · exact ⟨_, op_gtA O.u66, prim_cmp _ _, rfl⟩
  · exact ⟨_, op_geA O.u66, prim_cmp _ _, rfl⟩
theorem so_chain (O : Ok X N sc C F n) {a b c : Expr} {ca cb cc : CE} {op op' : CmpOp} {o o' : O2} {pos : Pos} (h : isOrdO op = true) (h' : isOrdO op' = true) (ho : (match op with | .Lt => O2.lt | .LtE => .le | .Gt => .gt | .GtE => .ge | .Eq => .eq | _ => .ne) = o)
    (ho' : (match op' with | .Lt => O2.lt | .LtE => .le | .Gt => .gt | .GtE => .ge | .Eq => .eq | _ => .ne) = o') (ha : PE X a (tE X.K C ca)) (hb : PE X b (tE X.K C cb)) (hc : PE X c (tE X.K C cc)) :
    PE X (.Compare a [op, op'] [b, c] pos) (tE X.K C (.chn o o' ca cb cc)) ∧ PT X (.Compare a [op, op'] [b, c] pos) (tT X.K C (.chn o o' ca cb cc)) := by
  obtain ⟨r, r1, r2, _⟩ := opr_of O h ho
  obtain ⟨r', r1', r2', r3'⟩ := opr_of O h' ho'
  have hm : lastMarks [op, op'] [b, c] = false := by
    show behindInMarks op' c = false
    exact nomark c (by intro z; subst z; cases h') (by intro z; subst z; cases h')
  exact ⟨PE.imp (pe_chain r1 r1' ha hb hc hm) fun σ H Q q => chain_read r2 r2' q, so_cmpT (pt_chain r1 r1' ha hb hc hm) (fun σ H Q q => chain_read r2 r2' q) (chain_res r3')⟩
end
end Fi
end

section
/-! FiRev: a tuple turned round by a slice. Own work. -/
namespace Fi
open PySem PySem.Spec L2 PyProof.Rows
section
variable {prog : Program} {w : World} {A : Around} {E : Value → Shared → Prop} {s : Shared}
theorem adjust_rev (n : Nat) : Builtin.Slice.sliceAdjust none none (-1) (n : Int) = ((n : Int) - 1, -1) := rfl
theorem places_rev (n : Nat) : Builtin.Slice.slicePlaces ((n : Int) - 1) (-1) (-1) = n := by
  unfold Builtin.Slice.slicePlaces
  rw [if_neg (by omega)]
  split
  · simp
  · omega
theorem applied_rev {sl : Addr} {vk : Value} {n : Nat} {Q : Int × Int × Nat → Shared → Prop} (hs : s.heap.IsSliceOf sl .none .none vk) (pk : IsPart vk (some (-1))) (h : Q ((n : Int) - 1, -1, n) s) :
    wpAny (model prog w) A (Builtin.Slice.sliceApplied (.ref sl) (pure (n : Int))) Q E s := by
  obtain ⟨os, hos, hcs, hds⟩ := id hs
  unfold Builtin.Slice.sliceApplied Builtin.Slice.sliceFields
  refine wpAny_bind (wpAny_bind (wpAny_field hos hds (x := .none) rfl (wpAny_bind (wpAny_field hos hds (x := .none) rfl (wpAny_bind (wpAny_field hos hds (x := vk) rfl (wpAny_pure ?_)))))))
  refine wpAny_bind (HT.slicePart_ pk ?_)
  show wpAny _ _ (if ((-1 : Int) == 0) = true then _ else _) _ _ s
  rw [if_neg (by decide)]
  refine wpAny_bind (slicePart_none (wpAny_bind (slicePart_none (wpAny_bind (wpAny_pure ?_)))))
  show wpAny _ _ (match Builtin.Slice.sliceAdjust none none (-1) (n : Int) with | (lo, hi) => pure (lo, (-1 : Int), Builtin.Slice.slicePlaces lo hi (-1))) _ _ s
  rw [adjust_rev n]
  show wpAny _ _ (pure (((n : Int) - 1, (-1 : Int), Builtin.Slice.slicePlaces ((n : Int) - 1) (-1) (-1)))) _ _ s
  rw [places_rev]
  exact wpAny_pure h
theorem fm_congr {α β : Type} {f g : α → Option β} : ∀ {l : List α}, (∀ a ∈ l, f a = g a) → l.filterMap f = l.filterMap g
  | [], _ => rfl
  | a :: l, h => by
    rw [List.filterMap_cons, List.filterMap_cons, h a List.mem_cons_self, fm_congr fun b hb => h b (List.mem_cons_of_mem _ hb)]
theorem pick_rev (xs : Array Value) : ((List.range xs.size).filterMap fun (m : Nat) => xs[(((xs.size : Nat) : Int) - 1 + (m : Int) * (-1)).toNat]?).toArray = xs.toList.reverse.toArray := by
  congr 1
  have e : ∀ m ∈ List.range xs.size, xs[(((xs.size : Nat) : Int) - 1 + (m : Int) * (-1)).toNat]? = xs.toList.reverse.toArray[m]? := fun m hm => by
    have hm : m < xs.size := by simpa using hm
    have h1 : xs.toList.reverse.toArray[m]? = xs.toList.reverse[m]? := by simp
    rw [h1, List.getElem?_reverse (by simpa using hm)]
    rw [show (((xs.size : Nat) : Int) - 1 + (m : Int) * (-1)).toNat = xs.toList.length - 1 - m by simp; omega]
    simp
  rw [fm_congr e]
  have h := PySem.W.krv_all xs.toList.reverse.toArray
  rw [show xs.toList.reverse.toArray.size = xs.size by simp] at h
  exact h
theorem getItem_tuple_rev {t sl : Addr} {items : Array Value} {vk : Value} {Q : Value → Shared → Prop} (ht : IsTup s.heap t items) (hs : s.heap.IsSliceOf sl .none .none vk) (pk : IsPart vk (some (-1)))
    (h : Q (.ref s.heap.objs.size) { s with heap := s.heap.push { cls := .type "tuple", data := .seq items.toList.reverse.toArray } }) (hsz : items.size ≤ sizeLine) : wpAny (model prog w) A (getItem (.ref t) (.ref sl)) Q E s := by
  have htake : sizeOk (.seq items.toList.reverse.toArray) := by
    show items.toList.reverse.toArray.size ≤ sizeLine
    simpa using hsz
  obtain ⟨os, hos, hcs, hds⟩ := id hs
  have hTs : s.TypeIs (.ref sl) "slice" := ⟨os, hos, hcs⟩
  unfold getItem
  try with_reducible refine wpAny_holding ?_
  first | refine wpAny_bind (wpAny_pure ?_) | skip
  refine wpAny_bind (wpAny_sequenceKey ht.typeIs (by decide) ?_)
  refine wpAny_bind (wpAny_callSpecial?_slot (name := Str.ofString "__getitem__") ht.typeIs PyProof.Rows.slot_tuple_getitem
    (wpAny_call_entry PyProof.Rows.slot_tuple_getitem ht.typeIs entry_tuple_getitem ?_ (args_tuple_getitem _ _)))
  show wpAny _ _ (Builtin.Tuple.tupleItemsOf (.ref t) >>= _) _ _ s
  refine wpAny_bind (tupleItemsOf_ ht ?_)
  refine wpAny_bind (wpAny_typeOf hTs ?_)
  rw [if_pos (by decide)]
  refine wpAny_bind (applied_rev hs pk ?_)
  show wpAny _ _ (if (((items.size : Nat) : Int) - 1 == 0 && (-1 : Int) == 1 && items.size == items.size) = true then _ else _) _ _ s
  rw [if_neg (by rw [show ((-1 : Int) == 1) = false from rfl, Bool.and_false]; simp), pick_rev]
  first
    | exact wpAny_bind (m := Builtin.Tuple.tupleExact _) (wpAny_newObj_type (wpAny_pure ⟨_, rfl, wpAny_pure h⟩) htake)
    | exact wpAny_bind (m := Builtin.Tuple.tupleExact _) (wpAny_newObj_type (wpAny_bind (wpAny_pure (wpAny_pure ⟨_, rfl, wpAny_pure h⟩))) htake)
    | exact wpAny_bind (wpAny_bind (m := Builtin.Tuple.tupleExact _) (wpAny_newObj_type (wpAny_pure (wpAny_pure ⟨_, rfl, wpAny_pure h⟩)) htake))
    | exact wpAny_bind (wpAny_bind (m := Builtin.Tuple.tupleExact _) (wpAny_newObj_type (wpAny_pure ⟨_, rfl, wpAny_pure h⟩) htake))
end
section
variable {X : Cx} {C : Ctx}
def tRevT (K : PySem.W.Frag) (te : TE) : TE := fun σ H Q => te σ H fun x H1 => ∃ a xs, x = .ref a ∧ SqT K H1 a xs ∧ ∀ p, H1 p = none → Q (.ref p) (upd H1 p (.tup xs.reverse))
theorem pe_revT {e : Expr} {te : TE} {k : Nat} {p1 p2 p3 pos : Pos} (he : PE X e te) : PE X (.Subscript e (.Slice none none (some (.UnaryOp .USub (.Constant (.int 1) k p1) p2)) p3) pos) (tRevT X.K te) := by
  refine ⟨fun pins s σ H Q I h => ?_⟩
  refine Subscript_ (thn (he.run pins s σ H _ I h) fun v s1 ⟨x, H1, I1, r1, q1⟩ => ?_)
  obtain ⟨a, xs, ex, hx, q⟩ := q1
  subst ex
  cases r1
  have hst : PO X (some (.UnaryOp .USub (.Constant (.int 1) k p1) p2)) (tPart (tUn (rU fun i => .int (-i)) (tC (.int 1)))) := po_some (pe_un un_neg pe_int)
  refine wpAny_Slice (thn (po_none.run pins s1 σ H1 (fun o H2 => o = none ∧ H2 = H1) I1 ⟨rfl, rfl⟩) fun vl s2 ⟨l, H2, I2, pl, el, e2⟩ => ?_)
  subst el e2
  refine thn (po_none.run pins s2 σ H2 (fun o H3 => o = none ∧ H3 = H2) I2 ⟨rfl, rfl⟩) fun vu s3 ⟨u, H3, I3, pu, eu, e3⟩ => ?_
  subst eu e3
  refine thn (hst.run pins s3 σ H3 (fun o H4 => o = some (-1) ∧ H4 = H3) I3 ⟨1, rfl, -1, rfl, rfl, rfl⟩) fun vs s4 ⟨o, H4, I4, ps, eo, e4⟩ => ?_
  subst eo e4
  have I5 : Inv X pins σ H4 { s4 with heap := s4.heap.push { cls := .type "slice", data := .fields #[vl, vu, vs] } } := I4.kept (t' := s4.toks) fun b ob q => Heap.get?_push_of_some _ q
  obtain ⟨its, r, ht, hz⟩ := I5.tuple hx
  have hlen := r.length
  cases pl
  cases pu
  refine tail_any (ops := [.ref a, .ref s4.heap.objs.size]) ht.typeIs PyProof.Rows.slot_tuple_getitem.lookup ?_ (by with_unfolding_all rfl)
  refine getItem_tuple_rev ht (Heap.IsSliceOf.new _ .none .none vs) ps ?_ (by rw [List.size_toArray]; omega)
  refine ⟨.ref _, _, I5.laid (t' := s4.toks) (o := .tup xs.reverse) (fun b ob q => Heap.get?_push_of_some _ q) (Nat.le_refl _) ?_, rfl, q _ (I5.hok.fresh (Nat.le_refl _))⟩
  exact ⟨by rw [List.length_reverse]; exact hz, _, r.reverse, ⟨_, Heap.get?_push_size _ rfl, rfl, _, rfl⟩⟩
theorem so_rev {e : Expr} {c : CE} {k : Nat} {p1 p2 p3 pos : Pos} (h : PE X e (tE X.K C c)) : PE X (.Subscript e (.Slice none none (some (.UnaryOp .USub (.Constant (.int 1) k p1) p2)) p3) pos) (tE X.K C (.rev c)) := by
  refine PE.imp (PE.or (pe_revL h) (pe_revT h)) fun σ H Q ⟨S, E, r, E', I, e, q⟩ => ?_
  unfold evE at e
  split at e
  · rename_i ra E1 e1
    split at e
    · rename_i da va
      simp only [Option.map_eq_some_iff] at e
      obtain ⟨p, hp, e⟩ := e
      cases e
      unfold revD at hp
      split at hp
      · cases hp
        left
        refine op_kept I e1 fun x H1 S1 p1 l1 => ?_
        obtain ⟨a, vs, rfl, ha, rl⟩ := (l1.vw p1.ok (by rw [vw_fz]; exact va)).lst p1.sub
        exact ⟨a, vs, rfl, .of ha, fun p hp => op_end (p := .fr _) I q p1 (ext_new p1.sub hp) (new_fr p1.sub hp (.lst rl.reverse))⟩
      · cases hp
        right
        refine op_kept I e1 fun x H1 S1 p1 l1 => ?_
        obtain ⟨a, vs, rfl, ha, rl⟩ := (l1.vw p1.ok (by rw [vw_fz]; exact va)).tup p1.sub
        exact ⟨a, vs, rfl, ha, fun p hp => op_end (p := .sc _) I q p1 (ext_tup p1.sub hp) (.sc (new_tup p1.sub hp rl.reverse))⟩
      · cases hp
    · cases e
  · cases e
end
end Fi
end

section
/-! FiN: from the program's text to code; the code reads as the text runs. Expressions. Own work. -/
namespace Fi
open PySem PySem.Spec L2

/-! ### tables -/
def trTy (x : Str) : Option String :=
  if x = ("dict" : Str) then some "dict" else if x = ("tuple" : Str) then some "tuple" else if x = ("list" : Str) then some "list" else if x = ("bool" : Str) then some "bool" else if x = ("int" : Str) then some "int" else if x = ("str" : Str) then some "str" else none
def trBlt (x : Str) : Option Blt :=
  if x = ("len" : Str) then some .len else if x = ("abs" : Str) then some .abs else if x = ("int" : Str) then some .int else if x = ("tuple" : Str) then some .tuple else if x = ("list" : Str) then some .list
  else if x = ("any" : Str) then some .any else if x = ("all" : Str) then some .all else if x = ("isinstance" : Str) then some .isinst else if x = ("sorted" : Str) then some .sorted else none
def opB : Operator → Option O2
  | .Add => some .add | .Sub => some .sub | .Mult => some .mul | .FloorDiv => some .fdiv | .Mod => some .mod | .Pow => some .pow
  | _ => none
def opC : CmpOp → Option O2
  | .Eq => some .eq | .NotEq => some .ne | .Lt => some .lt | .LtE => some .le | .Gt => some .gt | .GtE => some .ge | .Is => some .is | .IsNot => some .isn | .In => some .inn | .NotIn => some .nin
def trC : Const → Option D
  | .none => some .non | .bool b => some (.bl b) | .int i => some (.int i) | .str s => some (.str s.cps.toList)
  | _ => none
def keyOfE : Option Expr → Option DKey
  | some (.Constant (.str s) _ _) => some (.s s.cps.toList)
  | some (.Constant (.int i) _ _) => some (.i i)
  | _ => none
def keysOf : List (Option Expr) → Option (List DKey)
  | [] => some []
  | k :: ks => match keyOfE k, keysOf ks with
    | some a, some b => some (a :: b)
    | _, _ => none
/-- the names of a comprehension's block, seen from within -/
def relN (names sc : Nms) : Nms := names.map fun (n, k) => if (k == .free && sc.lookup n == some .cell) then (n, .cell) else (n, k)
def ownOf (N : List Str) (names : Nms) : List (Str × Nat) := names.filterMap fun (x, k) => if k == .local || k == .cell then (slot N x).map (x, ·) else none
def scN (names : Nms) : Scope := { kind := .function, names := names, isGenerator := false, isCoroutine := false }
def trTg (N : List Str) (sc W : Nms) : Expr → Option Tg
  | .Name x _ => if sto sc W x then (slot N x).map .nm else none
  | .Tuple es _ _ => (nmSlots N sc W es).map .tp
  | _ => none
def isRng (e : Expr) : Bool := match e with
  | .Call (.Name f _) _ _ _ => f == ("range" : Str)
  | _ => false

/-- a name that is a slot -/
def nmSlot (N : List Str) (sc : Nms) : Expr → Option Nat
  | .Name x _ => if (x == ("__debug__" : Str)) || (x == ("__classdict__" : Str)) then none else if vis sc x then slot N x else none
  | _ => none
/-- sorted(set(a)) -/
def isSS (sc : Nms) (f : Str) : List Expr → Option Expr
  | [.Call (.Name g _) [a] [] _] => if (f == ("sorted" : Str)) && (g == ("set" : Str)) && (sc.lookup g == some .globalImplicit) && !isStar a then some a else none
  | _ => none
/-- list(range(a)) -/
def isLR (sc : Nms) (f : Str) : List Expr → Option Expr
  | [.Call (.Name g _) [a] [] _] => if (f == ("list" : Str)) && (g == ("range" : Str)) && (sc.lookup g == some .globalImplicit) && !isStar a then some a else none
  | _ => none
def isLR2 (sc : Nms) (f : Str) : List Expr → Option (Expr × Expr)
  | [.Call (.Name g _) [a, b] [] _] => if (f == ("list" : Str)) && (g == ("range" : Str)) && (sc.lookup g == some .globalImplicit) && !isStar a && !isStar b then some (a, b) else none
  | _ => none
def mkCmp (sl : Option Nat) (c : CE) (t : Tg) (ci : IT) (cs : CEs) (own : List Nat) : CE := match sl with
  | some i => .cmpV c t i cs own
  | none => .cmp c (.mk t ci cs) own

/-! ### the translation of expressions -/
section
variable (N : List Str) (F : List (Str × Nat))
mutual
def trE : Nat → Nms → Expr → Option CE
  | 0, _, _ => none
  | n + 1, sc, e => some (Option.getD (match e with
    | .Name x _ =>
      if (x == ("__debug__" : Str)) || (x == ("__classdict__" : Str)) then none
      else if vis sc x then (slot N x).map .var
      else if sc.lookup x == some .globalImplicit then (match trTy x with
        | some t => some (.con (.ty t))
        | none => some (.glo x))
      else none
    | .Constant c _ _ => (trC c).map .con
    | .Tuple es _ _ => (trEs n sc es).map .tup
    | .List es _ => (trEs n sc es).map .lst
    | .Dict ks vs _ => if ks.isEmpty && vs.isEmpty then some (.dct false .nil) else (match keysOf ks, trEs n sc vs with
      | some kk, some cs => if kk.length == cs.len && decide (0 < kk.length) && decide (kk.length ≤ 15) then some (.dsp kk cs) else none
      | _, _ => none)
    | .BinOp a op b _ => (match opB op, trE n sc a, trE n sc b with
      | some o, some ca, some cb => some (.op2 o ca cb)
      | _, _, _ => none)
    | .UnaryOp .Not a _ => (trE n sc a).map .not
    | .UnaryOp .USub a _ => (trE n sc a).map (.op1 .neg)
    | .BoolOp op (a :: r) _ => trW n sc op a r
    | .IfExp c a b _ => (match trE n sc c, trE n sc a, trE n sc b with
      | some cc, some ca, some cb => some (.ifx cc ca cb)
      | _, _, _ => none)
    | .Compare a [op] [b] _ => if isSetD b then none else (match opC op, trE n sc a, trE n sc b with
      | some o, some ca, some cb => some (.op2 o ca cb)
      | _, _, _ => none)
    | .Compare a [op, op'] [b, c] _ => if isOrdO op && isOrdO op' then (match opC op, opC op', trE n sc a, trE n sc b, trE n sc c with
      | some o, some o', some ca, some cb, some cc => some (.chn o o' ca cb cc)
      | _, _, _, _, _ => none) else none
    | .Subscript a s _ => (match s with
      | .Slice lo hi none _ => (match trE n sc a, trO n sc lo, trO n sc hi with
        | some ca, some cl, some ch => some (.cut ca cl ch)
        | _, _, _ => none)
      | .Slice none none (some (.UnaryOp .USub (.Constant (.int i) _ _) _)) _ => if i = 1 then (trE n sc a).map .rev else none
      | b => if isSlice b then none else (match trE n sc a, trE n sc b with
        | some ca, some cb => some (.idx ca cb)
        | _, _ => none))
    | .Call (.Name f _) args [] _ =>
      if (f == ("__debug__" : Str)) || !(sc.lookup f == some .globalImplicit) then none
      else (match trEs n sc args with
        | some cs => (match F.lookup f with
          | some m => if cs.len == m then some (.call f cs) else none
          | none => if args.isEmpty then none else (match isSS sc f args with
            | some a => (trE n sc a).map .sset
            | none => (match isLR sc f args with
              | some a => (trE n sc a).map fun c => .lrng (.rng1 c)
              | none => (match isLR2 sc f args with
                | some (a, b) => (match trE n sc a, trE n sc b with
                  | some ca, some cb => some (.lrng (.rng2 ca cb))
                  | _, _ => none)
                | none => (trBlt f).map fun b => .blt b cs))))
        | none => none)
    | .Call (.Attribute o m apos) args [] cpos =>
      if !(apos.endLine == cpos.line) || isBare o then none
      else (match trEs n sc args with
        | some cs =>
          if m = ("join" : Str) then (if args.length == 1 then (trE n sc o).map fun co => .mth .join co cs else none)
          else if m = ("get" : Str) then (if args.length == 1 then (trE n sc o).map fun co => .mth .get co cs else none)
          else (match o with
            | .Name x _ => if (x == ("__debug__" : Str)) || (x == ("__classdict__" : Str)) || !vis sc x then none else (match slot N x with
              | some i =>
                if m = ("append" : Str) then (if args.length == 1 then some (.mut .append i cs) else none)
                else if m = ("extend" : Str) then (if args.length == 1 then some (.mut .extend i cs) else none)
                else if m = ("pop" : Str) then (if args.isEmpty then some (.mut .pop i .nil) else none)
                else none
              | none => none)
            | _ => none)
        | none => none)
    | .ListComp elt [⟨tg, it, ifs, as⟩] scope _ =>
      if as == 0 && !isSetD it && blkC N (scN sc) scope (ownOf N scope.names) then
        (match trTg N (relN scope.names sc) scope.names tg, trI n sc it, trEs n (relN scope.names sc) ifs, trE n (relN scope.names sc) elt with
        | some t, some ci, some cs, some c => if decide (ifs.length ≤ 1) && t.slots.all (fun i => (ownOf N scope.names).any fun p => p.2 == i) then some (mkCmp (nmSlot N sc it) c t ci cs ((ownOf N scope.names).map (·.2))) else none
        | _, _, _, _ => none)
      else none
    | .ListComp elt [⟨tg, it, ifs, as⟩, ⟨tg2, it2, ifs2, as2⟩] scope _ =>
      if as == 0 && as2 == 0 && !isSetD it && !isSetD it2 && blkC N (scN sc) scope (ownOf N scope.names) then
        (match trTg N (relN scope.names sc) scope.names tg, trI n sc it, trEs n (relN scope.names sc) ifs, trTg N (relN scope.names sc) scope.names tg2, trI n (relN scope.names sc) it2, trEs n (relN scope.names sc) ifs2, trE n (relN scope.names sc) elt with
        | some t, some ci, some cs, some t2, some ci2, some cs2, some c => if decide (ifs.length ≤ 1) && decide (ifs2.length ≤ 1) && t.slots.all (fun i => (ownOf N scope.names).any fun p => p.2 == i) && t2.slots.all (fun i => (ownOf N scope.names).any fun p => p.2 == i) then
            some (.cmp2 c (.mk t ci cs) (.mk t2 ci2 cs2) ((ownOf N scope.names).map (·.2))) else none
        | _, _, _, _, _, _, _ => none)
      else none
    | _ => none) .bad)
def trEs : Nat → Nms → List Expr → Option CEs
  | 0, _, _ => none
  | n + 1, sc, es => match es with
    | [] => some .nil
    | e :: r => if isStar e then none else (match trE n sc e, trEs n sc r with
      | some c, some cs => some (.cons c cs)
      | _, _ => none)
def trW : Nat → Nms → BoolOp → Expr → List Expr → Option CE
  | 0, _, _, _, _ => none
  | n + 1, sc, op, a, r => match r with
    | [] => trE n sc a
    | b :: r' => (match trE n sc a, trW n sc op b r' with
      | some ca, some cb => some (match op with | .And => .and ca cb | .Or => .or ca cb)
      | _, _ => none)
def trO : Nat → Nms → Option Expr → Option CO
  | 0, _, _ => none
  | n + 1, sc, e => match e with
    | none => some .no
    | some a => (trE n sc a).map .so
def trI : Nat → Nms → Expr → Option IT
  | 0, _, _ => none
  | n + 1, sc, e => if isRng e then (match e with
      | .Call (.Name f _) [a] [] _ => if (sc.lookup f == some .globalImplicit) && !isStar a then (trE n sc a).map .rng1 else none
      | .Call (.Name f _) [a, b] [] _ => if (sc.lookup f == some .globalImplicit) && !isStar a && !isStar b then (match trE n sc a, trE n sc b with
        | some ca, some cb => some (.rng2 ca cb)
        | _, _ => none) else none
      | _ => none)
    else (trE n sc e).map .seq
end
end
end Fi
end

section
/-! FiO: the translation of expressions is right. Own work. -/
namespace Fi
open PySem PySem.Spec L2

/-- expressions in a row -/
inductive PEL (X : Cx) (C : Ctx) : List Expr → CEs → Prop
  | nil : PEL X C [] .nil
  | cons {e : Expr} {es : List Expr} {c : CE} {cs : CEs} : isStar e = false → PE X e (tE X.K C c) → PT X e (tT X.K C c) → PEL X C es cs → PEL X C (e :: es) (.cons c cs)
section
variable {X : Cx} {N : List Str} {sc W : Nms} {C : Ctx} {F : List (Str × Nat)} {k : Nat}
theorem PEL.pa {es : List Expr} {cs : CEs} (h : PEL X C es cs) : PA X es (tEs X.K C cs) := by
  induction h with
  | nil => exact so_nil
  | cons s e _ _ ih => exact so_cons s e ih
theorem PEL.len {es : List Expr} {cs : CEs} (h : PEL X C es cs) : cs.len = es.length := by
  induction h with
  | nil => rfl
  | cons _ _ _ _ ih => simp [CEs.len, ih]
theorem PEL.star {es : List Expr} {cs : CEs} (h : PEL X C es cs) : es.all (fun e => !isStar e) = true := by
  induction h with
  | nil => rfl
  | cons s _ _ _ ih => simp [s, ih]
theorem so_con_c {c : Const} {j : Nat} {pos : Pos} {d : Fi.D} (h : trC c = some d) : PE X (.Constant c j pos) (tE X.K C (.con d)) := by
  cases c <;> simp only [trC] at h <;> try (cases h; done)
  · cases h; exact so_con pe_non fun _ _ => .non
  · cases h; exact so_con pe_bl fun _ _ => .bl _
  · cases h; exact so_con pe_int fun _ _ => .int _
  · rename_i s
    cases h
    refine so_con (v := .str s) pe_str fun K S => ?_
    have : strOf s.cps.toList = s := by simp [strOf]
    have r := Rep.str (K := K) (S := S) s.cps.toList
    rw [this] at r
    exact r
theorem pel_pps {pos : Pos} {ks : List (Option Expr)} : ∀ {vs : List Expr} {kk : List DKey} {cs : CEs}, keysOf ks = some kk → PEL X C vs cs → ks.length = vs.length → PPs X pos ks vs (dspT X.K C kk cs) := by
  induction ks with
  | nil =>
    intro vs kk cs hk h hl
    cases vs with
    | nil => cases hk; cases h; exact pps_nil
    | cons _ _ => cases hl
  | cons x ks ih =>
    intro vs kk cs hk h hl
    cases vs with
    | nil => cases hl
    | cons v vs =>
      cases h with
      | cons s e _ r =>
        simp only [keysOf] at hk
        split at hk
        · rename_i a b ha hb
          cases hk
          have rest := ih hb r (by simpa using hl)
          unfold keyOfE at ha
          split at ha
          · rename_i s _ _
            cases ha
            refine pps_cons ?_ e rest
            have : strOf s.cps.toList = s := by simp [strOf]
            show PE X _ (tC (V.str (strOf s.cps.toList)))
            rw [this]
            exact pe_str
          · cases ha
            exact pps_cons pe_int e rest
          · cases ha
        · cases hk
theorem keysOf_len {ks : List (Option Expr)} : ∀ {kk : List DKey}, keysOf ks = some kk → kk.length = ks.length ∧ ks.all (·.isSome) = true := by
  induction ks with
  | nil => intro kk h; cases h; exact ⟨rfl, rfl⟩
  | cons x ks ih =>
    intro kk h
    simp only [keysOf] at h
    split at h
    · rename_i a b ha hb
      cases h
      obtain ⟨h1, h2⟩ := ih hb
      refine ⟨by simp [h1], ?_⟩
      unfold keyOfE at ha
      split at ha <;> first | (cases ha; done) | (simp [h2])
    · cases h
theorem boot_int' : bootBuiltins "int" = some (.type "int") := by decide +kernel
theorem boot_tuple' : bootBuiltins "tuple" = some (.type "tuple") := by decide +kernel
theorem boot_list' : bootBuiltins "list" = some (.type "list") := by decide +kernel
theorem boot_dict' : bootBuiltins "dict" = some (.type "dict") := by decide +kernel
theorem boot_bool' : bootBuiltins "bool" = some (.type "bool") := by decide +kernel
theorem boot_str' : bootBuiltins "str" = some (.type "str") := by decide +kernel
theorem boot_abs' : bootBuiltins "abs" = some (.builtin "abs") := by decide +kernel
theorem boot_any' : bootBuiltins "any" = some (.builtin "any") := by decide +kernel
theorem boot_all' : bootBuiltins "all" = some (.builtin "all") := by decide +kernel
theorem boot_isi' : bootBuiltins "isinstance" = some (.builtin "isinstance") := by decide +kernel
theorem boot_sorted' : bootBuiltins "sorted" = some (.builtin "sorted") := by decide +kernel
theorem so_ty (O : Ok X N sc C F k) {x : Str} {t : String} {pos : Pos} (hg : sc.lookup x = some .globalImplicit) (h : trTy x = some t) : PE X (.Name x pos) (tE X.K C (.con (.ty t))) := by
  have key : ∀ {y : Str} {t : String}, x = y → y ∈ blts → bootBuiltins y = some (.type t) → y ≠ "__name__" → (y == ("__debug__" : Str)) = false → PE X (.Name x pos) (tE X.K C (.con (.ty t))) := fun {y t} e m b n d => by
    subst e
    exact so_con (pe_bltn (v := .ty t) (O.gl hg) (O.blt _ m) b rfl n d) fun _ _ => .ty _
  unfold trTy at h
  split at h
  · rename_i e; cases h; exact key e (by decide) boot_dict' (by decide) (by decide)
  · split at h
    · rename_i e; cases h; exact key e (by decide) boot_tuple' (by decide) (by decide)
    · split at h
      · rename_i e; cases h; exact key e (by decide) boot_list' (by decide) (by decide)
      · split at h
        · rename_i e; cases h; exact key e (by decide) boot_bool' (by decide) (by decide)
        · split at h
          · rename_i e; cases h; exact key e (by decide) boot_int' (by decide) (by decide)
          · split at h
            · rename_i e; cases h; exact key e (by decide) boot_str' (by decide) (by decide)
            · cases h
theorem so_bltCall (O : Ok X N sc C F k) {x : Str} {f : Blt} {e : Expr} {es : List Expr} {cs : CEs} {p pos : Pos} (hg : sc.lookup x = some .globalImplicit) (h : trBlt x = some f) (ha : PEL X C (e :: es) cs) : PE X (.Call (.Name x p) (e :: es) [] pos) (tE X.K C (.blt f cs)) := by
  have hst := ha.star
  simp only [List.all_cons, Bool.and_eq_true, Bool.not_eq_true'] at hst
  have s1 := star_cons (es := es) (env := X.env) hst.1
  have s2 : ∀ pos, (backTo pos (starEach es X.env)).any (·.1) = false := fun pos => star_any hst.2
  have keyB : ∀ {y : Str} {id : String} {r : List V → Hp → VK → Prop} {f : Blt}, x = y → y ∈ blts → bootBuiltins y = some (.builtin id) → y ≠ "__name__" → (y == ("__debug__" : Str)) = false → CallR X (.builtin id) r → PrimC X.K r (bltD f) → PE X (.Call (.Name x p) (e :: es) [] pos) (tE X.K C (.blt f cs)) := fun {y id r f} ex m b n d c pr => by
    subst ex
    exact so_blt (pe_callB c (O.gl hg) (O.blt _ m) b ha.pa n d s1 (s2 pos)) pr
  have keyT : ∀ {y : Str} {id : String} {r : List V → Hp → VK → Prop} {f : Blt}, x = y → y ∈ blts → bootBuiltins y = some (.type id) → y ≠ "__name__" → (y == ("__debug__" : Str)) = false → CallR X (.type id) r → PrimC X.K r (bltD f) → PE X (.Call (.Name x p) (e :: es) [] pos) (tE X.K C (.blt f cs)) := fun {y id r f} ex m b n d c pr => by
    subst ex
    exact so_blt (pe_callTy c (O.gl hg) (O.blt _ m) b ha.pa n d s1 (s2 pos)) pr
  unfold trBlt at h
  split at h
  · rename_i e; cases h; exact keyB e (by decide) PySem.boot_len (by decide) (by decide) cr_len prim_len
  · split at h
    · rename_i e; cases h; exact keyB e (by decide) boot_abs' (by decide) (by decide) call_abs prim_abs
    · split at h
      · rename_i e; cases h; exact keyT e (by decide) boot_int' (by decide) (by decide) call_int1 prim_int
      · split at h
        · rename_i e; cases h; exact keyT e (by decide) boot_tuple' (by decide) (by decide) call_tuple_of prim_tuple
        · split at h
          · rename_i e; cases h; exact keyT e (by decide) boot_list' (by decide) (by decide) call_list_of prim_list
          · split at h
            · rename_i e; cases h; exact keyB e (by decide) boot_any' (by decide) (by decide) (cr_any O.calm) prim_any
            · split at h
              · rename_i e; cases h; exact keyB e (by decide) boot_all' (by decide) (by decide) (cr_all O.calm) prim_all
              · split at h
                · rename_i e; cases h; exact keyB e (by decide) boot_isi' (by decide) (by decide) call_isi prim_isinst
                · split at h
                  · rename_i e; cases h; exact keyB e (by decide) boot_sorted' (by decide) (by decide) ((cr_sortD (by have := O.room.un; omega)).or (cr_sortT_ (by have := O.room.un; omega))) prim_sort
                  · cases h
theorem so_binop (O : Ok X N sc C F k) {a b : Expr} {ca cb : CE} {op : Operator} {o : O2} {pos : Pos} (h : opB op = some o) (ha : PE X a (tE X.K C ca)) (hb : PE X b (tE X.K C cb)) : PE X (.BinOp a op b pos) (tE X.K C (.op2 o ca cb)) := by
  cases op <;> simp only [opB] at h <;> try (cases h; done)
  · cases h; exact so_op2 (fun h1 h2 => pe_op op_addA h1 h2) prim_add ha hb
  · cases h; exact so_op2 (fun h1 h2 => pe_op op_sub h1 h2) prim_sub ha hb
  · cases h; exact so_op2 (fun h1 h2 => pe_op op_mul h1 h2) prim_mul ha hb
  · cases h; exact so_op2 (fun h1 h2 => pe_op op_modN h1 h2) prim_mod ha hb
  · cases h; exact so_op2 (fun h1 h2 => pe_op op_pow h1 h2) prim_pow ha hb
  · cases h; exact so_op2 (fun h1 h2 => pe_op op_fdivN h1 h2) prim_fdiv ha hb
theorem so_compare (O : Ok X N sc C F k) {a b : Expr} {ca cb : CE} {op : CmpOp} {o : O2} {pos : Pos} (h : opC op = some o) (hs : isSetD b = false) (ha : PE X a (tE X.K C ca)) (hb : PE X b (tE X.K C cb)) :
    PE X (.Compare a [op] [b] pos) (tE X.K C (.op2 o ca cb)) ∧ PT X (.Compare a [op] [b] pos) (tT X.K C (.op2 o ca cb)) := by
  cases op <;> simp only [opC] at h <;> cases h
  · exact so_cmpO rfl (op_eqP O.u66) prim_eq hs ha hb
  · exact so_cmpO rfl (op_neP O.u66) prim_ne hs ha hb
  · exact so_cmpO rfl (op_ltA O.u66) (prim_cmp _ _) hs ha hb
  · exact so_cmpO rfl (op_leA O.u66) (prim_cmp _ _) hs ha hb
  · exact so_cmpO rfl (op_gtA O.u66) (prim_cmp _ _) hs ha hb
  · exact so_cmpO rfl (op_geA O.u66) (prim_cmp _ _) hs ha hb
  · exact so_cmpO rfl op_isN prim_is hs ha hb
  · exact so_cmpO rfl op_notN prim_isn hs ha hb
  · exact so_in O hs ha hb
  · exact so_nin O hs ha hb
theorem blk_ok (O : Ok X N sc C F k) {scope : Scope} (h : blkC N (scN sc) scope (ownOf N scope.names) = true) : BlkOk X.N X.env.scope scope (ownOf N scope.names) := by
  have b := blkOk_by h
  rw [O.eN]
  exact ⟨b.kind, b.uniq, b.ix, fun y hy e => by rw [O.names]; exact b.free y hy e, b.own⟩
/-- within the block -/
theorem ok_blk (O : Ok X N sc C F k) {scope : Scope} (hk : scope.kind = .function) (s : Shared) (H : Hp) (Ca : Addr) (cl : List (Str × Addr)) (fp : List Addr) : Ok (X.blk s H scope (compEnvC scope cl Ca X.env) fp) N (relN scope.names sc) C F k ∧ OkW (X.blk s H scope (compEnvC scope cl Ca X.env) fp) scope.names := by
  refine ⟨⟨O.eN, O.nd, ?_, hk, O.calm, rfl, O.room, O.funs, O.blt, O.glo⟩, ⟨fun x h => ?_⟩⟩
  · show scope.names.map _ = _
    unfold relN
    refine List.map_congr_left fun ⟨y, z⟩ _ => ?_
    have e1 : (X.env.scope.kind == ScopeKind.function) = true := by rw [O.kind]; rfl
    have e2 : X.env.kindOf y = sc.lookup y := by show X.env.scope.names.lookup _ = _; rw [O.names]
    simp only [e1, e2, Bool.and_true]
  · show (scope.names.lookup x == some .cell) = true
    rw [h]; rfl
theorem so_tg (O : Ok X N sc C F k) (OW : OkW X W) {e : Expr} {t : Tg} (h : trTg N sc W e = some t) : PG X e (gT X.K t) := by
  cases e <;> simp only [trTg] at h <;> try (cases h; done)
  · split at h
    · rename_i hs
      simp only [Option.map_eq_some_iff] at h
      obtain ⟨i, h1, rfl⟩ := h
      exact so_nm O OW h1 hs
    · cases h
  · simp only [Option.map_eq_some_iff] at h
    obtain ⟨is, h1, rfl⟩ := h
    exact so_tp O OW h1
end
end Fi
end

section
/-! FiP: the translation of expressions is right, all in one. Own work. -/
namespace Fi
open PySem PySem.Spec L2
section
variable {N : List Str} {F : List (Str × Nat)} {k : Nat}
structure TrOk (N : List Str) (F : List (Str × Nat)) (k n : Nat) : Prop where
  e : ∀ {X : Cx} {sc : Nms} {C : Ctx} {e : Expr} {c : CE}, Ok X N sc C F k → trE N F n sc e = some c → PE X e (tE X.K C c) ∧ PT X e (tT X.K C c)
  es : ∀ {X : Cx} {sc : Nms} {C : Ctx} {es : List Expr} {cs : CEs}, Ok X N sc C F k → trEs N F n sc es = some cs → PEL X C es cs
  w : ∀ {X : Cx} {sc : Nms} {C : Ctx} {op : BoolOp} {a : Expr} {r : List Expr} {c : CE} {pos : Pos}, Ok X N sc C F k → trW N F n sc op a r = some c → PE X (.BoolOp op (a :: r) pos) (tE X.K C c) ∧ PW X (.BoolOp op (a :: r) pos) (tT X.K C c)
  o : ∀ {X : Cx} {sc : Nms} {C : Ctx} {e : Option Expr} {c : CO}, Ok X N sc C F k → trO N F n sc e = some c → PO X e (tO X.K C c)
  i : ∀ {X : Cx} {sc : Nms} {C : Ctx} {e tg : Expr} {c : IT}, Ok X N sc C F k → trI N F n sc e = some c → PI X tg e (tI X.K C c)
theorem str_beq {x y : Str} (h : (x == y) = true) : x = y := by simpa using h
theorem ifs_ok {X : Cx} {C : Ctx} {ifs : List Expr} {cs : CEs} (h : PEL X C ifs cs) (hl : ifs.length ≤ 1) : PTs X ifs (tTs X.K C cs) := by
  cases h with
  | nil => exact so_ts0
  | cons s e t r =>
    cases r with
    | nil => exact so_ts1 t
    | cons _ _ _ _ => simp at hl
/-- what is no test of its own kind: its value does -/
theorem both {X : Cx} {C : Ctx} {e : Expr} {c : CE} (h : PE X e (tE X.K C c)) (ht : isTst e = false) : PE X e (tE X.K C c) ∧ PT X e (tT X.K C c) := ⟨h, so_test h ht⟩
theorem getD_cases {α : Type} {m : Option α} {d c : α} (h : some (m.getD d) = some c) : m = some c ∨ c = d := by
  cases m with
  | none => cases h; exact .inr rfl
  | some x => cases h; exact .inl rfl
theorem bad_ok {X : Cx} {C : Ctx} {e : Expr} : PE X e (tE X.K C .bad) ∧ PT X e (tT X.K C .bad) := by
  refine ⟨⟨fun pins s σ H Q I ⟨S, E, r, E', _, h, _⟩ => ?_⟩, ⟨fun pins s σ H Q I ⟨S, E, r, E', b, _, h, _⟩ => ?_⟩⟩
  · unfold evE at h; cases h
  · unfold evE at h; cases h
theorem nmSlot_ok {X : Cx} {sc : Nms} {C : Ctx} {e : Expr} {i : Nat} (O : Ok X N sc C F k) (h : nmSlot N sc e = some i) : ∃ x p, e = .Name x p ∧ PE X e (tE X.K C (.var i)) ∧ PE X e (tVar i) := by
  unfold nmSlot at h
  split at h
  · rename_i x p
    split at h
    · cases h
    · rename_i nd
      simp only [Bool.or_eq_true, not_or, Bool.not_eq_true] at nd
      split at h
      · rename_i hv
        exact ⟨x, p, rfl, so_var O h hv nd.1 nd.2, pe_var (by rw [O.eN]; exact slot_ok h) (O.vis hv) nd.1 nd.2⟩
      · cases h
  · cases h
theorem trOk : ∀ n, TrOk N F k n := by
  intro n
  induction n with
  | zero => exact ⟨fun _ h => by simp [trE] at h, fun _ h => by simp [trEs] at h, fun _ h => by simp [trW] at h, fun _ h => by simp [trO] at h, fun _ h => by simp [trI] at h⟩
  | succ n ih =>
    refine ⟨fun {X sc C e c} O h => ?_, fun {X sc C es cs} O h => ?_, fun {X sc C op a r c pos} O h => ?_, fun {X sc C e c} O h => ?_, fun {X sc C e tg c} O h => ?_⟩
    · unfold trE at h
      replace h := getD_cases h
      rcases h with h | rfl
      rotate_left
      · exact bad_ok
      split at h
      · -- a name
        rename_i x p
        split at h
        · cases h
        · rename_i nd
          simp only [Bool.or_eq_true, not_or, Bool.not_eq_true] at nd
          split at h
          · rename_i hv
            simp only [Option.map_eq_some_iff] at h
            obtain ⟨i, hi, rfl⟩ := h
            exact both (so_var O hi hv nd.1 nd.2) rfl
          · split at h
            · rename_i hg
              have hg : sc.lookup x = some .globalImplicit := by simpa using hg
              split at h
              · rename_i t ht
                cases h
                exact both (so_ty O hg ht) rfl
              · cases h
                exact both (so_glo O hg nd.1) rfl
            · cases h
      · -- a constant
        simp only [Option.map_eq_some_iff] at h
        obtain ⟨d, hd, rfl⟩ := h
        exact both (so_con_c hd) rfl
      · -- tuple
        simp only [Option.map_eq_some_iff] at h
        obtain ⟨cs, hc, rfl⟩ := h
        exact both (so_tup (ih.es O hc).pa) rfl
      · simp only [Option.map_eq_some_iff] at h
        obtain ⟨cs, hc, rfl⟩ := h
        exact both (so_lst (ih.es O hc).pa) rfl
      · -- a dict
        rename_i ks vs p
        split at h
        · rename_i em
          simp only [Bool.and_eq_true, List.isEmpty_iff] at em
          obtain ⟨rfl, rfl⟩ := em
          cases h
          exact both so_dct rfl
        · split at h
          · rename_i kk cs hk hc
            split at h
            · rename_i len
              simp only [Bool.and_eq_true, beq_iff_eq, decide_eq_true_eq] at len
              cases h
              have pl := ih.es O hc
              obtain ⟨l1, l2⟩ := keysOf_len hk
              have hl : ks.length = vs.length := by rw [← l1, len.1.1, pl.len]
              refine both (so_dsp len.1.1 (pel_pps hk pl hl) l2 hl ?_ (by rw [← l1]; exact len.2)) rfl
              intro ek
              have := len.1.2
              rw [l1, ek] at this
              simp at this
            · cases h
          · cases h
      · -- operators
        split at h
        · rename_i o ca cb ho ha hb
          cases h
          exact both (so_binop O ho (ih.e O ha).1 (ih.e O hb).1) rfl
        · cases h
      · simp only [Option.map_eq_some_iff] at h
        obtain ⟨ca, ha, rfl⟩ := h
        exact ⟨so_not (ih.e O ha).1, so_notT (ih.e O ha).2⟩
      · simp only [Option.map_eq_some_iff] at h
        obtain ⟨ca, ha, rfl⟩ := h
        exact both (so_neg (ih.e O ha).1) rfl
      · obtain ⟨h1, h2⟩ := ih.w O h
        exact ⟨h1, h2.pt⟩
      · split at h
        · rename_i cc ca cb hc ha hb
          cases h
          exact ⟨so_ifx (ih.e O hc).2 (ih.e O ha).1 (ih.e O hb).1, so_ifxT (ih.e O hc).2 (ih.e O ha).2 (ih.e O hb).2⟩
        · cases h
      · split at h
        · cases h
        · rename_i hs
          have hs := Bool.eq_false_iff.mpr hs
          split at h
          · rename_i o ca cb ho ha hb
            cases h
            exact so_compare O ho hs (ih.e O ha).1 (ih.e O hb).1
          · cases h
      · -- a chain
        rename_i a op op' b c p
        split at h
        · rename_i ords
          simp only [Bool.and_eq_true] at ords
          split at h
          · rename_i o o' ca cb cc h1 h2 ha hb hc
            cases h
            refine so_chain O ords.1 ords.2 ?_ ?_ (ih.e O ha).1 (ih.e O hb).1 (ih.e O hc).1
            · have z := ords.1
              cases op <;> first | (cases z; done) | (cases h1; rfl)
            · have z := ords.2
              cases op' <;> first | (cases z; done) | (cases h2; rfl)
          · cases h
        · cases h
      · -- places and slices
        split at h
        · split at h
          · rename_i ca cl ch ha hl hh
            cases h
            exact both (so_cut (ih.e O ha).1 (ih.o O hl) (ih.o O hh)) rfl
          · cases h
        · split at h
          · rename_i hi
            subst hi
            simp only [Option.map_eq_some_iff] at h
            obtain ⟨ca, ha, rfl⟩ := h
            exact both (so_rev (ih.e O ha).1) rfl
          · cases h
        · split at h
          · cases h
          · rename_i hs
            split at h
            · rename_i ca cb ha hb
              cases h
              exact both (so_idx O.u1 (Bool.eq_false_iff.mpr hs) (ih.e O ha).1 (ih.e O hb).1) rfl
            · cases h
      · -- a call by a name
        rename_i f p args pos
        split at h
        · cases h
        · rename_i nd
          simp only [Bool.or_eq_true, not_or, Bool.not_eq_true, Bool.not_eq_false'] at nd
          have hg : sc.lookup f = some .globalImplicit := by simpa using nd.2
          split at h
          · rename_i cs hc
            have pl := ih.es O hc
            split at h
            · rename_i m hm
              split at h
              · rename_i len
                have len : cs.len = m := by simpa using len
                cases h
                cases args with
                | nil =>
                  cases pl
                  refine both (so_call0 O (by rw [hm, ← len]; rfl) hg nd.1) rfl
                | cons a as =>
                  have hst := pl.star
                  simp only [List.all_cons, Bool.and_eq_true, Bool.not_eq_true'] at hst
                  exact both (so_call O hm hg nd.1 hst.1 hst.2 len pl.pa) rfl
              · cases h
            · split at h
              · cases h
              · rename_i ne
                split at h
                · -- sorted(set(..))
                  rename_i a0 hss
                  simp only [Option.map_eq_some_iff] at h
                  obtain ⟨ca, hca, rfl⟩ := h
                  unfold isSS at hss
                  split at hss
                  · split at hss
                    · rename_i q
                      simp only [Bool.and_eq_true, Bool.not_eq_true', beq_iff_eq] at q
                      cases hss
                      obtain ⟨⟨⟨rfl, rfl⟩, q3⟩, q4⟩ := q
                      exact both (so_sset O hg q3 q4 (ih.e O hca).1) rfl
                    · cases hss
                  · cases hss
                · split at h
                  · rename_i a0 hss
                    simp only [Option.map_eq_some_iff] at h
                    obtain ⟨ca, hca, rfl⟩ := h
                    unfold isLR at hss
                    split at hss
                    · split at hss
                      · rename_i q
                        simp only [Bool.and_eq_true, Bool.not_eq_true', beq_iff_eq] at q
                        cases hss
                        obtain ⟨⟨⟨rfl, rfl⟩, q3⟩, q4⟩ := q
                        exact both (so_lrng1 O hg q3 q4 (ih.e O hca).1) rfl
                      · cases hss
                    · cases hss
                  · split at h
                    · rename_i a0 b0 hss
                      split at h
                      · rename_i ca cb hca hcb
                        cases h
                        unfold isLR2 at hss
                        split at hss
                        · split at hss
                          · rename_i q
                            simp only [Bool.and_eq_true, Bool.not_eq_true', beq_iff_eq] at q
                            cases hss
                            obtain ⟨⟨⟨⟨rfl, rfl⟩, q3⟩, q4⟩, q5⟩ := q
                            exact both (so_lrng2 O hg q3 q4 q5 (ih.e O hca).1 (ih.e O hcb).1) rfl
                          · cases hss
                        · cases hss
                      · cases h
                    · simp only [Option.map_eq_some_iff] at h
                      obtain ⟨b, hb, rfl⟩ := h
                      cases args with
                      | nil => exact absurd rfl ne
                      | cons a as => exact both (so_bltCall O hg hb pl) rfl
          · cases h
      · -- a method
        rename_i o m apos args cpos
        split at h
        · cases h
        · rename_i nd
          simp only [Bool.or_eq_true, not_or, Bool.not_eq_true, Bool.not_eq_false'] at nd
          obtain ⟨hl, hb⟩ := nd
          split at h
          · rename_i cs hc
            have pl := ih.es O hc
            have one : ∀ {q : Bool}, (args.length == 1) = true → ∃ a c, args = [a] ∧ cs = .cons c .nil ∧ isStar a = false ∧ PE X a (tE X.K C c) := fun {q} h1 => by
              have h1 : args.length = 1 := by simpa using h1
              cases pl with
              | nil => simp at h1
              | cons s e t r =>
                cases r with
                | nil => exact ⟨_, _, rfl, rfl, s, e⟩
                | cons _ _ _ _ => simp at h1
            split at h
            · rename_i em
              split at h
              · rename_i h1
                simp only [Option.map_eq_some_iff] at h
                obtain ⟨co, ho, rfl⟩ := h
                obtain ⟨a, c, rfl, rfl, s, _⟩ := one (q := true) h1
                subst em
                exact both (so_join hb s hl (ih.e O ho).1 pl.pa) rfl
              · cases h
            · split at h
              · rename_i em
                split at h
                · rename_i h1
                  simp only [Option.map_eq_some_iff] at h
                  obtain ⟨co, ho, rfl⟩ := h
                  obtain ⟨a, c, rfl, rfl, s, pe⟩ := one (q := true) h1
                  subst em
                  exact both (so_get O.u1 hb s hl (ih.e O ho).1 pe) rfl
                · cases h
              · split at h
                · rename_i x px
                  split at h
                  · cases h
                  · rename_i nx
                    simp only [Bool.or_eq_true, not_or, Bool.not_eq_true, Bool.not_eq_false'] at nx
                    split at h
                    · rename_i i hi
                      split at h
                      · rename_i em
                        split at h
                        · rename_i h1
                          cases h
                          obtain ⟨a, c, rfl, rfl, s, _⟩ := one (q := true) h1
                          subst em
                          exact both (so_append O hi nx.2 nx.1.1 nx.1.2 s hl pl.pa) rfl
                        · cases h
                      · split at h
                        · rename_i em
                          split at h
                          · rename_i h1
                            cases h
                            obtain ⟨a, c, rfl, rfl, s, _⟩ := one (q := true) h1
                            subst em
                            exact both (so_extend O hi nx.2 nx.1.1 nx.1.2 s hl pl.pa) rfl
                          · cases h
                        · split at h
                          · rename_i em
                            split at h
                            · rename_i h0
                              cases h
                              have h0 : args = [] := by simpa using h0
                              subst h0 em
                              exact both (so_pop O hi nx.2 nx.1.1 nx.1.2 hl) rfl
                            · cases h
                          · cases h
                    · cases h
                · cases h
          · cases h
      · -- a comprehension
        rename_i elt tg it ifs as scope p
        split at h
        · rename_i ok
          simp only [Bool.and_eq_true, Bool.not_eq_true'] at ok
          obtain ⟨⟨ha, hset⟩, hblk⟩ := ok
          have ha : as = 0 := by simpa using ha
          subst ha
          split at h
          · rename_i t ci cs c ht hi hcs hc
            split at h
            · rename_i q
              simp only [Bool.and_eq_true, decide_eq_true_eq, List.all_eq_true, List.any_eq_true, beq_iff_eq] at q
              cases h
              have bo := blk_ok O hblk
              have hsl : ∀ i ∈ t.slots, i ∈ (ownOf N scope.names).map (·.2) := fun i hi => by
                obtain ⟨p, hp, e⟩ := q.2 i hi
                exact List.mem_map.mpr ⟨p, hp, e⟩
              have blk := pe_lc (elt := elt) (pos := p) (g := gT X.K t) (tt := tTs X.K C cs) (te := tE X.K C c) (own := ownOf N scope.names) O.calm (by rw [O.eN]; exact O.nd) (ih.i (tg := tg) O hi) bo (fun s H Ca cl fp => so_tg (ok_blk O bo.kind s H Ca cl fp).1 (ok_blk O bo.kind s H Ca cl fp).2 ht) (fun s H Ca cl fp => ifs_ok (ih.es (ok_blk O bo.kind s H Ca cl fp).1 hcs) q.1) (fun s H Ca cl fp => (ih.e (ok_blk O bo.kind s H Ca cl fp).1 hc).1) (fold_ok hset X.env)
              refine both ?_ rfl
              cases hns : nmSlot N sc it with
              | none => exact PE.imp blk fun σ H Q h => cmp_read hsl h
              | some i =>
                obtain ⟨x, px, rfl, hv, hx⟩ := nmSlot_ok O hns
                have blk1 := pe_lc (elt := elt) (pos := p) (g := gT X.K t) (tt := tTs X.K C cs) (te := tE X.K C c) (own := ownOf N scope.names) O.calm (by rw [O.eN]; exact O.nd) (so_seq (tg := tg) hv) bo (fun s H Ca cl fp => so_tg (ok_blk O bo.kind s H Ca cl fp).1 (ok_blk O bo.kind s H Ca cl fp).2 ht) (fun s H Ca cl fp => ifs_ok (ih.es (ok_blk O bo.kind s H Ca cl fp).1 hcs) q.1) (fun s H Ca cl fp => (ih.e (ok_blk O bo.kind s H Ca cl fp).1 hc).1) (fold_ok hset X.env)
                have blk2 := pe_lc (elt := elt) (pos := p) (g := gT X.K t) (tt := tTs X.K C cs) (te := tE X.K C c) (own := ownOf N scope.names) O.calm (by rw [O.eN]; exact O.nd) (pi_keys (tg := tg) hx) bo (fun s H Ca cl fp => so_tg (ok_blk O bo.kind s H Ca cl fp).1 (ok_blk O bo.kind s H Ca cl fp).2 ht) (fun s H Ca cl fp => ifs_ok (ih.es (ok_blk O bo.kind s H Ca cl fp).1 hcs) q.1) (fun s H Ca cl fp => (ih.e (ok_blk O bo.kind s H Ca cl fp).1 hc).1) (fold_ok hset X.env)
                exact PE.imp (PE.or blk1 (pe_lock blk2)) fun σ H Q h => cmpV_read hsl h
            · cases h
          · cases h
        · cases h
      · -- two clauses
        rename_i elt tg it ifs as tg2 it2 ifs2 as2 scope p
        split at h
        · rename_i ok
          simp only [Bool.and_eq_true, Bool.not_eq_true'] at ok
          obtain ⟨⟨⟨⟨ha, ha2⟩, hset⟩, hset2⟩, hblk⟩ := ok
          have ha : as = 0 := by simpa using ha
          have ha2 : as2 = 0 := by simpa using ha2
          subst ha ha2
          split at h
          · rename_i t ci cs t2 ci2 cs2 c ht hi hcs ht2 hi2 hcs2 hc
            split at h
            · rename_i q
              simp only [Bool.and_eq_true, decide_eq_true_eq, List.all_eq_true, List.any_eq_true, beq_iff_eq] at q
              cases h
              have bo := blk_ok O hblk
              have hsl : ∀ i ∈ t.slots, i ∈ (ownOf N scope.names).map (·.2) := fun i hi => by
                obtain ⟨p, hp, e⟩ := q.1.2 i hi
                exact List.mem_map.mpr ⟨p, hp, e⟩
              have hsl2 : ∀ i ∈ t2.slots, i ∈ (ownOf N scope.names).map (·.2) := fun i hi => by
                obtain ⟨p, hp, e⟩ := q.2 i hi
                exact List.mem_map.mpr ⟨p, hp, e⟩
              refine both (PE.imp (pe_lc2 (own := ownOf N scope.names) (vs1 := t2.slots) O.calm (by rw [O.eN]; exact O.nd) (ih.i O hi) bo hsl2 (fun s H Ca cl fp => so_tg (ok_blk O bo.kind s H Ca cl fp).1 (ok_blk O bo.kind s H Ca cl fp).2 ht) (fun s H Ca cl fp => ifs_ok (ih.es (ok_blk O bo.kind s H Ca cl fp).1 hcs) q.1.1.1)
                (fun s H Ca cl fp => ih.i (ok_blk O bo.kind s H Ca cl fp).1 hi2) (fun s H Ca cl fp => so_tg (ok_blk O bo.kind s H Ca cl fp).1 (ok_blk O bo.kind s H Ca cl fp).2 ht2) (fun s H Ca cl fp => ifs_ok (ih.es (ok_blk O bo.kind s H Ca cl fp).1 hcs2) q.1.1.2)
                (fun s H Ca cl fp => (ih.e (ok_blk O bo.kind s H Ca cl fp).1 hc).1) (fold_ok hset X.env) (fun env => fold_ok hset2 env)) fun σ H Q h => cmp2_read hsl hsl2 h) rfl
            · cases h
          · cases h
        · cases h
      · cases h
    · unfold trEs at h
      split at h
      · cases h; exact .nil
      · split at h
        · cases h
        · rename_i hs
          split at h
          · rename_i c cs hc hcs
            cases h
            obtain ⟨h1, h2⟩ := ih.e O hc
            exact .cons (Bool.eq_false_iff.mpr hs) h1 h2 (ih.es O hcs)
          · cases h
    · unfold trW at h
      split at h
      · obtain ⟨h1, h2⟩ := ih.e O h
        cases op with
        | And => exact ⟨pe_one h1, pw_and1 h2⟩
        | Or => exact ⟨pe_one h1, pw_or1 h2⟩
      · split at h
        · rename_i ca cb ha hb
          cases h
          obtain ⟨h1, h2⟩ := ih.e O ha
          obtain ⟨h3, h4⟩ := ih.w (pos := pos) O hb
          cases op with
          | And => exact ⟨so_and h1 h3, so_andW h2 h4⟩
          | Or => exact ⟨so_or h1 h3, so_orW h2 h4⟩
        · cases h
    · unfold trO at h
      split at h
      · cases h; exact so_no
      · simp only [Option.map_eq_some_iff] at h
        obtain ⟨c', hc, rfl⟩ := h
        exact so_so (ih.e O hc).1
    · unfold trI at h
      split at h
      · rename_i hr
        split at h
        · rename_i f p a pos
          have hf : f = ("range" : Str) := by simpa [isRng] using hr
          subst hf
          split at h
          · rename_i q
            simp only [Bool.and_eq_true, Bool.not_eq_true', beq_iff_eq] at q
            simp only [Option.map_eq_some_iff] at h
            obtain ⟨ca, ha, rfl⟩ := h
            exact so_rng1 O q.1 q.2 (ih.e O ha).1
          · cases h
        · rename_i f p a b pos
          have hf : f = ("range" : Str) := by simpa [isRng] using hr
          subst hf
          split at h
          · rename_i q
            simp only [Bool.and_eq_true, Bool.not_eq_true', beq_iff_eq] at q
            split at h
            · rename_i ca cb ha hb
              cases h
              exact so_rng2 O q.1.1 q.1.2 q.2 (ih.e O ha).1 (ih.e O hb).1
            · cases h
          · cases h
        · cases h
      · simp only [Option.map_eq_some_iff] at h
        obtain ⟨ca, ha, rfl⟩ := h
        exact so_seq (ih.e O ha).1
end
end Fi
end

section
/-! FiQ: the translation of statements. Own work. -/
namespace Fi
open PySem PySem.Spec L2
/-- does the store take its comprehension's variables' places -/
def swB (sc : Nms) (e : Expr) (y : Str) (py : Pos) : Bool := match e with
  | .ListComp _ _ scope pos => (sc.lookup y == some .local) && (py.line == pos.line) && !(scope.names.any fun (n, k) => n == y && (k == .local || k == .cell))
  | _ => false
def parSlots (N : List Str) (sc : Nms) : List Expr → List Expr → Option (List Nat)
  | [.Name x px, .Name y py], [a, b] => (match slot N x, slot N y with
    | some i, some j => if (sc.lookup x == some .local) && (sc.lookup y == some .local) && decide (i ≠ j) && (py.line == px.line) && !(foldedForSure 8 a && foldedForSure 8 b) && !(constantsAlone 8 a && constantsAlone 8 b) && !isStar a && !isStar b then some [i, j] else none
    | _, _ => none)
  | [.Name x px, .Name y py, .Name z pz], [a, b, c] => (match slot N x, slot N y, slot N z with
    | some i, some j, some k => if (sc.lookup x == some .local) && (sc.lookup y == some .local) && (sc.lookup z == some .local) && decide (i ≠ j) && decide (i ≠ k) && decide (j ≠ k) && (py.line == px.line) && (pz.line == px.line) && !(foldedForSure 8 a && (foldedForSure 8 b && foldedForSure 8 c)) && !(constantsAlone 8 a && (constantsAlone 8 b && constantsAlone 8 c)) && !isStar a && !isStar b && !isStar c then some [i, j, k] else none
    | _, _, _ => none)
  | _, _ => none
/-- is one of the targets no plain local name -/
def someCell (sc : Nms) (es : List Expr) : Bool := es.any fun e => match e with
  | .Name x _ => !(sc.lookup x == some .local)
  | _ => false
def augO : Operator → Option O2
  | .Add => some .add | .Sub => some .sub | .Mult => some .mul
  | _ => none
def augD : Operator → Option O2
  | .Add => some .add | .Sub => some .sub
  | _ => none
section
variable (N : List Str) (F : List (Str × Nat)) (sc W : Nms)
def exF : Nat := 60
mutual
def trS : Nat → Stmt → Option CS
  | 0, _ => none
  | n + 1, s => some (Option.getD (match s with
    | .Pass _ => some .pas
    | .Break _ => some .brk
    | .Continue _ => some .cnt
    | .Expr e _ => if isCmp e then none else (trE N F exF sc e).map .ex
    | .Return none _ => some .retN
    | .Return (some e) _ => (trE N F exF sc e).map .ret
    | .If c a b _ => (match trE N F exF sc c, trB n a, trB n b with
      | some cc, some ca, some cb => some (.ite cc ca cb)
      | _, _, _ => none)
    | .While c b [] _ => (match trE N F exF sc c, trB n b with
      | some cc, some cb => some (.whl cc cb)
      | _, _ => none)
    | .For t it b [] _ => if isSetD it then none else (match trTg N sc W t, trI N F exF sc it, trB n b with
      | some ct, some ci, some cb => some (.for ct ci cb)
      | _, _, _ => none)
    | .Assign [t] e _ => (match t with
      | .Name x _ => if sto sc W x then (match slot N x, trE N F exF sc e with
        | some i, some c => some (.asg (.nm i) c)
        | _, _ => none) else none
      | .Tuple es _ _ => (match e with
        | .Tuple vs _ _ => (match parSlots N sc es vs with
          | some is => (trEs N F exF sc vs).map (.par is)
          | none => if !(es.length == 2 || es.length == 3) || someCell sc es then (match nmSlots N sc W es, trE N F exF sc e with
            | some is, some c => some (.asg (.tp is) c)
            | _, _ => none) else none)
        | _ => if isCmp e then none else if isTupE e then none else (match nmSlots N sc W es, trE N F exF sc e with
          | some is, some c => some (.asg (.tp is) c)
          | _, _ => none))
      | .Subscript (.Name x _) k _ => if isCmp e || isSlice k || (x == ("__debug__" : Str)) || (x == ("__classdict__" : Str)) || !vis sc x then none else (match slot N x, trE N F exF sc k, trE N F exF sc e with
        | some i, some ck, some ce => some (.setIx i ck ce)
        | _, _, _ => none)
      | _ => none)
    | .AugAssign (.Name x _) op e _ => if sto sc W x then (match slot N x, augO op, trE N F exF sc e with
      | some i, some o, some c => some (.aug i o c)
      | _, _, _ => none) else none
    | .AugAssign (.Subscript (.Name x _) k _) op e _ => if isSlice k || (x == ("__debug__" : Str)) || (x == ("__classdict__" : Str)) || !vis sc x then none else (match slot N x, augD op, trE N F exF sc k, trE N F exF sc e with
      | some i, some o, some ck, some ce => some (.augIx i ck o ce)
      | _, _, _, _ => none)
    | _ => none) .bad)
def trB : Nat → List Stmt → Option CB
  | 0, _ => none
  | n + 1, ss => match ss with
    | [] => some .nil
    | s :: r => (match trS n s, trB n r with
      | some c, some cs => some (.cons c cs)
      | _, _ => none)
end
end
section
variable {N : List Str} {F : List (Str × Nat)} {sc W : Nms} {k : Nat} {X : Cx} {C : Ctx}
theorem sw_is (O : Ok X N sc C F k) {e : Expr} {y : Str} {py : Pos} {l : Nat} (hc : isCmp e = true) (hl : ∃ a b c d, e = .ListComp a b c d) : swapsWith e (some (.Name y py)) l X.env = pure (swB sc e y py) := by
  obtain ⟨elt, gs, scope, pos, rfl⟩ := hl
  have hb : X.env.blockKind = .function := by unfold Env.blockKind; rw [O.kind]; rfl
  have hk : X.env.kindOf y = sc.lookup y := by show X.env.scope.names.lookup y = _; rw [O.names]
  unfold swapsWith swB
  simp only [hb, hk, Expr.pos]
  show (pure _ : Sem Bool) = pure _
  congr 1
theorem ps_none {s : Stmt} {c : CS} (h : ∀ E, evS C c E = none) : PS X s (tS X.K C c) := ⟨fun pins st σ H D I ⟨S, E, o, _, e, _⟩ => by rw [h E] at e; cases e⟩
theorem asg_bad {i : Nat} : ∀ E, evS C (.asg (.nm i) .bad) E = none := fun E => by simp only [evS, evE]
/-- name = [..], the places exchanged -/
theorem lcAsg (O : Ok X N sc C F k) {n : Nat} {e : Expr} {c : CE} {i : Nat} {y : Str} {py spos : Pos} (hc : isCmp e = true) (h : trE N F n sc e = some c) (hy : slot N y = some i) (hyl : sc.lookup y = some .local) (hsw : swapsWith e (some (.Name y py)) spos.line X.env = pure true) :
    PS X (.Assign [.Name y py] e spos) (tS X.K C (.asg (.nm i) c)) := by
  have hNy : X.N[i]? = some y := by rw [O.eN]; exact slot_ok hy
  have hl' : X.env.scope.names.lookup y = some .local := by rw [O.names]; exact hyl
  cases n with
  | zero => simp [trE] at h
  | succ n =>
    have ih := trOk (N := N) (F := F) (k := k) n
    unfold trE at h
    replace h := getD_cases h
    rcases h with h | rfl
    rotate_left
    · exact ps_none asg_bad
    split at h <;> first | (cases hc; done) | skip
    · rename_i elt tg it ifs as scope p
      split at h
      · rename_i ok
        simp only [Bool.and_eq_true, Bool.not_eq_true'] at ok
        obtain ⟨⟨ha, hset⟩, hblk⟩ := ok
        have ha : as = 0 := by simpa using ha
        subst ha
        split at h
        · rename_i t ci cs c' ht hi hcs hc'
          split at h
          · rename_i q
            simp only [Bool.and_eq_true, decide_eq_true_eq, List.all_eq_true, List.any_eq_true, beq_iff_eq] at q
            cases h
            have bo := blk_ok O hblk
            have hsl : ∀ i ∈ t.slots, i ∈ (ownOf N scope.names).map (·.2) := fun i hi => by
              obtain ⟨p, hp, e⟩ := q.2 i hi
              exact List.mem_map.mpr ⟨p, hp, e⟩
            have blk := ps_setLc (elt := elt) (pos := p) (spos := spos) (py := py) (g := gT X.K t) (tt := tTs X.K C cs) (te := tE X.K C c') (own := ownOf N scope.names) O.calm (by rw [O.eN]; exact O.nd) hNy hl' hsw (ih.i (tg := tg) O hi) bo (fun s H Ca cl fp => so_tg (ok_blk O bo.kind s H Ca cl fp).1 (ok_blk O bo.kind s H Ca cl fp).2 ht) (fun s H Ca cl fp => ifs_ok (ih.es (ok_blk O bo.kind s H Ca cl fp).1 hcs) q.1) (fun s H Ca cl fp => (ih.e (ok_blk O bo.kind s H Ca cl fp).1 hc').1) (fold_ok hset X.env)
            cases hns : nmSlot N sc it with
            | none => exact PS.imp blk fun D σ H h => cmp_read hsl (asg_read h)
            | some i' =>
              obtain ⟨x, px, rfl, hv, hx⟩ := nmSlot_ok O hns
              have blk1 := ps_setLc (elt := elt) (pos := p) (spos := spos) (py := py) (g := gT X.K t) (tt := tTs X.K C cs) (te := tE X.K C c') (own := ownOf N scope.names) O.calm (by rw [O.eN]; exact O.nd) hNy hl' hsw (so_seq (tg := tg) hv) bo (fun s H Ca cl fp => so_tg (ok_blk O bo.kind s H Ca cl fp).1 (ok_blk O bo.kind s H Ca cl fp).2 ht) (fun s H Ca cl fp => ifs_ok (ih.es (ok_blk O bo.kind s H Ca cl fp).1 hcs) q.1) (fun s H Ca cl fp => (ih.e (ok_blk O bo.kind s H Ca cl fp).1 hc').1) (fold_ok hset X.env)
              have blk2 := ps_setLc (elt := elt) (pos := p) (spos := spos) (py := py) (g := gT X.K t) (tt := tTs X.K C cs) (te := tE X.K C c') (own := ownOf N scope.names) O.calm (by rw [O.eN]; exact O.nd) hNy hl' hsw (pi_keys (tg := tg) hx) bo (fun s H Ca cl fp => so_tg (ok_blk O bo.kind s H Ca cl fp).1 (ok_blk O bo.kind s H Ca cl fp).2 ht) (fun s H Ca cl fp => ifs_ok (ih.es (ok_blk O bo.kind s H Ca cl fp).1 hcs) q.1) (fun s H Ca cl fp => (ih.e (ok_blk O bo.kind s H Ca cl fp).1 hc').1) (fold_ok hset X.env)
              exact PS.imp (PS.or blk1 (ps_lock blk2)) fun D σ H h => cmpV_read hsl (asg_read h)
          · cases h
        · cases h
      · cases h
    · rename_i elt tg it ifs as tg2 it2 ifs2 as2 scope p
      split at h
      · rename_i ok
        simp only [Bool.and_eq_true, Bool.not_eq_true'] at ok
        obtain ⟨⟨⟨⟨ha, ha2⟩, hset⟩, hset2⟩, hblk⟩ := ok
        have ha : as = 0 := by simpa using ha
        have ha2 : as2 = 0 := by simpa using ha2
        subst ha ha2
        split at h
        · rename_i t ci cs t2 ci2 cs2 c' ht hi hcs ht2 hi2 hcs2 hc'
          split at h
          · rename_i q
            simp only [Bool.and_eq_true, decide_eq_true_eq, List.all_eq_true, List.any_eq_true, beq_iff_eq] at q
            cases h
            have bo := blk_ok O hblk
            have hsl : ∀ i ∈ t.slots, i ∈ (ownOf N scope.names).map (·.2) := fun i hi => by
              obtain ⟨p, hp, e⟩ := q.1.2 i hi
              exact List.mem_map.mpr ⟨p, hp, e⟩
            have hsl2 : ∀ i ∈ t2.slots, i ∈ (ownOf N scope.names).map (·.2) := fun i hi => by
              obtain ⟨p, hp, e⟩ := q.2 i hi
              exact List.mem_map.mpr ⟨p, hp, e⟩
            exact PS.imp (ps_setLc2 (own := ownOf N scope.names) (vs1 := t2.slots) O.calm (by rw [O.eN]; exact O.nd) hNy hl' hsw (ih.i O hi) bo hsl2 (fun s H Ca cl fp => so_tg (ok_blk O bo.kind s H Ca cl fp).1 (ok_blk O bo.kind s H Ca cl fp).2 ht) (fun s H Ca cl fp => ifs_ok (ih.es (ok_blk O bo.kind s H Ca cl fp).1 hcs) q.1.1.1)
                (fun s H Ca cl fp => ih.i (ok_blk O bo.kind s H Ca cl fp).1 hi2) (fun s H Ca cl fp => so_tg (ok_blk O bo.kind s H Ca cl fp).1 (ok_blk O bo.kind s H Ca cl fp).2 ht2) (fun s H Ca cl fp => ifs_ok (ih.es (ok_blk O bo.kind s H Ca cl fp).1 hcs2) q.1.1.2)
                (fun s H Ca cl fp => (ih.e (ok_blk O bo.kind s H Ca cl fp).1 hc').1) (fold_ok hset X.env) (fun env => fold_ok hset2 env)) fun D σ H h => cmp2_read hsl hsl2 (asg_read h)
          · cases h
        · cases h
      · cases h
    · cases h
theorem so_asgAny (O : Ok X N sc C F k) (OW : OkW X W) {n : Nat} {e : Expr} {c : CE} {i : Nat} {y : Str} {py spos : Pos} (h : trE N F n sc e = some c) (hy : slot N y = some i) (hs : sto sc W y = true) : PS X (.Assign [.Name y py] e spos) (tS X.K C (.asg (.nm i) c)) := by
  have he := ((trOk (N := N) (F := F) (k := k) n).e O h).1
  cases hc : isCmp e with
  | false => exact so_asg O OW hy hs hc he
  | true =>
    by_cases hcb : c = .bad
    · subst hcb; exact ps_none asg_bad
    have hl : ∃ a b c d, e = .ListComp a b c d := by
      cases n with
      | zero => simp [trE] at h
      | succ n =>
        cases e <;> first | (cases hc; done) | exact ⟨_, _, _, _, rfl⟩ | (simp [trE] at h; exact absurd h.symm hcb)
    have q := sw_is O (y := y) (py := py) (l := spos.line) hc hl
    cases hb : swB sc e y py with
    | true =>
      rw [hb] at q
      refine lcAsg O hc h hy ?_ q
      obtain ⟨a, b, s, d, rfl⟩ := hl
      simp only [swB, Bool.and_eq_true, beq_iff_eq] at hb
      exact hb.1.1
    | false =>
      rw [hb] at q
      obtain ⟨h1, h2⟩ := O.loc OW hs
      exact PS.imp (ps_set (i := i) (by rw [O.eN]; exact O.nd) (by rw [O.eN]; exact slot_ok hy) h1 he q h2) fun D σ H q => asg_read q
theorem par_ok (O : Ok X N sc C F k) {es vs : List Expr} {is : List Nat} {cs : CEs} {k1 k2 : Nat} {p1 p2 pos : Pos} (h : parSlots N sc es vs = some is) (ha : PA X vs (tEs X.K C cs)) : PS X (.Assign [.Tuple es k1 p1] (.Tuple vs k2 p2) pos) (tS X.K C (.par is cs)) := by
  unfold parSlots at h
  split at h
  · split at h
    · rename_i i j hx hy
      split at h
      · rename_i q
        simp only [Bool.and_eq_true, decide_eq_true_eq, Bool.not_eq_true', beq_iff_eq] at q
        obtain ⟨⟨⟨⟨⟨⟨⟨q1, q2⟩, q3⟩, q4⟩, q5⟩, q6⟩, q7⟩, q8⟩ := q
        cases h
        exact so_par2 O hx hy q1 q2 q3 q4 q5 q6 q7 q8 ha
      · cases h
    · cases h
  · split at h
    · rename_i i j l hx hy hz
      split at h
      · rename_i q
        simp only [Bool.and_eq_true, decide_eq_true_eq, Bool.not_eq_true', beq_iff_eq] at q
        obtain ⟨⟨⟨⟨⟨⟨⟨⟨⟨⟨⟨⟨q1, q2⟩, q3⟩, q4⟩, q5⟩, q6⟩, q7⟩, q8⟩, q9⟩, q10⟩, q11⟩, q12⟩, q13⟩ := q
        cases h
        exact so_par3 O hx hy hz q1 q2 q3 q4 q5 q6 q7 q8 q9 q10 q11 q12 q13 ha
      · cases h
    · cases h
  · cases h
theorem swp_none (O : Ok X N sc C F k) {es vs : List Expr} {k1 k2 : Nat} {p1 p2 : Pos} (h : (!(es.length == 2 || es.length == 3) || someCell sc es) = true) : swappedStores [.Tuple es k1 p1] (.Tuple vs k2 p2) X.env = pure none := by
  rw [Bool.or_eq_true] at h
  rcases h with h | h
  · exact no_stores4 (by simpa using h)
  · unfold someCell at h
    rw [List.any_eq_true] at h
    obtain ⟨e, he, hx⟩ := h
    cases e <;> simp only [Bool.not_eq_true', beq_eq_false_iff_ne] at hx <;> first | (cases hx; done) | skip
    exact no_storesN he (by show X.env.scope.names.lookup _ ≠ _; rw [O.names]; exact hx)
structure TsOk (N : List Str) (F : List (Str × Nat)) (sc W : Nms) (k n : Nat) : Prop where
  s : ∀ {X : Cx} {C : Ctx} {s : Stmt} {c : CS}, Ok X N sc C F k → OkW X W → trS N F sc W n s = some c → PS X s (tS X.K C c)
  b : ∀ {X : Cx} {C : Ctx} {ss : List Stmt} {c : CB}, Ok X N sc C F k → OkW X W → trB N F sc W n ss = some c → PSs X ss (tB X.K C c)
theorem iadd_o : OpR X (inplaceOp .Add) (fun x y H Q => rI0 (fun i j => .int (i + j)) x y H Q ∨ (∃ i j, x = .str i ∧ y = .str j ∧ i.length + j.length ≤ sizeLine ∧ Q (.str (i ++ j)) H)) := iop_add.or iop_add_str
theorem prim_iadd {K : PySem.W.Frag} : Prim2 K (fun x y H Q => rI0 (fun i j => .int (i + j)) x y H Q ∨ (∃ i j, x = .str i ∧ y = .str j ∧ i.length + j.length ≤ sizeLine ∧ Q (.str (i ++ j)) H)) iaddD := by
  intro S H x y dx dy p Q e hx hy hp q
  unfold iaddD at hp
  split at hp
  · cases hp
    exact .inl ⟨_, _, hx.int, hy.int, sc_of e q (.int _)⟩
  · split at hp
    · rename_i hl
      cases hp
      refine .inr ⟨_, _, hx.str, hy.str, ?_, ?_⟩
      · rw [strOf_length, strOf_length, ← big_eq]; exact hl
      · rw [strOf_append]; exact sc_of e q (.str _)
    · cases hp
  · cases hp
theorem prim_iaddI {K : PySem.W.Frag} : Prim2 K rAdd iaddI := by
  intro S H x y dx dy p Q e hx hy hp q
  unfold iaddI at hp
  split at hp
  · cases hp
    exact ⟨_, _, hx.int, hy.int, sc_of e q (.int _)⟩
  · cases hp
theorem prim_isubI {K : PySem.W.Frag} : Prim2 K rSub subD := by
  intro S H x y dx dy p Q e hx hy hp q
  unfold subD at hp
  split at hp
  · cases hp
    exact ⟨_, _, hx.int, hy.int, sc_of e q (.int _)⟩
  · cases hp
theorem tsOk : ∀ n, TsOk N F sc W k n := by
  intro n
  induction n with
  | zero => exact ⟨fun _ _ h => by simp [trS] at h, fun _ _ h => by simp [trB] at h⟩
  | succ n ih =>
    have te := trOk (N := N) (F := F) (k := k) exF
    refine ⟨fun {X C s c} O OW h => ?_, fun {X C ss c} O OW h => ?_⟩
    · unfold trS at h
      replace h := getD_cases h
      rcases h with h | rfl
      rotate_left
      · exact ps_none fun E => by simp only [evS]
      split at h
      · cases h; exact so_pas
      · cases h; exact so_brk
      · cases h; exact so_cnt
      · split at h
        · cases h
        · rename_i hc
          simp only [Option.map_eq_some_iff] at h
          obtain ⟨c', hc', rfl⟩ := h
          exact so_ex (Bool.eq_false_iff.mpr hc) (te.e O hc').1
      · cases h; exact so_retN
      · simp only [Option.map_eq_some_iff] at h
        obtain ⟨c', hc', rfl⟩ := h
        exact so_ret (te.e O hc').1
      · split at h
        · rename_i cc ca cb hc ha hb
          cases h
          exact so_ite (te.e O hc).2 (ih.b O OW ha) (ih.b O OW hb)
        · cases h
      · split at h
        · rename_i cc cb hc hb
          cases h
          exact so_whl O (te.e O hc).2 (ih.b O OW hb)
        · cases h
      · split at h
        · cases h
        · rename_i hset
          split at h
          · rename_i ct ci cb ht hi hb
            cases h
            exact so_for O (Bool.eq_false_iff.mpr hset) (te.i O hi) (so_tg O OW ht) (ih.b O OW hb)
          · cases h
      · -- assignments
        split at h
        · split at h
          · rename_i hs
            split at h
            · rename_i i c' hi hc'
              cases h
              exact so_asgAny O OW hc' hi hs
            · cases h
          · cases h
        · split at h
          · rename_i vs k2 p2
            split at h
            · rename_i is hp
              simp only [Option.map_eq_some_iff] at h
              obtain ⟨cs, hcs, rfl⟩ := h
              exact par_ok O hp (te.es O hcs).pa
            · split at h
              · rename_i hn
                split at h
                · rename_i is c' his hc'
                  cases h
                  exact so_asgT O OW his rfl (swp_none O hn) (te.e O hc').1
                · cases h
              · cases h
          · split at h
            · cases h
            · rename_i hc
              split at h
              · cases h
              · rename_i ht
                split at h
                · rename_i is c' his hc'
                  cases h
                  exact so_asgT O OW his (Bool.eq_false_iff.mpr hc) (no_stores (Bool.eq_false_iff.mpr ht)) (te.e O hc').1
                · cases h
        · split at h
          · cases h
          · rename_i q
            simp only [Bool.or_eq_true, not_or, Bool.not_eq_true, Bool.not_eq_false'] at q
            obtain ⟨⟨⟨⟨q1, q2⟩, q3⟩, q4⟩, q5⟩ := q
            split at h
            · rename_i i ck ce hi hk he
              cases h
              exact so_setIx O O.u1 hi q5 q3 q4 q2 q1 (te.e O hk).1 (te.e O he).1
            · cases h
        · cases h
      · split at h
        · rename_i hs
          split at h
          · rename_i i o c' hi ho hc'
            cases h
            have he := (te.e O hc').1
            rename_i op _ _ _ _ _
            cases op <;> simp only [augO] at ho <;> try (cases ho; done)
            · cases ho; exact so_aug O OW hi hs iadd_o prim_iadd he
            · cases ho; exact so_aug O OW hi hs iop_sub prim_sub he
            · cases ho; exact so_aug O OW hi hs iop_mul prim_mul he
          · cases h
        · cases h
      · split at h
        · cases h
        · rename_i q
          simp only [Bool.or_eq_true, not_or, Bool.not_eq_true, Bool.not_eq_false'] at q
          obtain ⟨⟨⟨q1, q2⟩, q3⟩, q4⟩ := q
          split at h
          · rename_i i o ck ce hi ho hk he
            cases h
            rename_i op _ _ _ _ _ _
            have hk := (te.e O hk).1
            have he := (te.e O he).1
            cases op <;> simp only [augD] at ho <;> try (cases ho; done)
            · cases ho; exact so_augIx O O.u1 hi q4 q2 q3 q1 in_add prim_iaddI hk he
            · cases ho; exact so_augIx O O.u1 hi q4 q2 q3 q1 in_sub prim_isubI hk he
          · cases h
      · cases h
    · unfold trB at h
      split at h
      · cases h; exact so_bnil
      · split at h
        · rename_i c' cs hc hcs
          cases h
          exact so_bcons (ih.s O OW hc) (ih.b O OW hcs)
        · cases h
end
end Fi
end

section
/-! FiR: defs. Own work. -/
namespace Fi
open PySem PySem.Spec L2

/-- a def: how many parameters, how many names, which parameters are the caller's containers, its code -/
structure Fn where
  np : Nat
  nl : Nat
  io : List Bool
  code : CB
def entry (fn : Fn) (as : List (Bool × D)) : Env :=
  { sl := (as.map fun a => if a.1 then Sl.ow a.2 else .sh a.2) ++ List.replicate (fn.nl - fn.np) .un, ro := (List.range fn.np).filter fun i => fn.io.getD i false }
def giveD (E : Env) : Rs → Option Rs
  | .sh d => some (.sh d)
  | .ow d => some (.ow d)
  | .pk i => if E.ro.contains i then none else (match E.get i with
    | .ow d => some (.ow d)
    | .sh d => some (.sh d)
    | _ => none)
def finsD (E : Env) (n : Nat) : Option (List Sl) :=
  if E.ro.all (fun i => match E.get i with | .ow _ => true | .sh _ => true | _ => false) then some ((List.range n).map E.get) else none
section
variable (T : Str → Option Fn) (G : Str → Option D)
noncomputable def run : Nat → Str → List (Bool × D) → Option (Rs × List Sl)
  | 0, _, _ => none
  | n + 1, f, as => match T f with
    | none => none
    | some fn => if as.length = fn.np ∧ as.map (·.1) = fn.io ∧ fn.np ≤ fn.nl then
        (match evB { call := run n, io := fun g => ((T g).map (·.io)).getD [], glo := G } fn.code (entry fn as) with
        | some (.rt r E) => (match giveD E r, finsD E fn.np with
          | some r', some ss => some (r', ss)
          | _, _ => none)
        | some (.nx E) => (match finsD E fn.np with
          | some ss => some (.sh .non, ss)
          | none => none)
        | _ => none)
      else none
noncomputable def ctxOf (n : Nat) : Ctx := { call := run T G n, io := fun g => ((T g).map (·.io)).getD [], glo := G }
end

/-- the table's defs stand in the module -/
structure TabOk (P : Program) (w : World) (K : PySem.W.Frag) (mg : Str → Option Value) (base : Heap) (dd : Str → Addr × FuncData × List Str) (T : Str → Option Fn) (G : Str → Option D) (F : List (Str × Nat)) : Prop where
  tab : ∀ f m, F.lookup f = some m → ∃ fn, T f = some fn ∧ fn.np = m
  fn : ∀ f fn, T f = some fn → ∃ (st : Stmt) (N : List Str) (m : Nat), mg f = some (.ref (dd f).1) ∧ Fun K f f st (dd f).1 (dd f).2.1 ∧ FnScope N (dd f).2.2 (defScope st) ∧ Binds K (dd f).2.1 (dd f).2.2 [] ∧ (dd f).2.2.length = fn.np ∧ N.length = fn.nl ∧
    trB N F (defScope st).names (defScope st).names m (defBody st) = some fn.code
  blt : ∀ x ∈ blts, mg x = none
  glo : ∀ x d, G x = some d → ∃ v u, mg x = some u ∧ RelV v u ∧ Rep K (fun _ => none) d v
section
variable {P : Program} {w : World} {K : PySem.W.Frag} {mg : Str → Option Value} {base : Heap} {dd : Str → Addr × FuncData × List Str} {T : Str → Option Fn} {G : Str → Option D} {F : List (Str × Nat)}
theorem getD_app {α : Type} (l r : List α) (i : Nat) (d : α) : (l ++ r).getD i d = if i < l.length then l.getD i d else r.getD (i - l.length) d := by
  simp only [List.getD_eq_getElem?_getD, List.getElem?_append]
  split <;> rfl
theorem entry_get {fn : Fn} {as : List (Bool × D)} (i : Nat) : (entry fn as).get i = match as[i]? with | some (true, d) => .ow d | some (false, d) => .sh d | none => .un := by
  unfold entry Env.get
  simp only
  rw [getD_app]
  by_cases h : i < as.length
  · rw [if_pos (by simpa using h)]
    rw [List.getD_eq_getElem?_getD, List.getElem?_map, List.getElem?_eq_getElem h]
    obtain ⟨b, d⟩ := as[i]
    cases b <;> rfl
  · rw [if_neg (by simpa using h), List.getElem?_eq_none (by omega)]
    simp only [List.getD_eq_getElem?_getD, List.getElem?_replicate]
    split <;> rfl
theorem start_get {N : List Str} {vs : List V} {i : Nat} {v : V} (h : vs[i]? = some v) : (L2.start N vs)[i]? = some (some v) := by
  unfold L2.start
  have hi := (List.getElem?_eq_some_iff.mp h).1
  rw [List.getElem?_append_left (by simpa using hi), List.getElem?_map, h]; rfl
theorem entry_ok {S H : Hp} {N : List Str} {vs : List V} {fn : Fn} {as : List (Bool × D)} (a : ArgsOk K S H vs as) (hN : N.length = fn.nl) (hl : as.length = fn.np) (hio : as.map (·.1) = fn.io) (hle : fn.np ≤ fn.nl) : EnvOk K S H (L2.start N vs) (entry fn as) := by
  have vl := a.len
  have ow : ∀ i d, (entry fn as).get i = .ow d ∨ (entry fn as).get i = .lk d → as[i]? = some (true, d) := fun i d h => by
    rw [entry_get] at h
    split at h
    · rename_i d' e
      rcases h with h | h <;> cases h
      exact e
    · rcases h with h | h <;> cases h
    · rcases h with h | h <;> cases h
  refine ⟨a.sub, ?_, fun i d h => ?_, fun i d h => ?_, fun i j b hi hj ei ej => ?_, fun i hi => ?_⟩
  · unfold L2.start entry
    simp only [List.length_append, List.length_map, List.length_replicate]
    omega
  · rw [entry_get] at h
    split at h
    · cases h
    · rename_i d' e
      cases h
      obtain ⟨v, hv, r⟩ := a.sh i d e
      exact ⟨v, start_get hv, r⟩
    · cases h
  · obtain ⟨b, hb, s, o⟩ := a.ow i d (ow i d h)
    exact ⟨b, start_get hb, s, o⟩
  · obtain ⟨d, hi⟩ := hi
    obtain ⟨e, hj⟩ := hj
    have h1 := ow i d hi
    have h2 := ow j e hj
    obtain ⟨c, hc, _, _⟩ := a.ow i d h1
    obtain ⟨c', hc', _, _⟩ := a.ow j e h2
    rw [start_get hc] at ei; cases ei
    rw [start_get hc'] at ej; cases ej
    exact a.inj i j d e b h1 h2 hc hc'
  · unfold entry at hi
    simp only [List.mem_filter, List.mem_range] at hi
    obtain ⟨h1, h2⟩ := hi
    rw [← hio, List.getD_eq_getElem?_getD, List.getElem?_map] at h2
    cases z : as[i]? with
    | none => rw [z] at h2; cases h2
    | some p =>
      obtain ⟨b, d⟩ := p
      rw [z] at h2
      have h2 : b = true := h2
      subst h2
      obtain ⟨c, hc, _, _⟩ := a.ow i d z
      exact ⟨c, start_get hc, .inl ⟨d, .inl (by rw [entry_get, z])⟩⟩
theorem ro_mem {fn : Fn} {as : List (Bool × D)} {i : Nat} {d : D} (hl : as.length = fn.np) (hio : as.map (·.1) = fn.io) (h : as[i]? = some (true, d)) : i ∈ (entry fn as).ro := by
  unfold entry
  simp only [List.mem_filter, List.mem_range]
  have hi := (List.getElem?_eq_some_iff.mp h).1
  refine ⟨by omega, ?_⟩
  rw [← hio, List.getD_eq_getElem?_getD, List.getElem?_map, h]; rfl
/-- the body's end is the call's -/
theorem call_end {S H S' H' : Hp} {N : List Str} {vs : List V} {fn : Fn} {as : List (Bool × D)} {σ' : L2.St} {E' : Env} {v : V} {r' : Rs} {ss : List Sl} (a : ArgsOk K S H vs as) (hN : N.length = fn.nl) (hl : as.length = fn.np) (hio : as.map (·.1) = fn.io)
    (p : Post K S H (L2.start N vs) (entry fn as) S' H' σ' E') (hf : finsD E' fn.np = some ss) (g : GiveOk K S' H' H v r') : CallPost K S H vs as S' H' v r' ss := by
  unfold finsD at hf
  split at hf
  · rename_i hall
    cases hf
    rw [List.all_eq_true] at hall
    have ownL : ∀ b, Own (L2.start N vs) (entry fn as) b → Lent vs as b := fun b ⟨i, ⟨d, hd⟩, e⟩ => by
      have h1 : as[i]? = some (true, d) := by
        rw [entry_get] at hd
        split at hd
        · rename_i d' e'
          rcases hd with hd | hd <;> cases hd
          exact e'
        · rcases hd with hd | hd <;> cases hd
        · rcases hd with hd | hd <;> cases hd
      obtain ⟨c, hc, _, _⟩ := a.ow i d h1
      rw [start_get hc] at e; cases e
      exact ⟨i, d, h1, hc⟩
    refine ⟨p.ok.sub, p.grow, fun b o n e => p.frame b o (fun z => n (ownL b z)) e, fun b o n e s => p.keepS b o (fun z => n (ownL b z)) e s, p.dom, by simp [hl], fun i d b h1 h2 => ?_, g⟩
    have hro := ro_mem hl hio h1
    have hi : i < fn.np := by rw [← hl]; exact (List.getElem?_eq_some_iff.mp h1).1
    refine ⟨E'.get i, by rw [List.getElem?_map, List.getElem?_range hi]; rfl, ?_⟩
    have hro' : i ∈ E'.ro := by rw [p.roE]; exact hro
    have es : σ'[i]? = some (some (.ref b)) := by rw [p.rof i hro]; exact start_get h2
    have q := hall i hro'
    obtain ⟨c, ec, z⟩ := p.ok.ro i hro'
    rw [es] at ec; cases ec
    cases gt : E'.get i with
    | un => rw [gt] at q; cases q
    | lk _ => rw [gt] at q; cases q
    | ow d' =>
      obtain ⟨c, ec, s, o⟩ := p.ok.ow i d' (.inl gt)
      rw [es] at ec; cases ec
      exact .ow s o
    | sh d' =>
      obtain ⟨u, eu, r⟩ := p.ok.sh i d' gt
      rw [es] at eu; cases eu
      refine .sh r (z.resolve_left fun ⟨d2, h⟩ => ?_)
      rw [gt] at h
      rcases h with h | h <;> cases h
  · cases hf
theorem give_ok {S H S' H' : Hp} {N : List Str} {vs : List V} {fn : Fn} {as : List (Bool × D)} {σ' : L2.St} {E' : Env} {v : V} {r r' : Rs} (a : ArgsOk K S H vs as) (hl : as.length = fn.np) (hio : as.map (·.1) = fn.io)
    (p : Post K S H (L2.start N vs) (entry fn as) S' H' σ' E') (h : ResOk K S' H' H σ' E' v r) (hg : giveD E' r = some r') : GiveOk K S' H' H v r' := by
  cases h with
  | sh rv => cases hg; exact .sh rv
  | ow e n s o _ => cases hg; exact .ow e n s o
  | @pk i es =>
    unfold giveD at hg
    simp only at hg
    split at hg
    · cases hg
    · rename_i nro
      have nro : i ∉ E'.ro := by simpa using nro
      split at hg
      · rename_i d g
        cases hg
        obtain ⟨b, eb, s, o⟩ := p.ok.ow i d (.inl g)
        rw [es] at eb; cases eb
        refine .ow rfl ?_ s o
        rcases p.own b ⟨i, ⟨d, .inl g⟩, es⟩ with z | z
        · -- a container of the caller's
          exfalso
          obtain ⟨j, ⟨d2, hd⟩, ej⟩ := z
          have h1 : as[j]? = some (true, d2) := by
            rw [entry_get] at hd
            split at hd
            · rename_i d' e'
              rcases hd with hd | hd <;> cases hd
              exact e'
            · rcases hd with hd | hd <;> cases hd
            · rcases hd with hd | hd <;> cases hd
          have hro := ro_mem hl hio h1
          have hro' : j ∈ E'.ro := by rw [p.roE]; exact hro
          have ej' : σ'[j]? = some (some (.ref b)) := by rw [p.rof j hro]; exact ej
          obtain ⟨c, ec, q⟩ := p.ok.ro j hro'
          rw [ej'] at ec; cases ec
          rcases q with q | q
          · exact nro (by rw [p.ok.inj i j b ⟨d, .inl g⟩ q es ej']; exact hro')
          · exact q s
        · exact z
      · rename_i d g
        cases hg
        obtain ⟨u, eu, r⟩ := p.ok.sh i d g
        rw [es] at eu; cases eu
        exact .sh r
      · cases hg
theorem run_ok (tb : TabOk P w K mg base dd T G F) : ∀ n f fn, T f = some fn → mg f = some (.ref (dd f).1) ∧ PySem.W.keepIn K (.ref (dd f).1) = true ∧ Binds K (dd f).2.1 (dd f).2.2 [] ∧ (dd f).2.2.length = fn.np ∧ FnOk P w K mg base CX0 n (dd f).1 (dd f).2.1 (dd f).2.2 (spD K (run T G n f) fn.np) := by
  intro n
  induction n with
  | zero =>
    intro f fn hf
    obtain ⟨st, N, m, h1, h2, h3, h4, h5, h6, h7⟩ := tb.fn f fn hf
    refine ⟨h1, h2.kp, h4, h5, ⟨fun vs H Q E h => by rw [h.1, h5], fun A outer s H args us vs Q E hr e0 hb r h => ?_⟩⟩
    obtain ⟨_, S, as, rr, ss, _, hrun, _⟩ := h
    cases hrun
  | succ n ih =>
    intro f fn hf
    obtain ⟨st, N, m, h1, h2, h3, h4, h5, h6, h7⟩ := tb.fn f fn hf
    refine ⟨h1, h2.kp, h4, h5, ?_⟩
    refine h2.ok h3 (fun vs H Q E h => by rw [h.1, h5]) fun cdv A outer s H vs Q E hr h => ?_
    obtain ⟨hvl, S, as, rr, ss, ha, hrun, q⟩ := h
    refine ⟨tB K (ctxOf T G n) fn.code, ?_, ?_⟩
    · refine (tsOk (N := N) (F := F) (sc := (defScope st).names) (W := (defScope st).names) (k := n) m).b ⟨rfl, h3.nd, rfl, h3.kind, rfl, rfl, hr, fun g mm hg => ?_, tb.blt, tb.glo⟩ ⟨fun x _ => rfl⟩ h7
      obtain ⟨fn', hT, hnp⟩ := tb.tab g mm hg
      obtain ⟨g1, g2, g3, g4, g5⟩ := ih g fn' hT
      rw [hnp] at g5
      exact ⟨_, _, _, g1, g2, g3, g5⟩
    · simp only [run, hf] at hrun
      split at hrun
      · rename_i c
        obtain ⟨c1, c2, c3⟩ := c
        have I := entry_ok (N := N) ha h6 c1 c2 c3
        split at hrun
        · rename_i r E1 e1
          split at hrun
          · rename_i r' ss' hg hf'
            cases hrun
            exact ⟨S, entry fn as, _, I, e1, fun v σ' H' S' p hres => q v H' S' (call_end ha h6 c1 c2 p hf' (give_ok ha c1 c2 p hres hg))⟩
          · cases hrun
        · rename_i E1 e1
          split at hrun
          · rename_i ss' hf'
            cases hrun
            exact ⟨S, entry fn as, _, I, e1, fun σ' H' S' p => q .non H' S' (call_end ha h6 c1 c2 p hf' (.sh .non))⟩
          · cases hrun
        · cases hrun
      · cases hrun
end
end Fi
end

section
/-! FiEnd: the table from what the head has written; the law's promise from its data function. Own work. -/
namespace Fi
open PySem PySem.Spec L2
/-- a def as the head has written it -/
def Stand (K : PySem.W.Frag) (f : Str) (st : Stmt) : Prop := ∃ (fa : Addr) (oc : Value) (od an : Option Addr) (sl : Array (Option Value)) (kV dc pm cd ct : Value), PySem.W.nsIn K mainGlobals f = some (some (.ref fa)) ∧
  K.lookup fa = some ⟨oc, od, .func (PySem.W.fnOf f f (defArgs st) (defBody st) (defScope st) .none kV dc pm an cd ct), sl⟩ ∧ PySem.W.codeIn K cd f = true ∧ PySem.W.keepIn K (.ref fa) = true
theorem stand_mk {K : PySem.W.Frag} {f : Str} {st : Stmt} {fa : Addr} {oc : Value} {od an : Option Addr} {sl : Array (Option Value)} {kV dc pm cd ct : Value} (a : PySem.W.nsIn K mainGlobals f = some (some (.ref fa)))
    (b : K.lookup fa = some ⟨oc, od, .func (PySem.W.fnOf f f (defArgs st) (defBody st) (defScope st) .none kV dc pm an cd ct), sl⟩) (c : PySem.W.codeIn K cd f = true) (d : PySem.W.keepIn K (.ref fa) = true) : Stand K f st := ⟨fa, oc, od, an, sl, kV, dc, pm, cd, ct, a, b, c, d⟩
/-- a def of the table, as the law's walk needs it -/
def DefIs (K : PySem.W.Frag) (mg : Str → Option Value) (F : List (Str × Nat)) (f : Str) (fn : Fn) (d : Addr × FuncData × List Str) : Prop :=
  ∃ (st : Stmt) (N : List Str) (m : Nat), mg f = some (.ref d.1) ∧ Fun K f f st d.1 d.2.1 ∧ FnScope N d.2.2 (defScope st) ∧ (∀ us : List Value, us.length = d.2.2.length → bindArgs d.2.1 ⟨us, []⟩ = pure (d.2.2.zip us)) ∧ d.2.2.length = fn.np ∧ N.length = fn.nl ∧
    trB N F (defScope st).names (defScope st).names m (defBody st) = some fn.code
section
variable {K : PySem.W.Frag} {h : Heap} {mg : Str → Option Value} {F : List (Str × Nat)} {f : Str} {st : Stmt} {N ps : List Str} {m : Nat} {fn : Fn}
theorem Stand.is (X : K.In h) (G : h.Ns mainGlobals mg) (s : Stand K f st) (sc : FnScope N ps (defScope st))
    (b : ∀ (kV doc pm : Value) (an : Option Addr) (cdv ct : Value) (us : List Value), us.length = ps.length → bindArgs (PySem.W.fnOf f f (defArgs st) (defBody st) (defScope st) .none kV doc pm an cdv ct) ⟨us, []⟩ = pure (ps.zip us))
    (tr : trB N F (defScope st).names (defScope st).names m (defBody st) = some fn.code) (h1 : ps.length = fn.np) (h2 : N.length = fn.nl) : ∃ d, DefIs K mg F f fn d ∧ d.2.2 = ps := by
  obtain ⟨fa, oc, od, an, sl, kV, dc, pm, cd, ct, e1, e2, e3, e4⟩ := s
  have FF := fun_mk (st := st) e2 e3 e4
  exact ⟨(fa, _, ps), ⟨st, N, m, PySem.W.mg_of X G e1, FF, sc, fun us hl => b _ _ _ _ _ _ us hl, h1, h2, tr⟩, rfl⟩
/-- the table's defs stand; ps the parameters of each -/
inductive DefsAre (K : PySem.W.Frag) (mg : Str → Option Value) (F : List (Str × Nat)) : List (Str × Fn) → List (List Str) → Prop
  | nil : DefsAre K mg F [] []
  | cons {f : Str} {fn : Fn} {r : List (Str × Fn)} {ps : List Str} {pr : List (List Str)} : (∃ d, DefIs K mg F f fn d ∧ d.2.2 = ps) → DefsAre K mg F r pr → DefsAre K mg F ((f, fn) :: r) (ps :: pr)
theorem DefsAre.get {tab : List (Str × Fn)} {pp : List (List Str)} (d : DefsAre K mg F tab pp) : ∀ {f : Str} {fn : Fn}, tab.lookup f = some fn → ∃ d ps, DefIs K mg F f fn d ∧ d.2.2 = ps ∧ ((tab.map (·.1)).zip pp).lookup f = some ps := by
  induction d with
  | nil => intro f fn h; cases h
  | @cons g gn r ps pr d _ ih =>
    intro f fn h
    rw [List.lookup_cons] at h
    rw [List.map_cons, List.zip_cons_cons, List.lookup_cons]
    cases hb : f == g with
    | true =>
      rw [hb] at h
      cases h
      have e : f = g := by simpa using hb
      subst e
      obtain ⟨d, h1, h2⟩ := d
      exact ⟨d, ps, h1, h2, rfl⟩
    | false =>
      rw [hb] at h
      exact ih h
theorem lookup_np {tab : List (Str × Fn)} : ∀ {f : Str} {m : Nat}, (tab.map fun p => (p.1, p.2.np)).lookup f = some m → ∃ fn, tab.lookup f = some fn ∧ fn.np = m := by
  induction tab with
  | nil => intro f m h; cases h
  | cons p r ih =>
    obtain ⟨g, gn⟩ := p
    intro f m h
    rw [List.map_cons, List.lookup_cons] at h
    rw [List.lookup_cons]
    cases hb : f == g with
    | true => rw [hb] at h; cases h; exact ⟨gn, rfl, rfl⟩
    | false => rw [hb] at h; exact ih h
theorem tab_ok {tab : List (Str × Fn)} {pp : List (List Str)} (d : DefsAre K mg (tab.map fun p => (p.1, p.2.np)) tab pp) (z : ∀ x ∈ blts, mg x = none) {G : List (Str × D)} (g : ∀ x d, G.lookup x = some d → ∃ v u, mg x = some u ∧ RelV v u ∧ Rep K (fun _ => none) d v) :
    ∃ dd : Str → Addr × FuncData × List Str, (∀ f ps, ((tab.map (·.1)).zip pp).lookup f = some ps → ∀ fn, tab.lookup f = some fn → (dd f).2.2 = ps) ∧ (∀ f fn, tab.lookup f = some fn → DefIs K mg (tab.map fun p => (p.1, p.2.np)) f fn (dd f)) ∧ ∀ (P : Program) (w : World) (base : Heap), TabOk P w K mg base dd (fun f => tab.lookup f) (fun x => G.lookup x) (tab.map fun p => (p.1, p.2.np)) := by
  have ex : ∀ f, ∃ x : Addr × FuncData × List Str, ∀ fn, tab.lookup f = some fn → DefIs K mg (tab.map fun p => (p.1, p.2.np)) f fn x ∧ ((tab.map (·.1)).zip pp).lookup f = some x.2.2 := fun f => by
    cases z : tab.lookup f with
    | none => exact ⟨(0, (PySem.W.fnOf f f (defArgs (.Pass ⟨0, 0, 0, 0⟩)) [] (defScope (.Pass ⟨0, 0, 0, 0⟩)) .none .none .none .none none .none .none), []), fun fn h => by cases h⟩
    | some fn =>
      obtain ⟨d, ps, h1, h2, h3⟩ := d.get z
      exact ⟨d, fun fn' h => by cases h; exact ⟨h1, by rw [h2]; exact h3⟩⟩
  obtain ⟨dd, hdd⟩ := Classical.axiomOfChoice ex
  refine ⟨dd, fun f ps h fn hf => ?_, fun f fn h => (hdd f fn h).1, fun P w base => ⟨fun f m h => lookup_np h, fun f fn h => ?_, z, g⟩⟩
  rotate_left
  · obtain ⟨st, N, m, h1, h2, h3, h4, h5⟩ := (hdd f fn h).1
    exact ⟨st, N, m, h1, h2, h3, Binds.all h4, h5⟩
  have := (hdd f fn hf).2
  rw [h] at this
  cases this; rfl
/-- the law's promise -/
def spL (K : PySem.W.Frag) : Sp := fun vs H Q _ => ∃ (a : Addr) (ns : List Int), vs = [.ref a] ∧ SqL K H a (ns.map V.int) ∧ ns.length ≤ 63 ∧ ∀ H', Q (.bl true) H'
theorem law_end {l : PySem.W.OpenLaw} {w : World} {fa : Addr} {tab : List (Str × Fn)} {pp : List (List Str)} {G : List (Str × D)} (d : DefsAre K mg (tab.map fun p => (p.1, p.2.np)) tab pp) (z : ∀ x ∈ blts, mg x = none) (g : ∀ x d, G.lookup x = some d → ∃ v u, mg x = some u ∧ RelV v u ∧ Rep K (fun _ => none) d v) {n : Nat}
    (hfa : mg ("law" : Str) = some (.ref fa)) (ht : tab.lookup ("law" : Str) = some fn) (hnp : fn.np = 1) (hps : ((tab.map (·.1)).zip pp).lookup ("law" : Str) = some [("script" : Str)])
    (run1 : ∀ ns : List Int, ns.length ≤ 63 → ∃ ss, run (fun f => tab.lookup f) (fun x => G.lookup x) n ("law" : Str) [(false, .scr ns)] = some (.sh (.bl true), ss)) :
    ∃ fd : FuncData, (∀ (s : Shared) (u : Value), BindsTo s fd ⟨[u], []⟩ [(("script" : Str), u)]) ∧ ∀ base : Heap, K.In base → base.Ns mainGlobals mg → FnOk l.prog w K mg base CX0 n fa fd [("script" : Str)] (spL K) := by
  obtain ⟨dd, h0, h00, tb⟩ := tab_ok d z g
  have e0 := h0 _ _ hps _ ht
  obtain ⟨st, N, m, h1, h2, h3, h4, h5, h6, h7⟩ := h00 _ _ ht
  rw [hfa] at h1
  have e1 : (dd ("law" : Str)).1 = fa := by cases h1; rfl
  refine ⟨(dd ("law" : Str)).2.1, fun s u => ?_, fun base _ _ => ?_⟩
  · have b := h4 [u] (by rw [e0]; rfl)
    rw [e0] at b
    exact .of_eq b
  · obtain ⟨_, _, _, _, F5⟩ := run_ok (tb l.prog w base) n _ fn ht
    rw [e0, e1] at F5
    refine F5.imp fun vs H Q E ⟨a, ns, e, hS, hl, q⟩ => ?_
    subst e
    obtain ⟨ss, hr⟩ := run1 ns hl
    refine ⟨by rw [hnp]; rfl, H, [(false, .scr ns)], _, ss, ⟨.refl _, rfl, fun i d h => ?_, fun i d h => ?_, fun i j d e b h => ?_⟩, hr, fun v H' S' cp => ?_⟩
    · cases i with
      | zero => cases h; exact ⟨_, rfl, .scr hS⟩
      | succ i => simp at h
    · cases i with
      | zero => cases h
      | succ i => simp at h
    · cases i with
      | zero => cases h
      | succ i => simp at h
    · have g := cp.give
      cases g with
      | sh r => cases r; exact q H'
end
end Fi
end

section
/-! FiV: what code computes, as lemmas for use. Own work. -/
namespace Fi
open PySem L2
mutual
/-- data without truth values, dicts and the like -/
def Pure : D → Bool
  | .non => true
  | .int _ => true
  | .str _ => true
  | .tup xs => Pures xs
  | .lst xs => Pures xs
  | _ => false
def Pures : List D → Bool
  | [] => true
  | x :: r => Pure x && Pures r
end
mutual
def dep : D → Nat
  | .tup xs => deps xs + 1
  | .lst xs => deps xs + 1
  | _ => 0
def deps : List D → Nat
  | [] => 0
  | x :: r => max (dep x) (deps r)
end
mutual
theorem py_pure : ∀ {d : D}, Pure d = true → ∃ p, d.py = some p
  | .non, _ => ⟨_, rfl⟩
  | .int _, _ => ⟨_, rfl⟩
  | .str _, _ => ⟨_, rfl⟩
  | .tup xs, h => by
    unfold Pure at h
    obtain ⟨ps, e⟩ := pys_pure h
    exact ⟨.tuple ps, by unfold D.py; rw [e]; rfl⟩
  | .lst xs, h => by
    unfold Pure at h
    obtain ⟨ps, e⟩ := pys_pure h
    exact ⟨.list ps, by unfold D.py; rw [e]; rfl⟩
  | .bl _, h => by cases h
  | .dct _ _, h => by cases h
  | .set _, h => by cases h
  | .scr _, h => by cases h
  | .ty _, h => by cases h
theorem pys_pure : ∀ {ds : List D}, Pures ds = true → ∃ ps, D.pys ds = some ps
  | [], _ => ⟨[], rfl⟩
  | d :: ds, h => by
    unfold Pures at h
    simp only [Bool.and_eq_true] at h
    obtain ⟨p, e⟩ := py_pure h.1
    obtain ⟨ps, es⟩ := pys_pure h.2
    exact ⟨p :: ps, by unfold D.pys; rw [e, es]⟩
end
mutual
theorem depth_dep : ∀ {d : D} {p : PyData}, d.py = some p → p.depth ≤ dep d
  | .non, _, h => by cases h; simp [PyData.depth]
  | .bl _, _, h => by cases h; simp [PyData.depth]
  | .int _, _, h => by cases h; simp [PyData.depth]
  | .str _, _, h => by cases h; simp [PyData.depth]
  | .tup xs, _, h => by
    unfold D.py at h
    cases z : D.pys xs with
    | none => rw [z] at h; cases h
    | some ps => rw [z] at h; cases h; have := depths_dep z; simp only [PyData.depth, dep]; omega
  | .lst xs, _, h => by
    unfold D.py at h
    cases z : D.pys xs with
    | none => rw [z] at h; cases h
    | some ps => rw [z] at h; cases h; have := depths_dep z; simp only [PyData.depth, dep]; omega
theorem depths_dep : ∀ {ds : List D} {ps : List PyData}, D.pys ds = some ps → PyData.depthAll ps ≤ deps ds
  | [], _, h => by cases h; simp [PyData.depthAll]
  | d :: ds, _, h => by
    unfold D.pys at h
    cases z : d.py with
    | none => rw [z] at h; cases h
    | some p =>
      cases y : D.pys ds with
      | none => rw [z, y] at h; cases h
      | some qs =>
        rw [z, y] at h; cases h
        have h1 := depth_dep z
        have h2 := depths_dep y
        simp only [PyData.depthAll, deps]
        omega
end
mutual
theorem eqv_iff : ∀ {a b : D} {p q : PyData}, Pure a = true → Pure b = true → a.py = some p → b.py = some q → (PyData.eqv p q = true ↔ a = b)
  | .non, b, p, q, _, hb, ha, hq => by
    cases ha
    cases b <;> simp [Pure] at hb <;> (unfold D.py at hq; first | (cases hq; simp [PyData.eqv]; done) | (simp only [Option.map_eq_some_iff] at hq; obtain ⟨_, _, rfl⟩ := hq; simp [PyData.eqv]))
  | .int i, b, p, q, _, hb, ha, hq => by
    cases ha
    cases b <;> simp [Pure] at hb <;> (unfold D.py at hq; first | (cases hq; simp [PyData.eqv]; done) | (simp only [Option.map_eq_some_iff] at hq; obtain ⟨_, _, rfl⟩ := hq; simp [PyData.eqv]))
  | .str x, b, p, q, _, hb, ha, hq => by
    cases ha
    cases b <;> simp [Pure] at hb <;> (unfold D.py at hq; first | (cases hq; simp [PyData.eqv]; done) | (simp only [Option.map_eq_some_iff] at hq; obtain ⟨_, _, rfl⟩ := hq; simp [PyData.eqv]))
  | .tup xs, b, p, q, h, hb, ha, hq => by
    unfold Pure at h
    unfold D.py at ha
    simp only [Option.map_eq_some_iff] at ha
    obtain ⟨ps, e, rfl⟩ := ha
    cases b <;> simp [Pure] at hb <;> (unfold D.py at hq; first | (cases hq; simp [PyData.eqv]; done) | (simp only [Option.map_eq_some_iff] at hq; obtain ⟨qs, e', rfl⟩ := hq; simp only [PyData.eqv]; first | (rw [eqvs_iff h hb e e']; simp; done) | simp))
  | .lst xs, b, p, q, h, hb, ha, hq => by
    unfold Pure at h
    unfold D.py at ha
    simp only [Option.map_eq_some_iff] at ha
    obtain ⟨ps, e, rfl⟩ := ha
    cases b <;> simp [Pure] at hb <;> (unfold D.py at hq; first | (cases hq; simp [PyData.eqv]; done) | (simp only [Option.map_eq_some_iff] at hq; obtain ⟨qs, e', rfl⟩ := hq; simp only [PyData.eqv]; first | (rw [eqvs_iff h hb e e']; simp; done) | simp))
  | .bl _, _, _, _, h, _, _, _ => by cases h
  | .dct _ _, _, _, _, h, _, _, _ => by cases h
  | .set _, _, _, _, h, _, _, _ => by cases h
  | .scr _, _, _, _, h, _, _, _ => by cases h
  | .ty _, _, _, _, h, _, _, _ => by cases h
theorem eqvs_iff : ∀ {a b : List D} {p q : List PyData}, Pures a = true → Pures b = true → D.pys a = some p → D.pys b = some q → (PyData.eqvAll p q = true ↔ a = b)
  | [], [], _, _, _, _, ha, hb => by cases ha; cases hb; simp [PyData.eqvAll]
  | [], y :: ys, _, _, _, _, ha, hb => by
    cases ha
    unfold D.pys at hb
    split at hb
    · cases hb; simp [PyData.eqvAll]
    · cases hb
  | x :: xs, [], _, _, _, _, ha, hb => by
    cases hb
    unfold D.pys at ha
    split at ha
    · cases ha; simp [PyData.eqvAll]
    · cases ha
  | x :: xs, y :: ys, _, _, h1, h2, ha, hb => by
    unfold Pures at h1 h2
    simp only [Bool.and_eq_true] at h1 h2
    unfold D.pys at ha hb
    split at ha
    · rename_i p ps e1 e2
      cases ha
      split at hb
      · rename_i q qs e3 e4
        cases hb
        simp only [PyData.eqvAll, Bool.and_eq_true, eqv_iff h1.1 h2.1 e1 e3, eqvs_iff h1.2 h2.2 e2 e4, List.cons.injEq]
      · cases hb
    · cases ha
end
open Classical in
theorem eqv_pure {a b : D} (ha : Pure a = true) (hb : Pure b = true) (hd : min (dep a) (dep b) ≤ 64) : a.eqv b = some (decide (a = b)) := by
  obtain ⟨p, e⟩ := py_pure ha
  obtain ⟨q, e'⟩ := py_pure hb
  unfold D.eqv
  rw [e, e']
  simp only
  have h1 := depth_dep e
  have h2 := depth_dep e'
  rw [if_pos (by omega)]
  congr 1
  rw [Bool.eq_iff_iff, eqv_iff ha hb e e', decide_eq_true_iff]
end Fi
end

section
set_option maxRecDepth 100000
/-! FiW: runs, and the laws' own helpers: draws, next, pick. Own work. -/
namespace Fi
open PySem L2
theorem dk_ss (a b : Txt) : (DKey.s a == DKey.s b) = decide (a = b) := by
  by_cases h : a = b <;> simp [h]
theorem dk_ii (a b : Int) : (DKey.i a == DKey.i b) = decide (a = b) := by
  by_cases h : a = b <;> simp [h]
theorem dk_si (a : Txt) (b : Int) : (DKey.s a == DKey.i b) = false := by simp
theorem dk_is (a : Int) (b : Txt) : (DKey.i a == DKey.s b) = false := by simp
local macro_rules | `(tactic| walk_at "fi") => `(tactic| simp [evB, evS, evE, evEs, evO, evT, evI, Env.get, Env.put, Env.vw, Env.rd, Env.tk, Env.tks, Env.free, Rs.fz, op2D, addD, subD, mulD, fdivD, modD, powD, cmpA, ordD, Sl.nlk, isD, iopD, iaddD, inopD, iaddI, op1D, PR.rs, D.truth, D.len, ixD, ix, partD, cutD, revD, lenB, absB, intB, tupleB, listB, anyB, allB, isinstB, bltD, joinB, getB, mthD, mthTy, appendB, extendB, popB, mutD, mutTy, setD, kget, kput, D.key, DKey.ok, tyNames, D.tyName, tySub, lock, unlock, lkFree, seqD, puts, bindT, Tg.slots, wipeE, back, argsOf, lent, lentOk, Ar.pass, behind, dk_ss, dk_ii, dk_si, dk_is, bigLine, ownOk, mapOut, turnF, dictAt, lockVar, hide, unhide, bls, inD, D.isNon, List.lookup])
local macro_rules | `(tactic| walk_at "fi*") => `(tactic| simp [evB, evS, evE, evEs, evO, evT, evI, Env.get, Env.put, Env.vw, Env.rd, Env.tk, Env.tks, Env.free, Rs.fz, op2D, addD, subD, mulD, fdivD, modD, powD, cmpA, ordD, Sl.nlk, isD, iopD, iaddD, inopD, iaddI, op1D, PR.rs, D.truth, D.len, ixD, ix, partD, cutD, revD, lenB, absB, intB, tupleB, listB, anyB, allB, isinstB, bltD, joinB, getB, mthD, mthTy, appendB, extendB, popB, mutD, mutTy, setD, kget, kput, D.key, DKey.ok, tyNames, D.tyName, tySub, lock, unlock, lkFree, seqD, puts, bindT, Tg.slots, wipeE, back, argsOf, lent, lentOk, Ar.pass, behind, dk_ss, dk_ii, dk_si, dk_is, bigLine, ownOk, mapOut, turnF, dictAt, lockVar, hide, unhide, bls, inD, D.isNon, List.lookup, *])
section
variable {T : Str → Option Fn} {G : Str → Option D}
theorem run_of {fn : Fn} {f : Str} {as : List (Bool × D)} {n : Nat} {r r' : Rs} {E0 E : Env} {ss : List Sl} (h : T f = some fn) (h0 : entry fn as = E0) (h1 : (decide (as.length = fn.np) && decide (as.map (·.1) = fn.io) && decide (fn.np ≤ fn.nl)) = true)
    (h2 : evB (ctxOf T G n) fn.code E0 = some (.rt r E)) (h3 : giveD E r = some r') (h4 : finsD E fn.np = some ss) : run T G (n + 1) f as = some (r', ss) := by
  simp only [Bool.and_eq_true, decide_eq_true_eq] at h1
  subst h0
  unfold run
  simp only [h]
  rw [if_pos ⟨h1.1.1, h1.1.2, h1.2⟩]
  show (match evB (ctxOf T G n) fn.code (entry fn as) with
    | some (.rt r E) => _
    | some (.nx E) => _
    | _ => none) = _
  rw [h2]
  simp only [h3, h4]
theorem ctx_call (n : Nat) (f : Str) (as : List (Bool × D)) : (ctxOf T G n).call f as = run T G n f as := rfl
theorem ctx_io {n : Nat} {f : Str} {fn : Fn} (h : T f = some fn) : (ctxOf T G n).io f = fn.io := by
  show ((T f).map (·.io)).getD [] = _
  rw [h]; rfl
@[simp] theorem eqv_str (a b : Txt) : D.eqv (.str a) (.str b) = some (decide (a = b)) := by
  rw [eqv_pure (a := .str a) (b := .str b) rfl rfl (by simp [dep])]
  congr 1
  by_cases e : a = b <;> simp [e]
@[simp] theorem eqv_int (a b : Int) : D.eqv (.int a) (.int b) = some (decide (a = b)) := by
  rw [eqv_pure (a := .int a) (b := .int b) rfl rfl (by simp [dep])]
  congr 1
  by_cases e : a = b <;> simp [e]
/-! ### the helpers of the laws -/
/-- the dict w: draws, at, .. -/
def kDraws : DKey := .s [100, 114, 97, 119, 115]
def kAt : DKey := .s [97, 116]
def kLeft : DKey := .s [108, 101, 102, 116]
def W2 (ds : List Int) (i : Nat) : D := .dct false [(kDraws, .lst (ds.map .int)), (kAt, .int i)]
def W3 (ds : List Int) (i : Nat) (l : Int) : D := .dct false [(kDraws, .lst (ds.map .int)), (kAt, .int i), (kLeft, .int l)]
/-- the next draw -/
def nxt (ds : List Int) (i : Nat) (m : Int) : Int := match ds[i]? with
  | some d => d.fmod m
  | none => 0
def c_law_next : CB := (.cons (.augIx 0 (.con (.str [97, 116])) .add (.con (.int 1))) (.cons (.ite (.op2 .gt (.idx (.var 0) (.con (.str [97, 116]))) (.blt .len (.cons (.idx (.var 0) (.con (.str [100, 114, 97, 119, 115]))) .nil))) (.cons (.ret (.con (.int 0))) .nil) .nil) (.cons (.ret (.op2 .mod (.blt .int (.cons (.idx (.idx (.var 0) (.con (.str [100, 114, 97, 119, 115]))) (.op2 .sub (.idx (.var 0) (.con (.str [97, 116]))) (.con (.int 1)))) .nil)) (.var 1))) .nil)))
def f_law_next : Fn := ⟨2, 2, [true, false], c_law_next⟩
theorem run_next2 (hT : T "_law_next" = some f_law_next) (n : Nat) (ds : List Int) (i : Nat) (m : Int) (hm : 0 < m) :
    run T G (n + 1) "_law_next" [(true, W2 ds i), (false, .int m)] = some (.sh (.int (nxt ds i m)), [.ow (W2 ds (i + 1)), .sh (.int m)]) := by
  by_cases h : i < ds.length
  · refine run_of (fn := f_law_next) (E0 := ⟨[.ow (W2 ds i), .sh (.int m)], [0]⟩) (E := ⟨[.ow (W2 ds (i + 1)), .sh (.int m)], [0]⟩) (r := .sh (.int (nxt ds i m))) hT rfl rfl ?_ rfl rfl
    have e : ds[i]? = some ds[i] := List.getElem?_eq_getElem h
    have h1 : ¬ ((ds.length : Int) < (i : Int) + 1) := by omega
    have h2 : m ≠ 0 := by omega
    unfold f_law_next c_law_next W2 kDraws kAt nxt
    walk_at "fi*"
  · refine run_of (fn := f_law_next) (E0 := ⟨[.ow (W2 ds i), .sh (.int m)], [0]⟩) (E := ⟨[.ow (W2 ds (i + 1)), .sh (.int m)], [0]⟩) (r := .sh (.int (nxt ds i m))) hT rfl rfl ?_ rfl rfl
    have e : ds[i]? = none := List.getElem?_eq_none (by omega)
    have h1 : (ds.length : Int) < (i : Int) + 1 := by omega
    have h2 : m ≠ 0 := by omega
    unfold f_law_next c_law_next W2 kDraws kAt nxt
    walk_at "fi*"
end
end Fi
end

section
/-! FiX: walks over lists, as lemmas for use. Own work. -/
namespace Fi
open PySem L2
theorem cmpL_map {α : Type} {f : D → Env → Option (Option D × Env)} {E : Env} (e g : α → D) : ∀ (xs : List α) (acc : List D), (∀ x ∈ xs, f (e x) E = some (some (g x), E)) → acc.length + xs.length ≤ bigLine → cmpL f (xs.map e) acc E = some (acc ++ xs.map g, E)
  | [], acc, _, _ => by simp [cmpL]
  | x :: xs, acc, h, hl => by
    rw [List.map_cons, cmpL, h x (by simp)]
    have : acc.length < bigLine := by simp at hl; omega
    simp only [if_pos this]
    rw [cmpL_map e g xs (acc ++ [g x]) (fun y hy => h y (by simp [hy])) (by simp at hl ⊢; omega)]
    simp
theorem cmpL_filter {α : Type} {f : D → Env → Option (Option D × Env)} {E : Env} (e g : α → D) (p : α → Bool) : ∀ (xs : List α) (acc : List D), (∀ x ∈ xs, f (e x) E = some (if p x = true then some (g x) else none, E)) → acc.length + xs.length ≤ bigLine → cmpL f (xs.map e) acc E = some (acc ++ (xs.filter p).map g, E)
  | [], acc, _, _ => by simp [cmpL]
  | x :: xs, acc, h, hl => by
    rw [List.map_cons, cmpL, h x (by simp)]
    cases hp : p x with
    | true =>
      have : acc.length < bigLine := by simp at hl; omega
      simp only [if_true, if_pos this]
      rw [cmpL_filter e g p xs (acc ++ [g x]) (fun y hy => h y (by simp [hy])) (by simp at hl ⊢; omega)]
      simp [hp]
    | false =>
      simp only [Bool.false_eq_true, if_false]
      rw [cmpL_filter e g p xs acc (fun y hy => h y (by simp [hy])) (by simp at hl ⊢; omega)]
      simp [hp]
theorem cmpL_inv {α : Type} {f : D → Env → Option (Option D × Env)} {I : Env → Prop} {Q : D → Prop} (e : α → D) : ∀ (xs : List α) (acc : List D) (E : Env), I E → (∀ x ∈ xs, ∀ E, I E → ∃ d E', f (e x) E = some (some d, E') ∧ I E' ∧ Q d) → acc.length + xs.length ≤ bigLine →
    ∃ out E', cmpL f (xs.map e) acc E = some (acc ++ out, E') ∧ I E' ∧ (∀ d ∈ out, Q d) ∧ out.length = xs.length
  | [], acc, E, hI, _, _ => ⟨[], E, by simp [cmpL], hI, by simp, rfl⟩
  | x :: xs, acc, E, hI, h, hl => by
    obtain ⟨d, E1, h1, h2, h3⟩ := h x (by simp) E hI
    have : acc.length < bigLine := by simp at hl; omega
    obtain ⟨out, E2, k1, k2, k3, k4⟩ := cmpL_inv e xs (acc ++ [d]) E1 h2 (fun y hy => h y (by simp [hy])) (by simp at hl ⊢; omega)
    refine ⟨d :: out, E2, ?_, k2, fun y hy => (List.mem_cons.mp hy).elim (fun e => e ▸ h3) (k3 y), by simp [k4]⟩
    rw [List.map_cons, cmpL, h1]
    simp only [if_pos this]
    rw [k1]; simp
theorem cmpLL_flat {α β : Type} {f : D → List D → Env → Option (List D × Env)} {E : Env} (e : α → D) (g : α → List β) (e' : β → D) : ∀ (xs : List α) (acc : List D), (∀ x ∈ xs, ∀ acc : List D, acc.length + (g x).length ≤ bigLine → f (e x) acc E = some (acc ++ (g x).map e', E)) →
    acc.length + (xs.flatMap g).length ≤ bigLine → cmpLL f (xs.map e) acc E = some (acc ++ (xs.flatMap g).map e', E)
  | [], acc, _, _ => by simp [cmpLL]
  | x :: xs, acc, h, hl => by
    rw [List.flatMap_cons, List.length_append] at hl
    rw [List.map_cons, cmpLL, h x (by simp) acc (by omega)]
    simp only
    rw [cmpLL_flat e g e' xs (acc ++ (g x).map e') (fun y hy => h y (by simp [hy])) (by simp only [List.length_append, List.length_map]; omega)]
    simp
/-- a for-loop as a fold -/
theorem forL_fold {α σ : Type} {f : D → Env → Option Out} (e : α → D) (enc : σ → Env) (g : α → σ → σ) (P : List α → σ → Prop) : ∀ (xs : List α) (s : σ), P xs s → (∀ x r s, P (x :: r) s → f (e x) (enc s) = some (.nx (enc (g x s))) ∧ P r (g x s)) →
    forL f (xs.map e) (enc s) = some (.nx (enc (xs.foldl (fun s x => g x s) s)))
  | [], s, _, _ => rfl
  | x :: xs, s, hp, h => by
    obtain ⟨h1, h2⟩ := h x xs s hp
    rw [List.map_cons, forL, h1]
    exact forL_fold e enc g P xs (g x s) h2 h
/-- a for-loop that goes on to its end, by what holds all along -/
theorem forL_inv {α : Type} {f : D → Env → Option Out} (e : α → D) {I : List α → Env → Prop} : ∀ (xs : List α) (E : Env), I xs E → (∀ x r E, I (x :: r) E → ∃ E', (f (e x) E = some (.nx E') ∨ f (e x) E = some (.ct E')) ∧ I r E') → ∃ E', forL f (xs.map e) E = some (.nx E') ∧ I [] E'
  | [], E, hI, _ => ⟨E, rfl, hI⟩
  | x :: xs, E, hI, h => by
    obtain ⟨E1, h1, h2⟩ := h x xs E hI
    obtain ⟨E2, k1, k2⟩ := forL_inv e xs E1 h2 h
    refine ⟨E2, ?_, k2⟩
    rw [List.map_cons, forL]
    rcases h1 with h1 | h1 <;> rw [h1] <;> exact k1
/-- a for-loop that goes on to its end, by what is walked so far -/
theorem forL_pre {α : Type} {f : D → Env → Option Out} (e : α → D) {I : List α → Env → Prop} (xs : List α) {E : Env} (hI : I [] E) (h : ∀ pre x post E, xs = pre ++ x :: post → I pre E → ∃ E', (f (e x) E = some (.nx E') ∨ f (e x) E = some (.ct E')) ∧ I (pre ++ [x]) E') :
    ∃ E', forL f (xs.map e) E = some (.nx E') ∧ I xs E' := by
  have k : ∀ (post pre : List α) (E : Env), xs = pre ++ post → I pre E → ∃ E', forL f (post.map e) E = some (.nx E') ∧ I xs E' := by
    intro post
    induction post with
    | nil => intro pre E hx hI; simp at hx; subst hx; exact ⟨E, rfl, hI⟩
    | cons x post ih =>
      intro pre E hx hI
      obtain ⟨E1, h1, h2⟩ := h pre x post E hx hI
      obtain ⟨E2, k1, k2⟩ := ih (pre ++ [x]) E1 (by rw [hx]; simp) h2
      refine ⟨E2, ?_, k2⟩
      rw [List.map_cons, forL]
      rcases h1 with h1 | h1 <;> rw [h1] <;> exact k1
  exact k xs [] E rfl hI
theorem whlN_mono {t : Env → Option (Bool × Env)} {f : Env → Option Out} {o : Out} : ∀ {n : Nat} {E : Env}, whlN t f n E = some o → ∀ {m : Nat}, n ≤ m → whlN t f m E = some o
  | 0, _, h, _, _ => by simp [whlN] at h
  | n + 1, E, h, m, hm => by
    obtain ⟨k, rfl⟩ : ∃ k, m = k + 1 := ⟨m - 1, by omega⟩
    unfold whlN at h ⊢
    cases ht : t E with
    | none => rw [ht] at h; cases h
    | some p =>
      obtain ⟨b, E1⟩ := p
      rw [ht] at h
      cases b with
      | false => exact h
      | true =>
        simp only at h ⊢
        cases hf : f E1 with
        | none => rw [hf] at h; cases h
        | some q =>
          rw [hf] at h
          cases q with
          | nx E2 => exact whlN_mono h (by omega)
          | ct E2 => exact whlN_mono h (by omega)
          | bk E2 => exact h
          | rt r E2 => exact h
theorem whl_of {t : Env → Option (Bool × Env)} {f : Env → Option Out} {o : Out} {n : Nat} {E : Env} (h : whlN t f n E = some o) : whl t f E = some o := by
  have ex : ∃ o n, whlN t f n E = some o := ⟨o, n, h⟩
  unfold whl
  rw [dif_pos ex]
  obtain ⟨m, hm⟩ := ex.choose_spec
  have h1 := whlN_mono h (m := max n m) (by omega)
  have h2 := whlN_mono hm (m := max n m) (by omega)
  rw [h1] at h2
  exact h2.symm
/-- a while-loop that comes to its end, by a measure -/
theorem whl_inv {t : Env → Option (Bool × Env)} {f : Env → Option Out} {I : Nat → Env → Prop} {Q : Env → Prop} (h : ∀ n E, I n E → (∃ E1, t E = some (false, E1) ∧ Q E1) ∨ ∃ E1 E2 m, t E = some (true, E1) ∧ f E1 = some (.nx E2) ∧ m < n ∧ I m E2) {n : Nat} {E : Env} (hI : I n E) : ∃ E', whl t f E = some (.nx E') ∧ Q E' := by
  have k : ∀ n E, I n E → ∃ E' N, whlN t f N E = some (.nx E') ∧ Q E' := by
    intro n
    induction n using Nat.strongRecOn with
    | ind n ih =>
      intro E hI
      rcases h n E hI with ⟨E1, h1, h2⟩ | ⟨E1, E2, m, h1, h2, h3, h4⟩
      · exact ⟨E1, 1, by simp [whlN, h1], h2⟩
      · obtain ⟨E', N, k1, k2⟩ := ih m h3 E2 h4
        exact ⟨E', N + 1, by simp [whlN, h1, h2, k1], k2⟩
  obtain ⟨E', N, k1, k2⟩ := k n E hI
  exact ⟨E', whl_of k1, k2⟩
/-! ### what a block comes to -/
section
variable {C : Ctx}
def WB (C : Ctx) (b : CB) (E : Env) (Q : Out → Prop) : Prop := ∃ o, evB C b E = some o ∧ Q o
def WS (C : Ctx) (s : CS) (E : Env) (Q : Out → Prop) : Prop := ∃ o, evS C s E = some o ∧ Q o
def cont (C : Ctx) (r : CB) (Q : Out → Prop) : Out → Prop
  | .nx E => WB C r E Q
  | .rt v E => Q (.rt v E)
  | .bk E => Q (.bk E)
  | .ct E => Q (.ct E)
variable {E : Env} {Q : Out → Prop}
theorem WB_nil : WB C .nil E Q = Q (.nx E) := by
  unfold WB; rw [evB]; simp
theorem WB_cons {s : CS} {r : CB} : WB C (.cons s r) E Q = WS C s E (cont C r Q) := by
  unfold WB WS
  rw [evB]
  cases evS C s E with
  | none => simp
  | some o => cases o <;> simp [cont, WB]
theorem WS_asg {t : Tg} {e : CE} : WS C (.asg t e) E Q = ∃ o, evS C (.asg t e) E = some o ∧ Q o := rfl
theorem WS_par {is : List Nat} {e : CEs} : WS C (.par is e) E Q = ∃ o, evS C (.par is e) E = some o ∧ Q o := rfl
theorem WS_aug {i : Nat} {op : O2} {e : CE} : WS C (.aug i op e) E Q = ∃ o, evS C (.aug i op e) E = some o ∧ Q o := rfl
theorem WS_augIx {i : Nat} {k : CE} {op : O2} {e : CE} : WS C (.augIx i k op e) E Q = ∃ o, evS C (.augIx i k op e) E = some o ∧ Q o := rfl
theorem WS_setIx {i : Nat} {k : CE} {e : CE} : WS C (.setIx i k e) E Q = ∃ o, evS C (.setIx i k e) E = some o ∧ Q o := rfl
theorem WS_ex {e : CE} : WS C (.ex e) E Q = ∃ o, evS C (.ex e) E = some o ∧ Q o := rfl
theorem WS_ret {e : CE} : WS C (.ret e) E Q = ∃ o, evS C (.ret e) E = some o ∧ Q o := rfl
theorem WS_retN : WS C .retN E Q = Q (.rt (.sh .non) E) := by unfold WS; rw [evS]; simp
theorem WS_brk : WS C .brk E Q = Q (.bk E) := by unfold WS; rw [evS]; simp
theorem WS_cnt : WS C .cnt E Q = Q (.ct E) := by unfold WS; rw [evS]; simp
theorem WS_pas : WS C .pas E Q = Q (.nx E) := by unfold WS; rw [evS]; simp
def iteT (C : Ctx) (a b : CB) (E1 : Env) (Q : Out → Prop) : Option Bool → Prop
  | some true => WB C a E1 Q
  | some false => WB C b E1 Q
  | none => False
def iteQ (C : Ctx) (a b : CB) (Q : Out → Prop) : Option (Rs × Env) → Prop
  | some (r, E1) => iteT C a b E1 Q ((E1.vw r).bind D.truth)
  | none => False
theorem WS_ite {c : CE} {a b : CB} : WS C (.ite c a b) E Q = iteQ C a b Q (evE C c E) := by
  unfold WS; rw [evS]
  cases evE C c E with
  | none => simp [iteQ]
  | some p =>
    obtain ⟨r, E1⟩ := p
    simp only [iteQ]
    cases (E1.vw r).bind D.truth with
    | none => simp [iteT]
    | some k => cases k <;> rfl
theorem iteQ_some {a b : CB} {r : Rs} {E1 : Env} : iteQ C a b Q (some (r, E1)) = iteT C a b E1 Q ((E1.vw r).bind D.truth) := rfl
theorem iteT_t {a b : CB} {E1 : Env} : iteT C a b E1 Q (some true) = WB C a E1 Q := rfl
theorem iteT_f {a b : CB} {E1 : Env} : iteT C a b E1 Q (some false) = WB C b E1 Q := rfl
theorem cont_nx {r : CB} {E1 : Env} : cont C r Q (.nx E1) = WB C r E1 Q := rfl
theorem cont_rt {r : CB} {E1 : Env} {v : Rs} : cont C r Q (.rt v E1) = Q (.rt v E1) := rfl
theorem cont_bk {r : CB} {E1 : Env} : cont C r Q (.bk E1) = Q (.bk E1) := rfl
theorem cont_ct {r : CB} {E1 : Env} : cont C r Q (.ct E1) = Q (.ct E1) := rfl
def Lp (Q : Out → Prop) (l : Option (Nat × Bool)) (J : Env → Prop) : Out → Prop
  | .nx E => J E
  | .ct E => J E
  | .rt v E => Q (.rt v (unlock E l))
  | .bk E => Q (.nx (unlock E l))
section
variable {l : Option (Nat × Bool)} {J : Env → Prop} {E1 : Env} {v : Rs}
theorem Lp_nx : Lp Q l J (.nx E1) = J E1 := rfl
theorem Lp_ct : Lp Q l J (.ct E1) = J E1 := rfl
theorem Lp_rt : Lp Q l J (.rt v E1) = Q (.rt v (unlock E1 l)) := rfl
theorem Lp_bk : Lp Q l J (.bk E1) = Q (.nx (unlock E1 l)) := rfl
end
def WT (C : Ctx) (t : Tg) (b : CB) (d : D) (E : Env) (Q : Out → Prop) : Prop := match bindT t d E with
  | some E2 => WB C b E2 Q
  | none => False
theorem WT_get {t : Tg} {b : CB} {d : D} (h : WT C t b d E Q) : ∃ E2, bindT t d E = some E2 ∧ WB C b E2 Q := by
  unfold WT at h
  cases hb : bindT t d E with
  | none => rw [hb] at h; exact h.elim
  | some E2 => rw [hb] at h; exact ⟨E2, rfl, h⟩
theorem ws_for {α : Type} {t : Tg} {it : IT} {b : CB} (e : α → D) (xs : List α) {I : List α → Env → Prop} {l : Option (Nat × Bool)} {E1 : Env} (h : evI C it E = some (xs.map e, l, E1)) (hI : I [] E1)
    (step : ∀ pre x post E', xs = pre ++ x :: post → I pre E' → WT C t b (e x) E' (Lp Q l (I (pre ++ [x])))) (fin : ∀ E', I xs E' → Q (.nx (unlock E' l))) : WS C (.for t it b) E Q := by
  have k : ∀ (post pre : List α) (E' : Env), xs = pre ++ post → I pre E' → ∃ o, forL (fun d E' => match bindT t d E' with
          | some E2 => evB C b E2
          | none => none) (post.map e) E' = some o ∧ Q (mapOut (fun E2 => unlock E2 l) o) := by
    intro post
    induction post with
    | nil => intro pre E' hx hI; simp at hx; subst hx; exact ⟨.nx E', rfl, fin E' hI⟩
    | cons x post ih =>
      intro pre E' hx hI
      obtain ⟨E2, hb, o, h1, h2⟩ := WT_get (step pre x post E' hx hI)
      rw [List.map_cons, forL]
      simp only [hb, h1]
      cases o with
      | nx E3 => exact ih (pre ++ [x]) E3 (by rw [hx]; simp) h2
      | ct E3 => exact ih (pre ++ [x]) E3 (by rw [hx]; simp) h2
      | rt v E3 => exact ⟨_, rfl, h2⟩
      | bk E3 => exact ⟨_, rfl, h2⟩
  obtain ⟨o, k1, k2⟩ := k xs [] E1 rfl hI
  unfold WS
  rw [evS, h]
  exact ⟨_, congrArg (fun z : Option Out => match z with
    | some o => some (mapOut (fun E2 => unlock E2 l) o)
    | none => none) k1, k2⟩
def Lw (Q : Out → Prop) (n : Nat) (I : Nat → Env → Prop) : Out → Prop
  | .nx E => ∃ m, m < n ∧ I m E
  | .ct E => ∃ m, m < n ∧ I m E
  | .rt v E => Q (.rt v E)
  | .bk E => Q (.nx E)
section
variable {n : Nat} {I : Nat → Env → Prop} {E1 : Env} {v : Rs}
theorem Lw_nx : Lw Q n I (.nx E1) = ∃ m, m < n ∧ I m E1 := rfl
theorem Lw_ct : Lw Q n I (.ct E1) = ∃ m, m < n ∧ I m E1 := rfl
theorem Lw_rt : Lw Q n I (.rt v E1) = Q (.rt v E1) := rfl
theorem Lw_bk : Lw Q n I (.bk E1) = Q (.nx E1) := rfl
end
theorem ws_whl {c : CE} {b : CB} {I : Nat → Env → Prop} {n : Nat} (hI : I n E) (step : ∀ n E', I n E' → ∃ r E1 k, evE C c E' = some (r, E1) ∧ (E1.vw r).bind D.truth = some k ∧ (k = true → WB C b E1 (Lw Q n I)) ∧ (k = false → Q (.nx E1))) : WS C (.whl c b) E Q := by
  have k : ∀ n E', I n E' → ∃ o N, whlN (fun E' => match evE C c E' with
      | some (r, E1) => (match (E1.vw r).bind D.truth with
        | some k => some (k, E1)
        | none => none)
      | none => none) (fun E' => evB C b E') N E' = some o ∧ Q o := by
    intro n
    induction n using Nat.strongRecOn with
    | ind n ih =>
      intro E' hI
      obtain ⟨r, E1, k, h1, h2, h3, h4⟩ := step n E' hI
      cases k with
      | false => exact ⟨.nx E1, 1, by simp [whlN, h1, h2], h4 rfl⟩
      | true =>
        obtain ⟨o, g1, g2⟩ := h3 rfl
        cases o with
        | nx E2 =>
          obtain ⟨m, hm, hI2⟩ := g2
          obtain ⟨o, N, k1, k2⟩ := ih m hm E2 hI2
          exact ⟨o, N + 1, by simp [whlN, h1, h2, g1, k1], k2⟩
        | ct E2 =>
          obtain ⟨m, hm, hI2⟩ := g2
          obtain ⟨o, N, k1, k2⟩ := ih m hm E2 hI2
          exact ⟨o, N + 1, by simp [whlN, h1, h2, g1, k1], k2⟩
        | rt v E2 => exact ⟨_, 1, by simp [whlN, h1, h2, g1], g2⟩
        | bk E2 => exact ⟨_, 1, by simp [whlN, h1, h2, g1], g2⟩
  obtain ⟨o, N, k1, k2⟩ := k n E hI
  refine ⟨o, ?_, k2⟩
  rw [evS]
  exact whl_of k1
end
/-! ### what a call comes to -/
def Done (np : Nat) (P : Rs → List Sl → Prop) : Out → Prop
  | .rt r E => ∃ r' ss, giveD E r = some r' ∧ finsD E np = some ss ∧ P r' ss
  | .nx E => ∃ ss, finsD E np = some ss ∧ P (.sh .non) ss
  | _ => False
section
variable {np : Nat} {P : Rs → List Sl → Prop} {E : Env}
theorem Done_rt {r : Rs} : Done np P (.rt r E) = ∃ r' ss, giveD E r = some r' ∧ finsD E np = some ss ∧ P r' ss := rfl
theorem Done_nx : Done np P (.nx E) = ∃ ss, finsD E np = some ss ∧ P (.sh .non) ss := rfl
theorem giveD_sh {d : D} : giveD E (.sh d) = some (.sh d) := rfl
theorem giveD_ow {d : D} : giveD E (.ow d) = some (.ow d) := rfl
theorem giveD_pk {i : Nat} : giveD E (.pk i) = if E.ro.contains i then none else (match E.get i with
    | .ow d => some (.ow d)
    | .sh d => some (.sh d)
    | _ => none) := rfl
theorem nlk_un : Sl.nlk .un = true := rfl
theorem nlk_sh {d : D} : Sl.nlk (.sh d) = true := rfl
theorem nlk_ow {d : D} : Sl.nlk (.ow d) = true := rfl
theorem nlk_lk {d : D} : Sl.nlk (.lk d) = false := rfl
end
section
variable {T : Str → Option Fn} {G : Str → Option D} {fn : Fn} {f : Str} {as : List (Bool × D)} {n : Nat} {E0 : Env}
theorem run_wb {P : Rs → List Sl → Prop} (h : T f = some fn) (h0 : entry fn as = E0) (h1 : (decide (as.length = fn.np) && decide (as.map (·.1) = fn.io) && decide (fn.np ≤ fn.nl)) = true) (h2 : WB (ctxOf T G n) fn.code E0 (Done fn.np P)) :
    ∃ r ss, run T G (n + 1) f as = some (r, ss) ∧ P r ss := by
  simp only [Bool.and_eq_true, decide_eq_true_eq] at h1
  subst h0
  obtain ⟨o, k1, k2⟩ := h2
  unfold run
  simp only [h]
  rw [if_pos ⟨h1.1.1, h1.1.2, h1.2⟩]
  have k1 : evB { call := run T G n, io := fun g => ((T g).map (·.io)).getD [], glo := G } fn.code (entry fn as) = some o := k1
  rw [k1]
  cases o with
  | rt r E => obtain ⟨r', ss, g1, g2, g3⟩ := k2; simp only [g1, g2]; exact ⟨r', ss, rfl, g3⟩
  | nx E => obtain ⟨ss, g2, g3⟩ := k2; simp only [g2]; exact ⟨_, ss, rfl, g3⟩
  | bk E => exact k2.elim
  | ct E => exact k2.elim
theorem run_eq {r0 : Rs} {ss0 : List Sl} (h : T f = some fn) (h0 : entry fn as = E0) (h1 : (decide (as.length = fn.np) && decide (as.map (·.1) = fn.io) && decide (fn.np ≤ fn.nl)) = true) (h2 : WB (ctxOf T G n) fn.code E0 (Done fn.np fun r ss => r = r0 ∧ ss = ss0)) :
    run T G (n + 1) f as = some (r0, ss0) := by
  obtain ⟨r, ss, k, rfl, rfl⟩ := run_wb h h0 h1 h2
  exact k
end
theorem rg0 : List.range 0 = [] := rfl
theorem rg1 : List.range 1 = [0] := rfl
theorem rg2 : List.range 2 = [0, 1] := rfl
theorem rg3 : List.range 3 = [0, 1, 2] := rfl
theorem rg4 : List.range 4 = [0, 1, 2, 3] := rfl
theorem rg5 : List.range 5 = [0, 1, 2, 3, 4] := rfl
theorem rg6 : List.range 6 = [0, 1, 2, 3, 4, 5] := rfl
/-! ### comprehensions -/
section
variable {C : Ctx} {E E1 E' : Env} {own : List Nat} {e : CE} {t : Tg} {it : IT} {cs : CEs} {l : Option (Nat × Bool)} {α : Type}
theorem cmp_filter (ee g : α → D) (p : α → Bool) (xs : List α) (h : evI C it E = some (xs.map ee, l, E1)) (h1 : (lkFree own l && ownOk E1 own) = true) (h2 : ∀ x ∈ xs, turnF t (evT C cs) (evE C e) own (ee x) (wipeE E1 own) = some (if p x = true then some (g x) else none, wipeE E1 own)) (hl : xs.length ≤ bigLine)
    (h3 : unlock (back E1 (wipeE E1 own) own) l = E') : evE C (.cmp e (.mk t it cs) own) E = some (.ow (.lst ((xs.filter p).map g)), E') := by
  rw [evE, h]
  simp only [h1, if_true]
  rw [cmpL_filter ee g p xs [] h2 (by simpa using hl)]
  simp only [List.nil_append, h3]
theorem cmp_map (ee g : α → D) (xs : List α) (h : evI C it E = some (xs.map ee, l, E1)) (h1 : (lkFree own l && ownOk E1 own) = true) (h2 : ∀ x ∈ xs, turnF t (evT C cs) (evE C e) own (ee x) (wipeE E1 own) = some (some (g x), wipeE E1 own)) (hl : xs.length ≤ bigLine)
    (h3 : unlock (back E1 (wipeE E1 own) own) l = E') : evE C (.cmp e (.mk t it cs) own) E = some (.ow (.lst (xs.map g)), E') := by
  rw [evE, h]
  simp only [h1, if_true]
  rw [cmpL_map ee g xs [] h2 (by simpa using hl)]
  simp only [List.nil_append, h3]
variable {i : Nat} {d : D}
theorem cmpV_filter (ee g : α → D) (p : α → Bool) (xs : List α) (h0 : dictAt E i = none) (h : lockVar E i = some (d, l, E1)) (hs : seqD d = some (xs.map ee)) (h1 : (lkFree own l && ownOk E1 own) = true) (h2 : ∀ x ∈ xs, turnF t (evT C cs) (evE C e) own (ee x) (wipeE E1 own) = some (if p x = true then some (g x) else none, wipeE E1 own)) (hl : xs.length ≤ bigLine)
    (h3 : unlock (back E1 (wipeE E1 own) own) l = E') : evE C (.cmpV e t i cs own) E = some (.ow (.lst ((xs.filter p).map g)), E') := by
  rw [evE, h0]
  simp only [h, hs, h1, if_true]
  rw [cmpL_filter ee g p xs [] h2 (by simpa using hl)]
  simp only [List.nil_append, h3]
theorem cmpV_map (ee g : α → D) (xs : List α) (h0 : dictAt E i = none) (h : lockVar E i = some (d, l, E1)) (hs : seqD d = some (xs.map ee)) (h1 : (lkFree own l && ownOk E1 own) = true) (h2 : ∀ x ∈ xs, turnF t (evT C cs) (evE C e) own (ee x) (wipeE E1 own) = some (some (g x), wipeE E1 own)) (hl : xs.length ≤ bigLine)
    (h3 : unlock (back E1 (wipeE E1 own) own) l = E') : evE C (.cmpV e t i cs own) E = some (.ow (.lst (xs.map g)), E') := by
  rw [evE, h0]
  simp only [h, hs, h1, if_true]
  rw [cmpL_map ee g xs [] h2 (by simpa using hl)]
  simp only [List.nil_append, h3]
/-- over a dict's keys -/
theorem cmpD_map {kvs : List (DKey × D)} (g : DKey × D → D) (h0 : dictAt E i = some kvs) (h1 : ownOk (hide E i) own = true) (h2 : ∀ x ∈ kvs, turnF t (evT C cs) (evE C e) own x.1.d (wipeE (hide E i) own) = some (some (g x), wipeE (hide E i) own)) (hl : kvs.length ≤ bigLine)
    (h3 : unhide (back (hide E i) (wipeE (hide E i) own) own) i (.dct false kvs) E.ro = E') : evE C (.cmpV e t i cs own) E = some (.ow (.lst (kvs.map g)), E') := by
  rw [evE, h0]
  simp only [h1, if_true]
  rw [cmpL_map (fun kv : DKey × D => kv.1.d) g kvs [] h2 (by simpa using hl)]
  simp only [List.nil_append, h3]
theorem cmpD_filter {kvs : List (DKey × D)} (g : DKey × D → D) (p : DKey × D → Bool) (h0 : dictAt E i = some kvs) (h1 : ownOk (hide E i) own = true) (h2 : ∀ x ∈ kvs, turnF t (evT C cs) (evE C e) own x.1.d (wipeE (hide E i) own) = some (if p x = true then some (g x) else none, wipeE (hide E i) own)) (hl : kvs.length ≤ bigLine)
    (h3 : unhide (back (hide E i) (wipeE (hide E i) own) own) i (.dct false kvs) E.ro = E') : evE C (.cmpV e t i cs own) E = some (.ow (.lst ((kvs.filter p).map g)), E') := by
  rw [evE, h0]
  simp only [h1, if_true]
  rw [cmpL_filter (fun kv : DKey × D => kv.1.d) g p kvs [] h2 (by simpa using hl)]
  simp only [List.nil_append, h3]
/-- a comprehension that changes what is about: what holds all along -/
theorem cmp_inv (ee : α → D) (xs : List α) {I : Env → Prop} {R : D → Prop} (h : evI C it E = some (xs.map ee, l, E1)) (h1 : (lkFree own l && ownOk E1 own) = true) (hI : I (wipeE E1 own)) (h2 : ∀ x ∈ xs, ∀ E2, I E2 → ∃ d E3, turnF t (evT C cs) (evE C e) own (ee x) E2 = some (some d, E3) ∧ I E3 ∧ R d) (hl : xs.length ≤ bigLine) :
    ∃ out E3, evE C (.cmp e (.mk t it cs) own) E = some (.ow (.lst out), unlock (back E1 E3 own) l) ∧ I E3 ∧ (∀ d ∈ out, R d) ∧ out.length = xs.length := by
  obtain ⟨out, E3, k1, k2, k3, k4⟩ := cmpL_inv (f := turnF t (evT C cs) (evE C e) own) (I := I) (Q := R) ee xs [] (wipeE E1 own) hI h2 (by simpa using hl)
  refine ⟨out, E3, ?_, k2, k3, k4⟩
  rw [evE, h]
  simp only [h1, if_true]
  rw [k1]; rfl
end
section
variable {C : Ctx} {E E1 E' : Env} {own : List Nat} {e : CE} {t t2 : Tg} {it it2 : IT} {cs2 : CEs} {l : Option (Nat × Bool)} {α β : Type}
theorem cmp2_flat (ee : α → D) (gg : α → List β) (e' g' : β → D) (xs : List α) (h : evI C it E = some (xs.map ee, l, E1)) (h1 : (lkFree own l && ownOk E1 own) = true)
    (h2 : ∀ x ∈ xs, ∃ E2 E4, bindT t (ee x) (wipeE E1 own) = some E2 ∧ evI C it2 E2 = some ((gg x).map e', none, E4) ∧ (∀ y ∈ gg x, turnF t2 (evT C cs2) (evE C e) t2.slots (e' y) (wipeE E4 t2.slots) = some (some (g' y), wipeE E4 t2.slots)) ∧ wipeE (wipeE E4 t2.slots) own = wipeE E1 own)
    (hl : (xs.flatMap gg).length ≤ bigLine) (h3 : unlock (back E1 (wipeE E1 own) own) l = E') : evE C (.cmp2 e (.mk t it .nil) (.mk t2 it2 cs2) own) E = some (.ow (.lst ((xs.flatMap gg).map g')), E') := by
  rw [evE, h]
  simp only [h1, if_true]
  rw [cmpLL_flat (E := wipeE E1 own) ee gg g' xs [] (fun x hx acc ha => ?_) (by simpa using hl)]
  · simp only [List.nil_append, h3]
  · obtain ⟨E2, E4, k1, k2, k3, k4⟩ := h2 x hx
    unfold turnO
    rw [k1]
    simp only [evT, k2, lkFree, if_true]
    rw [cmpL_map e' g' (gg x) acc k3 ha]
    simp only [show ∀ X, unlock X none = X from fun _ => rfl, k4]
end
theorem rngD_nat {n : Nat} (h : n ≤ 16777216) : rngD 0 (n : Int) 1 = some ((List.range n).map fun (k : Nat) => D.int k) := by
  unfold rngD
  rw [if_pos (by omega), if_pos rfl]
  simp
theorem evI_rng {C : Ctx} {a : CE} {E E1 : Env} {n : Nat} (h : evE C a E = some (.sh (.int (n : Int)), E1)) (hn : n ≤ 16777216) : evI C (.rng1 a) E = some ((List.range n).map fun (k : Nat) => D.int k, none, E1) := by
  rw [evI, h]
  simp [Env.vw, rngD_nat hn]
theorem run_nx {T : Str → Option Fn} {G : Str → Option D} {fn : Fn} {f : Str} {as : List (Bool × D)} {n : Nat} {E0 E : Env} {ss : List Sl} (h : T f = some fn) (h0 : entry fn as = E0) (h1 : (decide (as.length = fn.np) && decide (as.map (·.1) = fn.io) && decide (fn.np ≤ fn.nl)) = true)
    (h2 : evB (ctxOf T G n) fn.code E0 = some (.nx E)) (h4 : finsD E fn.np = some ss) : run T G (n + 1) f as = some (.sh .non, ss) := by
  simp only [Bool.and_eq_true, decide_eq_true_eq] at h1
  subst h0
  unfold run
  simp only [h]
  rw [if_pos ⟨h1.1.1, h1.1.2, h1.2⟩]
  show (match evB (ctxOf T G n) fn.code (entry fn as) with
    | some (.rt r E) => _
    | some (.nx E) => _
    | _ => none) = _
  rw [h2]
  simp only [h4]
end Fi
end

section
set_option maxRecDepth 100000
set_option maxHeartbeats 4000000
/-! FiY: the laws' own helpers: draws, next, pick, same. Own work. -/
namespace Fi
open PySem L2
local macro_rules | `(tactic| walk_at "fi") => `(tactic| simp [WB_cons, WB_nil, WS_asg, WS_par, WS_aug, WS_augIx, WS_setIx, WS_ex, WS_ret, WS_retN, WS_brk, WS_cnt, WS_pas, WS_ite, iteQ_some, iteT_t, iteT_f, cont_nx, cont_rt, cont_bk, cont_ct, Lp_nx, Lp_ct, Lp_rt, Lp_bk, Lw_nx, Lw_ct, Lw_rt, Lw_bk, WT, Done_rt, Done_nx, giveD_sh, giveD_ow, giveD_pk, finsD, rg0, rg1, rg2, rg3, rg4, rg5, rg6, evS, evE, evEs, evO, evT, evI, Env.get, Env.put, Env.vw, Env.rd, Env.tk, Env.tks, Env.free, Rs.fz, op2D, addD, subD, mulD, fdivD, modD, powD, cmpA, ordD, nlk_un, nlk_sh, nlk_ow, nlk_lk, isD, iopD, iaddD, inopD, iaddI, op1D, PR.rs, D.truth, D.len, ixD, ix, partD, cutD, revD, lenB, absB, intB, tupleB, listB, anyB, allB, isinstB, bltD, getB, mthD, mthTy, appendB, extendB, popB, mutD, mutTy, setD, D.key, DKey.ok, tyNames, D.tyName, tySub, lock, unlock, lkFree, seqD, puts, bindT, Tg.slots, wipeE, back, argsOf, lent, lentOk, Ar.pass, behind, dk_ss, dk_ii, dk_si, dk_is, bigLine, ownOk, mapOut, turnF, dictAt, lockVar, hide, unhide, bls, inD, D.isNon, List.lookup, ctx_call, *])
theorem eqv_bl (a b : Bool) : D.eqv (.bl a) (.bl b) = some (decide (a = b)) := by
  cases a <;> cases b <;> rfl
theorem eqv_non : D.eqv .non .non = some true := rfl
/-! ### the dict w -/
def Wd (ds : List Int) (i : Nat) (rest : List (DKey × D)) : D := .dct false ((kDraws, .lst (ds.map .int)) :: (kAt, .int i) :: rest)
theorem kput_at {rest : List (DKey × D)} (h : ∀ kv ∈ rest, kv.1 ≠ kAt) (a b d : D) : kput kAt d ((kDraws, a) :: (kAt, b) :: rest) = (kDraws, a) :: (kAt, d) :: rest := by
  unfold kput
  rw [if_pos (by simp)]
  have : rest.map (fun kv => if kv.1 = kAt then (kv.1, d) else kv) = rest := by
    have h2 : ∀ l : List (DKey × D), (∀ kv ∈ l, kv.1 ≠ kAt) → l.map (fun kv => if kv.1 = kAt then (kv.1, d) else kv) = l := by
      intro l
      induction l with
      | nil => intro _; rfl
      | cons x l ih => intro h; rw [List.map_cons, if_neg (h x (by simp)), ih fun y hy => h y (by simp [hy])]
    exact h2 rest h
  rw [List.map_cons, List.map_cons, this]
  rfl
theorem kget_at (a b : D) (rest : List (DKey × D)) : kget kAt ((kDraws, a) :: (kAt, b) :: rest) = some b := rfl
theorem kget_draws (a b : D) (rest : List (DKey × D)) : kget kDraws ((kDraws, a) :: (kAt, b) :: rest) = some a := rfl
def OkRest (rest : List (DKey × D)) : Prop := (∀ kv ∈ rest, kv.1 ≠ kAt) ∧ rest.length < 1000
theorem nxt_le {ds : List Int} {i : Nat} {m : Int} (h : 0 < m) : 0 ≤ nxt ds i m ∧ nxt ds i m < m := by
  unfold nxt
  split
  · exact ⟨Int.fmod_nonneg_of_pos _ h, Int.fmod_lt_of_pos _ h⟩
  · omega
section
variable {T : Str → Option Fn} {G : Str → Option D}
theorem run_next (hT : T "_law_next" = some f_law_next) (n : Nat) (ds : List Int) (i : Nat) {rest : List (DKey × D)} (hr : OkRest rest) (m : Int) (hm : 0 < m) :
    run T G (n + 1) "_law_next" [(true, Wd ds i rest), (false, .int m)] = some (.sh (.int (nxt ds i m)), [.ow (Wd ds (i + 1) rest), .sh (.int m)]) := by
  refine run_eq (fn := f_law_next) (E0 := ⟨[.ow (Wd ds i rest), .sh (.int m)], [0]⟩) hT rfl rfl ?_
  have k1 : ∀ d, kput (.s [97, 116]) d ((kDraws, .lst (ds.map .int)) :: (kAt, .int i) :: rest) = (kDraws, .lst (ds.map .int)) :: (kAt, d) :: rest := fun d => kput_at hr.1 _ _ d
  have k2 : ∀ b, kget (.s [97, 116]) ((kDraws, .lst (ds.map .int)) :: (kAt, b) :: rest) = some b := fun b => kget_at _ b _
  have k3 : ∀ b, kget (.s [100, 114, 97, 119, 115]) ((kDraws, .lst (ds.map .int)) :: (kAt, b) :: rest) = some (.lst (ds.map .int)) := fun b => kget_draws _ b _
  have hl : rest.length + 1 + 1 < 16777216 := by have := hr.2; omega
  have h2 : m ≠ 0 := by omega
  unfold f_law_next c_law_next Wd
  by_cases h : i < ds.length
  · have e : ds[i]? = some ds[i] := List.getElem?_eq_getElem h
    have h1 : ¬ ((ds.length : Int) < (i : Int) + 1) := by omega
    have hn : nxt ds i m = (ds[i]).fmod m := by unfold nxt; rw [e]
    walk_at "fi"
  · have h1 : (ds.length : Int) < (i : Int) + 1 := by omega
    have hn : nxt ds i m = 0 := by unfold nxt; rw [List.getElem?_eq_none (by omega)]
    walk_at "fi"
def c_law_pick : CB := (.cons (.ret (.idx (.var 1) (.call "_law_next" (.cons (.var 0) (.cons (.blt .len (.cons (.var 1) .nil)) .nil))))) .nil)
def f_law_pick : Fn := ⟨2, 2, [true, false], c_law_pick⟩
/-- which of so many rows is picked -/
def pickAt (ds : List Int) (i n : Nat) : Nat := (nxt ds i n).toNat
theorem pickAt_lt {ds : List Int} {i n : Nat} (h : 0 < n) : pickAt ds i n < n := by
  have := nxt_le (ds := ds) (i := i) (m := n) (by omega)
  unfold pickAt; omega
theorem run_pick (hN : T "_law_next" = some f_law_next) (hT : T "_law_pick" = some f_law_pick) (n : Nat) (ds : List Int) (i : Nat) {rest : List (DKey × D)} (hr : OkRest rest) (xs : List D) (h : xs ≠ []) :
    ∃ x, xs[pickAt ds i xs.length]? = some x ∧ run T G (n + 2) "_law_pick" [(true, Wd ds i rest), (false, .lst xs)] = some (.sh x, [.ow (Wd ds (i + 1) rest), .sh (.lst xs)]) := by
  have hl : 0 < xs.length := List.length_pos_iff.mpr h
  have hp := pickAt_lt (ds := ds) (i := i) hl
  refine ⟨_, List.getElem?_eq_getElem hp, ?_⟩
  refine run_eq (fn := f_law_pick) (E0 := ⟨[.ow (Wd ds i rest), .sh (.lst xs)], [0]⟩) hT rfl rfl ?_
  have hb := nxt_le (ds := ds) (i := i) (m := xs.length) (by omega)
  have hn := run_next (G := G) hN n ds i hr (xs.length : Int) (by omega)
  have hio : (ctxOf T G (n + 1)).io "_law_next" = [true, false] := by
    show ((T _).map (·.io)).getD [] = _
    rw [hN]; rfl
  have h1 : (0 : Int) ≤ nxt ds i xs.length := hb.1
  have h2 : nxt ds i (xs.length : Int) < (xs.length : Int) := hb.2
  have h3 : xs[(nxt ds i (xs.length : Int)).toNat]? = some xs[pickAt ds i xs.length] := List.getElem?_eq_getElem hp
  unfold f_law_pick c_law_pick
  walk_at "fi"
  rfl
/-! ### the draws -/
theorem cut_toI {α : Type} (t : List α) (i : Nat) : cut t none (some (i : Int)) = t.take i := by
  unfold cut cutAt
  have h1 : ¬ ((i : Int) < 0) := by omega
  simp only [if_neg h1, List.drop_zero, Nat.sub_zero]
  rw [show (i : Int).toNat = i by omega]
  by_cases h : i ≤ t.length
  · rw [Nat.min_eq_left h]
  · rw [Nat.min_eq_right (by omega), List.take_length, List.take_of_length_le (by omega)]
def b1_law_draws : CB := (.cons (.asg (.nm 3) (.op2 .mod (.blt .int (.cons (.op2 .add (.op2 .add (.op2 .mul (.var 3) (.con (.int 16807))) (.var 4)) (.con (.int 1))) .nil)) (.con (.int 65537)))) (.cons (.ex (.mut .append 2 (.cons (.op2 .mod (.blt .int (.cons (.var 3) .nil)) (.con (.int 997))) .nil))) .nil))
def b2_law_draws : CB := (.cons (.ite (.op2 .gt (.var 6) (.con (.int 0))) (.cons (.ex (.mut .append 2 (.cons (.op2 .mod (.blt .int (.cons (.var 6) .nil)) (.con (.int 997))) .nil))) (.cons (.asg (.nm 6) (.op2 .fdiv (.var 6) (.con (.int 997)))) .nil)) .nil) .nil)
def b3_law_draws : CB := (.cons (.asg (.nm 5) (.blt .abs (.cons (.blt .int (.cons (.idx (.var 0) (.var 4)) .nil)) .nil))) (.cons (.asg (.nm 3) (.op2 .mod (.blt .int (.cons (.op2 .add (.op2 .add (.op2 .mul (.var 3) (.con (.int 48271))) (.op2 .mod (.var 5) (.con (.int 1000003)))) (.var 4)) .nil)) (.con (.int 65537)))) (.cons (.asg (.nm 6) (.con (.int 0))) (.cons (.ite (.op2 .ge (.var 5) (.op2 .pow (.con (.int 10)) (.con (.int 18)))) (.cons (.asg (.nm 6) (.var 5)) .nil) (.cons (.ex (.mut .append 2 (.cons (.op2 .mod (.blt .int (.cons (.var 5) .nil)) (.con (.int 997))) .nil))) (.cons (.ex (.mut .append 2 (.cons (.op2 .mod (.op2 .mod (.blt .int (.cons (.op2 .add (.op2 .mul (.var 3) (.con (.int 69621))) (.con (.int 5))) .nil)) (.con (.int 65521))) (.con (.int 997))) .nil))) .nil))) (.cons (.for (.nm 7) (.rng1 (.con (.int 60))) b2_law_draws) .nil)))))
def c_law_draws : CB := (.cons (.asg (.nm 2) (.lst .nil)) (.cons (.asg (.nm 3) (.con (.int 7))) (.cons (.for (.nm 4) (.rng1 (.blt .len (.cons (.var 0) .nil))) b3_law_draws) (.cons (.for (.nm 4) (.rng1 (.var 1)) b1_law_draws) (.cons (.ret (.cut (.var 2) .no (.so (.var 1)))) .nil)))))
def f_law_draws : Fn := ⟨2, 8, [false, false], c_law_draws⟩
theorem run_draws (hT : T "_law_draws" = some f_law_draws) (n : Nat) (ns : List Int) (m : Nat) (hns : ns.length ≤ 63) (hm : m ≤ 100000) :
    ∃ ds : List Int, run T G (n + 1) "_law_draws" [(false, .scr ns), (false, .int m)] = some (.ow (.lst (ds.map .int)), [.sh (.scr ns), .sh (.int m)]) := by
  have key : ∃ r ss, run T G (n + 1) "_law_draws" [(false, .scr ns), (false, .int m)] = some (r, ss) ∧ ((∃ ds : List Int, r = .ow (.lst (ds.map .int))) ∧ ss = [.sh (.scr ns), .sh (.int m)]) := by
    refine run_wb (fn := f_law_draws) (E0 := ⟨[.sh (.scr ns), .sh (.int m), .un, .un, .un, .un, .un, .un], []⟩) (P := fun r ss => (∃ ds : List Int, r = .ow (.lst (ds.map .int))) ∧ ss = [.sh (.scr ns), .sh (.int m)]) hT rfl rfl ?_
    unfold f_law_draws c_law_draws
    walk_at "fi"
    refine ws_for (fun (k : Nat) => D.int k) (List.range ns.length) (I := fun pre E' => ∃ (ds : List Int) (z : Int) (j4 j5 j6 j7 : Sl), E' = ⟨[.sh (.scr ns), .sh (.int m), .ow (.lst (ds.map .int)), .sh (.int z), j4, j5, j6, j7], []⟩ ∧ ds.length ≤ 100 * pre.length ∧ j4.nlk = true ∧ j5.nlk = true ∧ j6.nlk = true ∧ j7.nlk = true) (l := none) (E1 := ⟨[.sh (.scr ns), .sh (.int m), .ow (.lst []), .sh (.int 7), .un, .un, .un, .un], []⟩)
      (evI_rng (n := ns.length) (by walk_at "fi") (by omega)) ⟨[], 7, .un, .un, .un, .un, rfl, by simp, rfl, rfl, rfl, rfl⟩ ?_ ?_
    · rintro pre k post E hx ⟨ds, z, j4, j5, j6, j7, rfl, hd, h4, h5, h6, h7⟩
      have hk : k < ns.length := by
        have : k ∈ List.range ns.length := by rw [hx]; simp
        simpa using this
      have hpl : pre.length < 63 := by have := congrArg List.length hx; simp at this; omega
      have hg : ns[k]? = some ns[k] := List.getElem?_eq_getElem hk
      have hpow : ((10 : Int) ^ (18 : Nat)) = 1000000000000000000 := by decide
      have tail : ∀ (ds2 : List Int) (z2 c r : Int), ds2.length ≤ ds.length + 2 → WS (ctxOf T G n) (.for (.nm 7) (.rng1 (.con (.int 60))) b2_law_draws) ⟨[.sh (.scr ns), .sh (.int m), .ow (.lst (ds2.map .int)), .sh (.int z2), .sh (.int k), .sh (.int c), .sh (.int r), j7], []⟩
          (cont (ctxOf T G n) .nil (Lp (cont (ctxOf T G n) (.cons (.for (.nm 4) (.rng1 (.var 1)) b1_law_draws) (.cons (.ret (.cut (.var 2) .no (.so (.var 1)))) .nil)) (Done 2 fun r ss => (∃ ds : List Int, r = .ow (.lst (ds.map .int))) ∧ ss = [.sh (.scr ns), .sh (.int m)])) none (fun E' => ∃ (ds : List Int) (z : Int) (j4 j5 j6 j7 : Sl), E' = ⟨[.sh (.scr ns), .sh (.int m), .ow (.lst (ds.map .int)), .sh (.int z), j4, j5, j6, j7], []⟩ ∧ ds.length ≤ 100 * (pre.length + 1) ∧ j4.nlk = true ∧ j5.nlk = true ∧ j6.nlk = true ∧ j7.nlk = true))) := by
        intro ds2 z2 c r hd2
        refine ws_for (fun (k : Nat) => D.int k) (List.range 60) (I := fun pre' E' => ∃ (ds3 : List Int) (r : Int) (j7 : Sl), E' = ⟨[.sh (.scr ns), .sh (.int m), .ow (.lst (ds3.map .int)), .sh (.int z2), .sh (.int k), .sh (.int c), .sh (.int r), j7], []⟩ ∧ ds3.length ≤ ds2.length + pre'.length ∧ j7.nlk = true) (l := none) (E1 := ⟨[.sh (.scr ns), .sh (.int m), .ow (.lst (ds2.map .int)), .sh (.int z2), .sh (.int k), .sh (.int c), .sh (.int r), j7], []⟩)
          (evI_rng (n := 60) (by walk_at "fi") (by omega)) ⟨ds2, r, j7, rfl, by simp, h7⟩ ?_ ?_
        · rintro pre' k' post' E hx' ⟨ds3, r, j7, rfl, hd3, h7⟩
          have hpl' : pre'.length < 60 := by have := congrArg List.length hx'; simp at this; omega
          have hl3 : ds3.length < 16777216 := by omega
          unfold b2_law_draws
          by_cases hr : 0 < r
          · walk_at "fi"
            exact ⟨ds3 ++ [r.fmod 997], _, _, ⟨by simp, rfl, rfl⟩, by simp; omega, rfl⟩
          · walk_at "fi"
            exact ⟨ds3, _, _, ⟨rfl, rfl, rfl⟩, by omega, rfl⟩
        · rintro E' ⟨ds3, r, j7, rfl, hd3, h7⟩
          have h2 : ds3.length ≤ 100 * (pre.length + 1) := by simp at hd3 ⊢; omega
          simp only [cont_nx, WB_nil, Lp_nx]
          exact ⟨ds3, z2, _, _, _, j7, rfl, h2, rfl, rfl, rfl, h7⟩
      have hl : ds.length + 2 < 16777216 := by omega
      have hl1 : ds.length < 16777216 := by omega
      have hl2 : ds.length + 1 < 16777216 := by omega
      unfold b3_law_draws
      generalize hc : (if ns[k] < 0 then -ns[k] else ns[k]) = c
      by_cases h18 : 1000000000000000000 ≤ c
      · have hz : ds.length ≤ ds.length + 2 := by omega
        walk_at "fi"
      · walk_at "fi"
        have t1 := tail (ds ++ [c.fmod 997, (((z * 48271 + c.fmod 1000003 + ↑k).fmod 65537 * 69621 + 5).fmod 65521).fmod 997]) ((z * 48271 + c.fmod 1000003 + ↑k).fmod 65537) c 0 (by simp)
        rw [List.map_append] at t1
        exact t1
    · rintro E' ⟨ds, z, j4, j5, j6, j7, rfl, hd, h4, h5, h6, h7⟩
      rw [show ∀ X, unlock X none = X from fun _ => rfl, cont_nx, WB_cons]
      have hd : ds.length ≤ 6300 := by simp at hd; omega
      refine ws_for (fun (k : Nat) => D.int k) (List.range m) (I := fun pre' E' => ∃ (ds3 : List Int) (z : Int) (j4 : Sl), E' = ⟨[.sh (.scr ns), .sh (.int m), .ow (.lst (ds3.map .int)), .sh (.int z), j4, j5, j6, j7], []⟩ ∧ ds3.length ≤ ds.length + pre'.length ∧ j4.nlk = true) (l := none) (E1 := ⟨[.sh (.scr ns), .sh (.int m), .ow (.lst (ds.map .int)), .sh (.int z), j4, j5, j6, j7], []⟩)
          (evI_rng (n := m) (by walk_at "fi") (by omega)) ⟨ds, z, j4, rfl, by simp, h4⟩ ?_ ?_
      · rintro pre' k' post' E hx' ⟨ds3, z3, j4, rfl, hd3, h4⟩
        have hpl' : pre'.length < m := by have := congrArg List.length hx'; simp at this; omega
        have hl3 : ds3.length < 16777216 := by omega
        unfold b1_law_draws
        walk_at "fi"
        exact ⟨ds3 ++ [((z3 * 16807 + k' + 1).fmod 65537).fmod 997], _, _, ⟨by simp, rfl, rfl⟩, by simp; omega, rfl⟩
      · rintro E' ⟨ds3, z3, j4, rfl, hd3, h4⟩
        have e1 := cut_toI (ds3.map D.int) m
        walk_at "fi"
        exact ⟨ds3.take m, by simp⟩
  obtain ⟨r, ss, h, ⟨ds, rfl⟩, rfl⟩ := key
  exact ⟨ds, h⟩
/-! ### alike values -/
mutual
/-- data of numbers, texts, truth values, tuples, lists -/
def Gd : D → Bool
  | .non => true
  | .bl _ => true
  | .int _ => true
  | .str _ => true
  | .tup xs => Gds xs
  | .lst xs => Gds xs
  | _ => false
def Gds : List D → Bool
  | [] => true
  | x :: r => Gd x && Gds r
end
mutual
def sz : D → Nat
  | .tup xs => 1 + szs xs
  | .lst xs => 1 + szs xs
  | _ => 1
def szs : List D → Nat
  | [] => 0
  | x :: r => sz x + szs r
end
theorem szs_app : ∀ xs ys : List D, szs (xs ++ ys) = szs xs + szs ys
  | [], ys => by simp [szs]
  | x :: xs, ys => by rw [List.cons_append, szs, szs, szs_app xs ys]; omega
theorem sz_pos (d : D) : 1 ≤ sz d := by cases d <;> simp [sz] <;> omega
theorem szs_len : ∀ xs : List D, xs.length ≤ szs xs
  | [] => by simp [szs]
  | x :: xs => by have := szs_len xs; have := sz_pos x; rw [szs, List.length_cons]; omega
theorem Gds_mem : ∀ {xs : List D}, Gds xs = true → ∀ x ∈ xs, Gd x = true
  | [], _, x, h => by simp at h
  | y :: xs, h, x, hx => by
    unfold Gds at h
    rw [Bool.and_eq_true] at h
    rcases List.mem_cons.mp hx with rfl | hx
    · exact h.1
    · exact Gds_mem h.2 x hx
mutual
theorem py_gd : ∀ {d : D}, Gd d = true → ∃ p, d.py = some p
  | .non, _ => ⟨_, rfl⟩
  | .bl _, _ => ⟨_, rfl⟩
  | .int _, _ => ⟨_, rfl⟩
  | .str _, _ => ⟨_, rfl⟩
  | .tup xs, h => by
    unfold Gd at h
    obtain ⟨ps, e⟩ := pys_gd h
    exact ⟨.tuple ps, by unfold D.py; rw [e]; rfl⟩
  | .lst xs, h => by
    unfold Gd at h
    obtain ⟨ps, e⟩ := pys_gd h
    exact ⟨.list ps, by unfold D.py; rw [e]; rfl⟩
  | .dct _ _, h => by cases h
  | .set _, h => by cases h
  | .scr _, h => by cases h
  | .ty _, h => by cases h
theorem pys_gd : ∀ {ds : List D}, Gds ds = true → ∃ ps, D.pys ds = some ps
  | [], _ => ⟨[], rfl⟩
  | d :: ds, h => by
    unfold Gds at h
    simp only [Bool.and_eq_true] at h
    obtain ⟨p, e⟩ := py_gd h.1
    obtain ⟨ps, es⟩ := pys_gd h.2
    exact ⟨p :: ps, by unfold D.pys; rw [e, es]⟩
end
theorem pys_dup : ∀ {st : List D}, (∀ x ∈ st, Gd x = true) → ∃ ps, D.pys (st.map fun x => D.tup [x, x]) = some ps ∧ ps.length = st.length
  | [], _ => ⟨[], rfl, rfl⟩
  | x :: st, h => by
    obtain ⟨p, e⟩ := py_gd (h x (by simp))
    obtain ⟨ps, es, l⟩ := pys_dup (st := st) fun y hy => h y (by simp [hy])
    refine ⟨.tuple [p, p] :: ps, ?_, by simp [l]⟩
    rw [List.map_cons, D.pys, es]
    simp [D.py, D.pys, e]
theorem eqv_nil {xs : List D} {ps : List PyData} (h : D.pys xs = some ps) : D.eqv (.lst xs) (.lst []) = some xs.isEmpty := by
  have hl : ∀ {xs : List D} {ps : List PyData}, D.pys xs = some ps → xs.isEmpty = ps.isEmpty := by
    intro xs ps h
    cases xs with
    | nil => cases h; rfl
    | cons x xs =>
      unfold D.pys at h
      split at h
      · cases h; rfl
      · cases h
  unfold D.eqv
  simp only [D.py, h, D.pys, Option.map_some]
  have : min (PyData.depth (.list ps)) (PyData.depth (.list [])) ≤ 64 := by
    have : PyData.depth (.list []) ≤ 64 := by simp [PyData.depth, PyData.depthAll]
    omega
  rw [if_pos this, hl h]
  cases ps <;> simp [PyData.eqv, PyData.eqvAll]
theorem dup_range (xs : List D) : ((List.range xs.length).map fun k => D.tup [xs.getD k .non, xs.getD k .non]) = xs.map fun x => D.tup [x, x] := by
  refine List.ext_getElem (by simp) fun i h1 h2 => ?_
  simp at h1
  simp [List.getD_eq_getElem?_getD, List.getElem?_eq_getElem h1]
def k1_law_same : CE := (.cmpV (.tup (.cons (.idx (.var 3) (.var 6)) (.cons (.idx (.var 4) (.var 6)) .nil))) (.nm 6) 4 .nil [6])
def k2_law_same : CE := (.cmpV (.tup (.cons (.idx (.var 5) (.var 6)) (.cons (.var 6) .nil))) (.nm 6) 4 .nil [6])
def k3_law_same : CE := (.cmpV (.tup (.cons (.var 6) (.cons (.var 6) .nil))) (.nm 6) 3 .nil [6])
def k4_law_same : CE := (.cmpV (.var 6) (.nm 6) 4 (.cons (.op2 .nin (.var 6) (.var 3)) .nil) [6])
def k5_law_same : CE := (.cmp (.tup (.cons (.idx (.var 3) (.var 7)) (.cons (.idx (.var 4) (.var 7)) .nil))) (.mk (.nm 7) (.rng1 (.blt .len (.cons (.var 4) .nil))) .nil) [7])
def o1_law_same : CB := (.cons (.ite (.or (.op2 .ne (.blt .isinst (.cons (.var 3) (.cons (.con (.ty "bool")) .nil))) (.blt .isinst (.cons (.var 4) (.cons (.con (.ty "bool")) .nil)))) (.or (.op2 .ne (.blt .isinst (.cons (.var 3) (.cons (.con (.ty "int")) .nil))) (.blt .isinst (.cons (.var 4) (.cons (.con (.ty "int")) .nil)))) (.or (.op2 .ne (.blt .isinst (.cons (.var 3) (.cons (.con (.ty "str")) .nil))) (.blt .isinst (.cons (.var 4) (.cons (.con (.ty "str")) .nil)))) (.op2 .ne (.var 3) (.var 4))))) (.cons (.ret (.con (.bl false))) .nil) .nil) .nil)
def o2_law_same : CB := (.cons (.ite (.or (.blt .isinst (.cons (.var 4) (.cons (.con (.ty "tuple")) .nil))) (.blt .isinst (.cons (.var 4) (.cons (.con (.ty "list")) .nil)))) (.cons (.ite (.or (.op2 .ne (.blt .isinst (.cons (.var 3) (.cons (.con (.ty "tuple")) .nil))) (.blt .isinst (.cons (.var 4) (.cons (.con (.ty "tuple")) .nil)))) (.or (.op2 .ne (.blt .isinst (.cons (.var 3) (.cons (.con (.ty "list")) .nil))) (.blt .isinst (.cons (.var 4) (.cons (.con (.ty "list")) .nil)))) (.op2 .ne (.blt .len (.cons (.var 3) .nil)) (.blt .len (.cons (.var 4) .nil))))) (.cons (.ret (.con (.bl false))) .nil) .nil) (.cons (.ex (.mut .extend 2 (.cons k5_law_same .nil))) .nil)) o1_law_same) .nil)
def b1_law_same : CB := (.cons (.asg (.tp [3, 4]) (.mut .pop 2 .nil)) (.cons (.ite (.blt .isinst (.cons (.var 4) (.cons (.con (.ty "dict")) .nil))) (.cons (.ite (.or (.not (.blt .isinst (.cons (.var 3) (.cons (.con (.ty "dict")) .nil)))) (.or (.op2 .ne (.blt .len (.cons (.var 3) .nil)) (.blt .len (.cons (.var 4) .nil))) (.op2 .ne k4_law_same (.lst .nil)))) (.cons (.ret (.con (.bl false))) .nil) .nil) (.cons (.asg (.nm 5) .bad) (.cons (.ex (.mut .extend 2 (.cons (.op2 .add k1_law_same k2_law_same) .nil))) .nil))) o2_law_same) .nil))
def c_law_same : CB := (.cons (.asg (.nm 2) (.lst (.cons (.tup (.cons (.var 0) (.cons (.var 1) .nil))) .nil))) (.cons (.whl (.op2 .ne (.var 2) (.lst .nil)) b1_law_same) (.cons (.ret (.con (.bl true))) .nil)))
def f_law_same : Fn := ⟨2, 8, [false, false], c_law_same⟩
theorem same_tup (n : Nat) (kk : CE) (a : D) (st xs ys : List D) (j5 j6 j7 : Sl) (hl5 : st.length + ys.length ≤ 16777216) (hk5 : evE (ctxOf T G n) kk ⟨[.sh a, .sh a, .ow (.lst st), .sh (.tup xs), .sh (.tup xs), j5, j6, j7], []⟩ = some (.ow (.lst ys), ⟨[.sh a, .sh a, .ow (.lst st), .sh (.tup xs), .sh (.tup xs), j5, j6, j7], []⟩)) (Q : Out → Prop) (hQ : Q (.nx ⟨[.sh a, .sh a, .ow (.lst (st ++ ys)), .sh (.tup xs), .sh (.tup xs), j5, j6, j7], []⟩)) : WB (ctxOf T G n) (.cons (.ite (.or (.blt .isinst (.cons (.var 4) (.cons (.con (.ty "tuple")) .nil))) (.blt .isinst (.cons (.var 4) (.cons (.con (.ty "list")) .nil)))) (.cons (.ite (.or (.op2 .ne (.blt .isinst (.cons (.var 3) (.cons (.con (.ty "tuple")) .nil))) (.blt .isinst (.cons (.var 4) (.cons (.con (.ty "tuple")) .nil)))) (.or (.op2 .ne (.blt .isinst (.cons (.var 3) (.cons (.con (.ty "list")) .nil))) (.blt .isinst (.cons (.var 4) (.cons (.con (.ty "list")) .nil)))) (.op2 .ne (.blt .len (.cons (.var 3) .nil)) (.blt .len (.cons (.var 4) .nil))))) (.cons (.ret (.con (.bl false))) .nil) .nil) (.cons (.ex (.mut .extend 2 (.cons kk .nil))) .nil)) o1_law_same) .nil) ⟨[.sh a, .sh a, .ow (.lst st), .sh (.tup xs), .sh (.tup xs), j5, j6, j7], []⟩ Q := by
  have eb := eqv_bl
  walk_at "fi"
theorem same_lst (n : Nat) (kk : CE) (a : D) (st xs ys : List D) (j5 j6 j7 : Sl) (hl5 : st.length + ys.length ≤ 16777216) (hk5 : evE (ctxOf T G n) kk ⟨[.sh a, .sh a, .ow (.lst st), .sh (.lst xs), .sh (.lst xs), j5, j6, j7], []⟩ = some (.ow (.lst ys), ⟨[.sh a, .sh a, .ow (.lst st), .sh (.lst xs), .sh (.lst xs), j5, j6, j7], []⟩)) (Q : Out → Prop) (hQ : Q (.nx ⟨[.sh a, .sh a, .ow (.lst (st ++ ys)), .sh (.lst xs), .sh (.lst xs), j5, j6, j7], []⟩)) : WB (ctxOf T G n) (.cons (.ite (.or (.blt .isinst (.cons (.var 4) (.cons (.con (.ty "tuple")) .nil))) (.blt .isinst (.cons (.var 4) (.cons (.con (.ty "list")) .nil)))) (.cons (.ite (.or (.op2 .ne (.blt .isinst (.cons (.var 3) (.cons (.con (.ty "tuple")) .nil))) (.blt .isinst (.cons (.var 4) (.cons (.con (.ty "tuple")) .nil)))) (.or (.op2 .ne (.blt .isinst (.cons (.var 3) (.cons (.con (.ty "list")) .nil))) (.blt .isinst (.cons (.var 4) (.cons (.con (.ty "list")) .nil)))) (.op2 .ne (.blt .len (.cons (.var 3) .nil)) (.blt .len (.cons (.var 4) .nil))))) (.cons (.ret (.con (.bl false))) .nil) .nil) (.cons (.ex (.mut .extend 2 (.cons kk .nil))) .nil)) o1_law_same) .nil) ⟨[.sh a, .sh a, .ow (.lst st), .sh (.lst xs), .sh (.lst xs), j5, j6, j7], []⟩ Q := by
  have eb := eqv_bl
  walk_at "fi"
theorem run_same (hT : T "_law_same" = some f_law_same) (n : Nat) (a : D) (ha : Gd a = true) (hs : sz a ≤ 10000000) : run T G (n + 1) "_law_same" [(false, a), (false, a)] = some (.sh (.bl true), [.sh a, .sh a]) := by
  refine run_eq (fn := f_law_same) (E0 := ⟨[.sh a, .sh a, .un, .un, .un, .un, .un, .un], []⟩) hT rfl rfl ?_
  unfold f_law_same c_law_same
  walk_at "fi"
  refine ws_whl (I := fun k E' => ∃ (st : List D) (j3 j4 j5 j6 j7 : Sl), E' = ⟨[.sh a, .sh a, .ow (.lst (st.map fun x => D.tup [x, x])), j3, j4, j5, j6, j7], []⟩ ∧ k = szs st ∧ k ≤ sz a ∧ (∀ x ∈ st, Gd x = true) ∧ j3.nlk = true ∧ j4.nlk = true ∧ j5.nlk = true ∧ j6.nlk = true ∧ j7.nlk = true) (n := sz a)
    ⟨[a], .un, .un, .un, .un, .un, rfl, by simp [szs], Nat.le_refl _, by simpa using ha, rfl, rfl, rfl, rfl, rfl⟩ ?_
  rintro k E' ⟨st, j3, j4, j5, j6, j7, rfl, rfl, hk, hg, h3, h4, h5, h6, h7⟩
  obtain ⟨ps, hps, _⟩ := pys_dup hg
  have hq := eqv_nil hps
  refine ⟨.sh (.bl !st.isEmpty), ⟨[.sh a, .sh a, .ow (.lst (st.map fun x => D.tup [x, x])), j3, j4, j5, j6, j7], []⟩, !st.isEmpty, ?_, by simp [Env.vw, D.truth], fun hne => ?_, fun he => ?_⟩
  · walk_at "fi"
  · rcases List.eq_nil_or_concat st with rfl | ⟨st', x, rfl⟩
    · simp at hne
    · rw [List.concat_eq_append] at *
      have hgx : Gd x = true := hg x (by simp)
      have hg' : ∀ y ∈ st', Gd y = true := fun y hy => hg y (by simp [hy])
      have hsz : szs (st' ++ [x]) = szs st' + sz x := by rw [szs_app]; simp [szs]
      have hlast : ((st' ++ [x]).map fun x => D.tup [x, x]).getLast? = some (.tup [x, x]) := by simp
      have hdl : ((st' ++ [x]).map fun x => D.tup [x, x]).dropLast = st'.map fun x => D.tup [x, x] := by simp
      have hsl := szs_len st'
      rw [hsz] at hk ⊢
      clear hq hps hg hne
      have hkT : ∀ (xs : List D), xs.length ≤ 16777216 → evE (ctxOf T G n) k5_law_same ⟨[.sh a, .sh a, .ow (.lst (st'.map fun x => D.tup [x, x])), .sh (.tup xs), .sh (.tup xs), j5, j6, j7], []⟩ = some (.ow (.lst (xs.map fun x => D.tup [x, x])), ⟨[.sh a, .sh a, .ow (.lst (st'.map fun x => D.tup [x, x])), .sh (.tup xs), .sh (.tup xs), j5, j6, j7], []⟩) := by
        intro xs hxl
        unfold k5_law_same
        rw [← dup_range xs]
        refine cmp_map (fun (j : Nat) => D.int j) (fun k => D.tup [xs.getD k .non, xs.getD k .non]) (List.range xs.length) (l := none) (E1 := ⟨[.sh a, .sh a, .ow (.lst (st'.map fun x => D.tup [x, x])), .sh (.tup xs), .sh (.tup xs), j5, j6, j7], []⟩) (evI_rng (n := xs.length) ?_ hxl) rfl (fun j hj => ?_) (by rw [List.length_range]; exact hxl) rfl
        · walk_at "fi"
        have hj : j < xs.length := by simpa using hj
        have h2 : ix xs.length (j : Int) = some j := by unfold ix; rw [if_pos (by omega), if_pos (by omega)]; simp
        have h3 : xs[j]? = some xs[j] := List.getElem?_eq_getElem hj
        walk_at "fi"
      have hkL : ∀ (xs : List D), xs.length ≤ 16777216 → evE (ctxOf T G n) k5_law_same ⟨[.sh a, .sh a, .ow (.lst (st'.map fun x => D.tup [x, x])), .sh (.lst xs), .sh (.lst xs), j5, j6, j7], []⟩ = some (.ow (.lst (xs.map fun x => D.tup [x, x])), ⟨[.sh a, .sh a, .ow (.lst (st'.map fun x => D.tup [x, x])), .sh (.lst xs), .sh (.lst xs), j5, j6, j7], []⟩) := by
        intro xs hxl
        unfold k5_law_same
        rw [← dup_range xs]
        refine cmp_map (fun (j : Nat) => D.int j) (fun k => D.tup [xs.getD k .non, xs.getD k .non]) (List.range xs.length) (l := none) (E1 := ⟨[.sh a, .sh a, .ow (.lst (st'.map fun x => D.tup [x, x])), .sh (.lst xs), .sh (.lst xs), j5, j6, j7], []⟩) (evI_rng (n := xs.length) ?_ hxl) rfl (fun j hj => ?_) (by rw [List.length_range]; exact hxl) rfl
        · walk_at "fi"
        have hj : j < xs.length := by simpa using hj
        have h2 : ix xs.length (j : Int) = some j := by unfold ix; rw [if_pos (by omega), if_pos (by omega)]; simp
        have h3 : xs[j]? = some xs[j] := List.getElem?_eq_getElem hj
        walk_at "fi"
      unfold b1_law_same
      cases x with
      | non =>
        have h0 := eqv_non
        have := eqv_bl
        have hs1 : sz .non = 1 := rfl
        walk_at "fi"
        unfold o2_law_same
        walk_at "fi"
        unfold o1_law_same
        walk_at "fi"
        exact ⟨szs st', by omega, st', _, _, _, _, _, ⟨rfl, rfl, rfl, rfl, rfl, rfl⟩, rfl, by omega, hg', rfl, rfl, h5, h6, h7⟩
      | bl b =>
        have := eqv_bl
        have hs1 : sz (.bl b) = 1 := rfl
        walk_at "fi"
        unfold o2_law_same
        walk_at "fi"
        unfold o1_law_same
        walk_at "fi"
        exact ⟨szs st', by omega, st', _, _, _, _, _, ⟨rfl, rfl, rfl, rfl, rfl, rfl⟩, rfl, by omega, hg', rfl, rfl, h5, h6, h7⟩
      | int i =>
        have := eqv_bl
        have hs1 : sz (.int i) = 1 := rfl
        walk_at "fi"
        unfold o2_law_same
        walk_at "fi"
        unfold o1_law_same
        walk_at "fi"
        exact ⟨szs st', by omega, st', _, _, _, _, _, ⟨rfl, rfl, rfl, rfl, rfl, rfl⟩, rfl, by omega, hg', rfl, rfl, h5, h6, h7⟩
      | str s =>
        have := eqv_bl
        have hs1 : sz (.str s) = 1 := rfl
        walk_at "fi"
        unfold o2_law_same
        walk_at "fi"
        unfold o1_law_same
        walk_at "fi"
        exact ⟨szs st', by omega, st', _, _, _, _, _, ⟨rfl, rfl, rfl, rfl, rfl, rfl⟩, rfl, by omega, hg', rfl, rfl, h5, h6, h7⟩
      | tup xs =>
        have := eqv_bl
        walk_at "fi"
        have hgs : ∀ y ∈ st' ++ xs, Gd y = true := fun y hy => (List.mem_append.mp hy).elim (hg' y) (Gds_mem hgx y)
        have hsx : sz (.tup xs) = 1 + szs xs := by rw [sz]
        have hlx := szs_len xs
        have hk5 := hkT xs (by omega)
        have hl5 : st'.length + xs.length ≤ 16777216 := by omega
        refine same_tup n k5_law_same a _ xs _ j5 j6 j7 (by simp; omega) hk5 _ ?_
        rw [cont_nx, WB_nil, Lw_nx]
        exact ⟨szs (st' ++ xs), by rw [szs_app]; omega, st' ++ xs, _, _, _, _, _, by rw [List.map_append], rfl, by rw [szs_app]; omega, hgs, rfl, rfl, h5, h6, h7⟩
      | lst xs =>
        have := eqv_bl
        walk_at "fi"
        have hgs : ∀ y ∈ st' ++ xs, Gd y = true := fun y hy => (List.mem_append.mp hy).elim (hg' y) (Gds_mem hgx y)
        have hsx : sz (.lst xs) = 1 + szs xs := by rw [sz]
        have hlx := szs_len xs
        have hk5 := hkL xs (by omega)
        have hl5 : st'.length + xs.length ≤ 16777216 := by omega
        refine same_lst n k5_law_same a _ xs _ j5 j6 j7 (by simp; omega) hk5 _ ?_
        rw [cont_nx, WB_nil, Lw_nx]
        exact ⟨szs (st' ++ xs), by rw [szs_app]; omega, st' ++ xs, _, _, _, _, _, by rw [List.map_append], rfl, by rw [szs_app]; omega, hgs, rfl, rfl, h5, h6, h7⟩
      | dct _ _ => cases hgx
      | set _ => cases hgx
      | scr _ => cases hgx
      | ty _ => cases hgx
  · have : st = [] := by simpa using he
    subst this
    walk_at "fi"
end
end Fi
end

section
/-! R1: texts by length, then by letters; steps, what they make, and of which texts. Plain. Own work. -/
namespace Fi.R
open PySem Fi

/-! ### the order -/
def keyT (t : Txt) : D := .tup [.int t.length, .str t]
def leL (x y : Txt) : Bool := leD (keyT x) (keyT y)
def tokT (t : Txt) : List (Int ⊕ List Nat) := [.inl 1, .inl t.length, .inl 1, .inr t, .inl 0]
theorem tok_key (t : Txt) : PySem.W.keyToks (encD (keyT t)) = tokT t := by
  simp [encD, keyT, D.py, D.pys, PySem.W.keyToks, PySem.W.keyToksAll, tokT]
theorem leL_tot : PySem.W.TotalLe leL := by
  have h := PySem.W.sortLe_total (PyProof.Rows.listOrd PyProof.Rows.itemOrd) false (fun t : Txt => PySem.W.keyToks (encD (keyT t)))
  exact h
theorem leL_anti (x y : Txt) (h1 : leL x y = true) (h2 : leL y x = true) : x = y := by
  have h1 : (!PyProof.Rows.lexLt PyProof.Rows.itemOrd (PySem.W.keyToks (encD (keyT y))) (PySem.W.keyToks (encD (keyT x)))) = true := h1
  have h2 : (!PyProof.Rows.lexLt PyProof.Rows.itemOrd (PySem.W.keyToks (encD (keyT x))) (PySem.W.keyToks (encD (keyT y)))) = true := h2
  rw [Bool.not_eq_true'] at h1 h2
  have e := PyProof.Rows.lex_total _ _ h1 h2
  rw [tok_key, tok_key] at e
  simp only [tokT, List.cons.injEq, Sum.inr.injEq] at e
  exact e.2.2.2.1.symm
def srt (l : List Txt) : List Txt := l.mergeSort leL
theorem srt_mem {l : List Txt} {t : Txt} : t ∈ srt l ↔ t ∈ l := List.mem_mergeSort
theorem srt_nodup {l : List Txt} (h : l.Nodup) : (srt l).Nodup := (List.mergeSort_perm l leL).nodup_iff.mpr h
theorem srt_sorted (l : List Txt) : (srt l).Pairwise (fun x y => leL x y = true) := List.pairwise_mergeSort leL_tot.trans (fun a b => by simpa using leL_tot.total a b) l
theorem perm_of {l m : List Txt} (h1 : l.Nodup) (h2 : m.Nodup) (h : ∀ t, t ∈ l ↔ t ∈ m) : l.Perm m := (List.perm_ext_iff_of_nodup h1 h2).mpr h
theorem sorted_eq {l m : List Txt} (h1 : l.Pairwise (fun x y => leL x y = true)) (h2 : m.Pairwise (fun x y => leL x y = true)) (p : l.Perm m) : l = m :=
  p.eq_of_pairwise (le := fun x y => leL x y = true) (fun a b _ _ => leL_anti a b) h1 h2
theorem srt_eq {l m : List Txt} (h1 : l.Nodup) (h2 : m.Nodup) (hs : m.Pairwise (fun x y => leL x y = true)) (h : ∀ t, t ∈ l ↔ t ∈ m) : srt l = m :=
  sorted_eq (srt_sorted l) hs ((List.mergeSort_perm l leL).trans (perm_of h1 h2 h))
theorem srt_keys (l : List Txt) : (l.map keyT).mergeSort leD = (srt l).map keyT := (List.map_mergeSort (r := leL) (s := leD) (f := keyT) (l := l) (fun a _ b _ => rfl)).symm

/-! ### sets of texts -/
theorem putT_mem {L : List Txt} {k t : Txt} : t ∈ putT L k ↔ t ∈ L ∨ t = k := by
  unfold putT; split
  · rename_i h; exact ⟨.inl, fun o => o.elim id fun e => e ▸ h⟩
  · simp
theorem putT_nodup {L : List Txt} {k : Txt} (h : L.Nodup) : (putT L k).Nodup := by
  unfold putT; split
  · exact h
  · rename_i n
    exact List.nodup_append.mpr ⟨h, by simp, fun a ha b hb e => n (by simp at hb; rw [← hb, ← e]; exact ha)⟩
theorem allT_aux : ∀ (xs L : List Txt), (∀ t, t ∈ xs.foldl putT L ↔ t ∈ L ∨ t ∈ xs) ∧ (L.Nodup → (xs.foldl putT L).Nodup)
  | [], L => ⟨fun t => by simp, id⟩
  | x :: xs, L => by
    obtain ⟨h1, h2⟩ := allT_aux xs (putT L x)
    refine ⟨fun t => ?_, fun h => h2 (putT_nodup h)⟩
    rw [List.foldl_cons, h1, putT_mem, List.mem_cons, or_assoc]
theorem setT_mem {xs : List Txt} {t : Txt} : t ∈ setT xs ↔ t ∈ xs := by
  unfold setT allT
  rw [List.mem_mergeSort, (allT_aux xs []).1]; simp
theorem setT_nodup (xs : List Txt) : (setT xs).Nodup := by
  unfold setT allT
  exact (List.mergeSort_perm _ leT).nodup_iff.mpr ((allT_aux xs []).2 List.nodup_nil)
/-- texts, each once, by length, then by letters -/
def canon (L : List Txt) : List Txt := srt (setT L)
theorem canon_mem {L : List Txt} {t : Txt} : t ∈ canon L ↔ t ∈ L := srt_mem.trans setT_mem
theorem canon_nodup (L : List Txt) : (canon L).Nodup := srt_nodup (setT_nodup L)
theorem canon_sorted (L : List Txt) : (canon L).Pairwise (fun x y => leL x y = true) := srt_sorted _
theorem canon_eq {L m : List Txt} (h2 : m.Nodup) (hs : m.Pairwise (fun x y => leL x y = true)) (h : ∀ t, t ∈ L ↔ t ∈ m) : canon L = m := srt_eq (setT_nodup L) h2 hs fun t => setT_mem.trans (h t)

/-! ### steps -/
inductive St where
  | fin (p : Txt) | fro (p : Txt) | cut (p : Txt) | swp (a b : Nat) | nea (bf : Bool) (a b : Nat) (g : Txt) | dbl (n : Nat)
def sw (a b x : Nat) : Nat := if x = a then b else if x = b then a else x
def nb (bf : Bool) (t : Txt) (i : Nat) : Option Nat := if bf then t[i+1]? else if 0 < i then t[i-1]? else none
def lets (g : Txt) : Option Nat → Bool
  | none => false
  | some c => decide (c ∈ g)
def chg1 (bf : Bool) (a b : Nat) (g t : Txt) (i : Nat) : Nat := if t.getD i 0 = a ∧ lets g (nb bf t i) = true then b else t.getD i 0
def chg (bf : Bool) (a b : Nat) (g t : Txt) : Txt := (List.range t.length).map (chg1 bf a b g t)
def stp : St → Txt → Txt
  | .fin p, t => t ++ p
  | .fro p, t => p ++ t
  | .cut p, t => if p <:+ t then t.take (t.length - p.length) else t
  | .swp a b, t => t.map (sw a b)
  | .nea bf a b g, t => chg bf a b g t
  | .dbl n, t => t.take n ++ t
def formed (c : List St) (t : Txt) : Txt := c.foldl (fun t s => stp s t) t
theorem formed_app (c d : List St) (t : Txt) : formed (c ++ d) t = formed d (formed c t) := List.foldl_append
theorem formed_nil (t : Txt) : formed [] t = t := rfl
theorem formed_cons (s : St) (c : List St) (t : Txt) : formed (s :: c) t = formed c (stp s t) := rfl
/-- texts on the way -/
def wayB : List St → Txt → List Txt
  | [], _ => []
  | s :: c, t => stp s t :: wayB c (stp s t)
def way (c : List St) (t : Txt) : List Txt := t :: wayB c t
theorem wayB_app : ∀ (c d : List St) (t : Txt), wayB (c ++ d) t = wayB c t ++ wayB d (formed c t)
  | [], _, _ => rfl
  | s :: c, d, t => by
    show stp s t :: wayB (c ++ d) (stp s t) = _
    rw [wayB_app]; rfl
theorem way_last : ∀ (c : List St) (t : Txt), (way c t).getLast? = some (formed c t)
  | [], _ => rfl
  | s :: c, t => by
    show (t :: way c (stp s t)).getLast? = _
    rw [List.getLast?_cons, way_last c (stp s t)]; rfl

/-! ### changes near, letter by letter -/
theorem chg_length (bf : Bool) (a b : Nat) (g t : Txt) : (chg bf a b g t).length = t.length := by simp [chg]
theorem chg_cons (a b : Nat) (g : Txt) (x : Nat) (t : Txt) : chg true a b g (x :: t) = (if x = a ∧ lets g t.head? = true then b else x) :: chg true a b g t := by
  unfold chg
  rw [List.length_cons, List.range_succ_eq_map, List.map_cons, List.map_map]
  congr 1
  simp [chg1, nb, List.head?_eq_getElem?]
theorem chg_snoc (a b : Nat) (g : Txt) (x : Nat) (t : Txt) : chg false a b g (t ++ [x]) = chg false a b g t ++ [if x = a ∧ lets g t.getLast? = true then b else x] := by
  unfold chg
  rw [List.length_append, List.length_singleton, List.range_succ, List.map_append, List.map_singleton]
  congr 1
  · refine List.map_congr_left fun i hi => ?_
    have hi : i < t.length := by simpa using hi
    unfold chg1 nb
    simp only [List.getD_eq_getElem?_getD]
    rw [List.getElem?_append_left hi]
    by_cases h0 : 0 < i
    · rw [show (t ++ [x])[i - 1]? = t[i - 1]? from List.getElem?_append_left (by omega)]
      rfl
    · simp [h0]
  · unfold chg1 nb
    simp only [List.getD_eq_getElem?_getD]
    rw [List.getElem?_append_right (Nat.le_refl _)]
    by_cases h0 : 0 < t.length
    · rw [show (t ++ [x])[t.length - 1]? = t[t.length - 1]? from List.getElem?_append_left (by omega)]
      simp [h0, List.getLast?_eq_getElem?]
    · have : t = [] := by cases t; rfl; simp at h0
      subst this; simp [lets]
/-- of which letters one has come -/
def abl (x a b : Nat) (l : Bool) : List Nat := [x, a].filter fun s => decide ((if l = true ∧ s = a then b else s) = x)
theorem abl_mem {x a b s : Nat} {l : Bool} (h : (if s = a ∧ l = true then b else s) = x) : s ∈ abl x a b l := by
  unfold abl
  rw [List.mem_filter]
  constructor
  · by_cases c : s = a ∧ l = true
    · simp [c.1]
    · rw [if_neg c] at h; simp [h]
  · rw [decide_eq_true_eq, ← h]
    simp only [And.comm]
def sgl (L : List Nat) : List Txt := setT (L.map fun s => [s])
theorem sgl_mem {L : List Nat} {t : Txt} : t ∈ sgl L ↔ ∃ s ∈ L, t = [s] := by
  unfold sgl; rw [setT_mem, List.mem_map]
  exact ⟨fun ⟨s, h, e⟩ => ⟨s, h, e.symm⟩, fun ⟨s, h, e⟩ => ⟨s, h, e.symm⟩⟩
def backB (a b : Nat) (g : Txt) : Txt → List Txt
  | [] => [[]]
  | x :: r => (backB a b g r).flatMap fun row => (sgl (abl x a b (lets g row.head?))).map (· ++ row)
def turnA (a b : Nat) (g : Txt) (rows : List Txt) (x : Nat) : List Txt := rows.flatMap fun row => (sgl (abl x a b (lets g row.getLast?))).map (row ++ ·)
def backA (a b : Nat) (g w : Txt) : List Txt := w.foldl (turnA a b g) [[]]
theorem backB_all (a b : Nat) (g : Txt) : ∀ (t : Txt), t ∈ backB a b g (chg true a b g t)
  | [] => by simp [backB, chg]
  | x :: t => by
    rw [chg_cons, backB, List.mem_flatMap]
    refine ⟨t, backB_all a b g t, ?_⟩
    rw [List.mem_map]
    exact ⟨[x], sgl_mem.mpr ⟨x, abl_mem rfl, rfl⟩, rfl⟩
theorem backA_all (a b : Nat) (g : Txt) (t : Txt) : t ∈ backA a b g (chg false a b g t) := by
  have h : ∀ n (t : Txt), t.length = n → t ∈ backA a b g (chg false a b g t) := by
    intro n
    induction n with
    | zero => intro t ht; cases t with
      | nil => simp [backA, chg]
      | cons => simp at ht
    | succ n ih =>
      intro t ht
      have e := List.dropLast_concat_getLast (l := t) (by intro e; simp [e] at ht)
      generalize t.dropLast = r at *
      generalize t.getLast _ = x at *
      subst e
      have hr : r.length = n := by simpa using ht
      rw [chg_snoc, backA, List.foldl_append]
      show _ ∈ turnA _ _ _ (backA a b g (chg false a b g r)) _
      unfold turnA
      rw [List.mem_flatMap]
      refine ⟨r, ih r hr, ?_⟩
      rw [List.mem_map]
      exact ⟨[x], sgl_mem.mpr ⟨x, abl_mem rfl, rfl⟩, rfl⟩
  exact h _ t rfl
def backN (bf : Bool) (a b : Nat) (g w : Txt) : List Txt := if bf then backB a b g w else backA a b g w
theorem backN_all (bf : Bool) (a b : Nat) (g t : Txt) : t ∈ backN bf a b g (chg bf a b g t) := by
  cases bf
  · exact backA_all a b g t
  · exact backB_all a b g t
theorem abl_len (x a b : Nat) (l : Bool) : (abl x a b l).length ≤ 2 := by
  unfold abl; exact Nat.le_trans (List.length_filter_le _ _) (by simp)
theorem allT_len : ∀ (xs L : List Txt), (xs.foldl putT L).length ≤ L.length + xs.length
  | [], L => by simp
  | x :: xs, L => by
    rw [List.foldl_cons]
    refine Nat.le_trans (allT_len xs _) ?_
    have : (putT L x).length ≤ L.length + 1 := by unfold putT; split <;> simp
    simp only [List.length_cons]; omega
theorem setT_len (L : List Txt) : (setT L).length ≤ L.length := by
  unfold setT allT
  rw [List.length_mergeSort]
  simpa using allT_len L []
theorem sgl_len (L : List Nat) : (sgl L).length ≤ L.length := by unfold sgl; simpa using setT_len (L.map fun s => [s])
theorem flat_len {α β : Type} {f : α → List β} {k : Nat} : ∀ {xs : List α}, (∀ x ∈ xs, (f x).length ≤ k) → (xs.flatMap f).length ≤ xs.length * k
  | [], _ => by simp
  | x :: xs, h => by
    rw [List.flatMap_cons, List.length_append, List.length_cons, Nat.add_mul]
    have h1 := h x (by simp)
    have h2 := flat_len (xs := xs) (fun y hy => h y (by simp [hy]))
    omega
theorem backB_len (a b : Nat) (g : Txt) : ∀ w : Txt, (backB a b g w).length ≤ 2 ^ w.length
  | [] => by simp [backB]
  | x :: r => by
    rw [backB, List.length_cons, Nat.pow_succ]
    refine Nat.le_trans (flat_len (k := 2) fun row _ => ?_) (Nat.mul_le_mul_right 2 (backB_len a b g r))
    rw [List.length_map]
    exact Nat.le_trans (sgl_len _) (abl_len _ _ _ _)
theorem turnA_len (a b : Nat) (g : Txt) (rows : List Txt) (x : Nat) : (turnA a b g rows x).length ≤ rows.length * 2 := by
  unfold turnA
  refine flat_len (k := 2) fun row _ => ?_
  rw [List.length_map]
  exact Nat.le_trans (sgl_len _) (abl_len _ _ _ _)
theorem backA_len (a b : Nat) (g w : Txt) : (backA a b g w).length ≤ 2 ^ w.length := by
  have h : ∀ (w : Txt) (rows : List Txt), (w.foldl (turnA a b g) rows).length ≤ rows.length * 2 ^ w.length := by
    intro w
    induction w with
    | nil => intro rows; simp
    | cons x w ih =>
      intro rows
      rw [List.foldl_cons]
      refine Nat.le_trans (ih _) ?_
      rw [List.length_cons, Nat.pow_succ]
      have := Nat.mul_le_mul_right (2 ^ w.length) (turnA_len a b g rows x)
      refine Nat.le_trans this ?_
      rw [Nat.mul_assoc, Nat.mul_comm 2]; exact Nat.le_refl _
  simpa [backA] using h w [[]]

/-! ### of which texts a step makes a word -/
def candAll : St → Txt → List Txt
  | .fin p, w => if p <:+ w then [w.take (w.length - p.length)] else []
  | .fro p, w => if p <+: w then [w.drop p.length] else []
  | .cut p, w => [w, w ++ p].filter fun t => decide (stp (.cut p) t = w)
  | .swp a b, w => [w.map (sw a b)].filter fun t => decide (stp (.swp a b) t = w)
  | .dbl n, w => ((List.range (n + 1)).map fun k => w.drop k).filter fun t => decide (stp (.dbl n) t = w)
  | .nea bf a b g, w => (backN bf a b g w).filter fun t => decide (stp (.nea bf a b g) t = w)
theorem suffix_take {p w : Txt} (h : p <:+ w) : w.take (w.length - p.length) ++ p = w := by
  obtain ⟨t, rfl⟩ := h
  simp
/-- a swap of unlike letters or alike ones, twice -/
theorem sw_sw {a b : Nat} (x : Nat) : sw a b (sw a b x) = x := by
  unfold sw
  by_cases h : x = a
  · by_cases h2 : b = a <;> simp [h, h2]
  · by_cases h2 : x = b
    · simp [h2]
    · simp [h, h2]
theorem cand_mem (s : St) (w t : Txt) : t ∈ candAll s w ↔ stp s t = w := by
  cases s with
  | fin p =>
    simp only [candAll, stp]
    constructor
    · intro h; split at h
      · rename_i hp; simp only [List.mem_singleton] at h; rw [h]; exact suffix_take hp
      · simp at h
    · rintro rfl
      rw [if_pos ⟨t, rfl⟩]; simp
  | fro p =>
    simp only [candAll, stp]
    constructor
    · intro h; split at h
      · rename_i hp; simp only [List.mem_singleton] at h; rw [h]
        obtain ⟨q, rfl⟩ := hp
        simp
      · simp at h
    · rintro rfl
      rw [if_pos ⟨t, rfl⟩]; simp
  | cut p =>
    simp only [candAll, List.mem_filter, decide_eq_true_eq]
    refine ⟨fun h => h.2, fun h => ⟨?_, h⟩⟩
    simp only [stp] at h
    split at h
    · rename_i hp
      have := suffix_take hp
      rw [h] at this
      simp [this]
    · simp [h]
  | swp a b =>
    simp only [candAll, List.mem_filter, decide_eq_true_eq]
    refine ⟨fun h => h.2, fun h => ⟨?_, h⟩⟩
    simp only [stp] at h
    subst h
    simp only [List.map_map, List.mem_singleton]
    have : (sw a b ∘ sw a b) = id := funext fun x => sw_sw x
    rw [this, List.map_id]
  | dbl n =>
    simp only [candAll, List.mem_filter, decide_eq_true_eq]
    refine ⟨fun h => h.2, fun h => ⟨?_, h⟩⟩
    simp only [stp] at h
    subst h
    rw [List.mem_map]
    refine ⟨min n t.length, by simp; omega, ?_⟩
    have e : (t.take n).length = min n t.length := List.length_take
    rw [← e]; simp
  | nea bf a b g =>
    simp only [candAll, List.mem_filter, decide_eq_true_eq]
    refine ⟨fun h => h.2, fun h => ⟨?_, h⟩⟩
    simp only [stp] at h
    rw [← h]; exact backN_all bf a b g t
def bef (s : St) (w : Txt) : List Txt := canon (candAll s w)
theorem bef_mem {s : St} {w t : Txt} : t ∈ bef s w ↔ stp s t = w := canon_mem.trans (cand_mem s w t)
theorem bef_nodup (s : St) (w : Txt) : (bef s w).Nodup := canon_nodup _

/-! ### roots -/
def turnR (rows : List Txt) (s : St) : List Txt := canon (rows.flatMap (bef s))
def rootsB : List St → Txt → List Txt
  | [], w => [w]
  | s :: c, w => turnR (rootsB c w) s
theorem roots_mem : ∀ {c : List St} {w t : Txt}, t ∈ rootsB c w ↔ formed c t = w
  | [], w, t => by simp [rootsB, formed]
  | s :: c, w, t => by
    unfold rootsB turnR
    rw [canon_mem, List.mem_flatMap]
    constructor
    · rintro ⟨u, hu, ht⟩
      rw [bef_mem] at ht
      rw [formed_cons, ht]; exact roots_mem.mp hu
    · intro h
      exact ⟨stp s t, roots_mem.mpr h, bef_mem.mpr rfl⟩
theorem roots_nodup : ∀ (c : List St) (w : Txt), (rootsB c w).Nodup
  | [], w => by simp [rootsB]
  | s :: c, w => canon_nodup _
theorem roots_sorted : ∀ (c : List St) (w : Txt), (rootsB c w).Pairwise (fun x y => leL x y = true)
  | [], w => by simp [rootsB]
  | s :: c, w => canon_sorted _
theorem roots_fold : ∀ (c : List St) (w : Txt), c.reverse.foldl turnR [w] = rootsB c w
  | [], w => rfl
  | s :: c, w => by
    rw [List.reverse_cons, List.foldl_append, roots_fold c w]; rfl
theorem roots_one (s : St) (w : Txt) : rootsB [s] w = bef s w := by
  show canon ([w].flatMap (bef s)) = _
  simp only [List.flatMap_cons, List.flatMap_nil, List.append_nil]
  exact canon_eq (bef_nodup _ _) (canon_sorted _) fun t => Iff.rfl
/-- the roots by both, of whatever list of them -/
theorem roots_due {c d : List St} {w : Txt} {ks : List Txt} (hn : ks.Nodup) (h : ∀ t, t ∈ ks ↔ ∃ u ∈ rootsB d w, t ∈ rootsB c u) : srt ks = rootsB (c ++ d) w :=
  srt_eq hn (roots_nodup _ _) (roots_sorted _ _) fun t => by
    rw [h, roots_mem, formed_app]
    constructor
    · rintro ⟨u, h1, h2⟩
      rw [roots_mem] at h1 h2
      rw [h2, h1]
    · intro e
      exact ⟨formed c t, roots_mem.mpr e, roots_mem.mpr rfl⟩
/-- so many texts at most are such -/
def Cnt (p : Txt → Prop) (n : Nat) : Prop := ∀ L : List Txt, L.Nodup → (∀ t ∈ L, p t) → L.length ≤ n
theorem flat_nodup {s : St} : ∀ {rows : List Txt}, rows.Nodup → (rows.flatMap (bef s)).Nodup
  | [], _ => by simp
  | r :: rows, h => by
    rw [List.nodup_cons] at h
    rw [List.flatMap_cons, List.nodup_append]
    refine ⟨bef_nodup _ _, flat_nodup h.2, fun a ha b hb e => ?_⟩
    subst e
    rw [List.mem_flatMap] at hb
    obtain ⟨r', hr, hb⟩ := hb
    rw [bef_mem] at ha hb
    exact h.1 (by rw [← ha, hb]; exact hr)
theorem flat_cnt {s : St} {c : List St} {w : Txt} {n : Nat} (h : Cnt (fun t => formed (s :: c) t = w) n) : ((rootsB c w).flatMap (bef s)).length ≤ n :=
  h _ (flat_nodup (roots_nodup _ _)) fun t ht => by
    rw [List.mem_flatMap] at ht
    obtain ⟨u, hu, ht⟩ := ht
    rw [bef_mem] at ht
    rw [formed_cons, ht]; exact roots_mem.mp hu
end Fi.R
end

section
/-! R2: how many texts become a word by a chain of up to four steps: 4094 at most. Plain. Own work. -/
namespace Fi.R
open PySem Fi

/-! ### counting -/
theorem nodup_le {α : Type} : ∀ {L E : List α}, L.Nodup → (∀ t ∈ L, t ∈ E) → L.length ≤ E.length
  | [], E, _, _ => Nat.zero_le _
  | x :: L, E, h, hs => by
    classical
    rw [List.nodup_cons] at h
    have hx := hs x (by simp)
    have h2 : L.length ≤ (E.erase x).length := nodup_le h.2 fun t ht => by
      have hne : t ≠ x := fun e => h.1 (e ▸ ht)
      exact (List.mem_erase_of_ne hne).mpr (hs t (by simp [ht]))
    rw [List.length_erase_of_mem hx] at h2
    have := List.length_pos_of_mem hx
    simp only [List.length_cons]; omega
theorem filter_two {α : Type} (p : α → Bool) : ∀ L : List α, (L.filter p).length + (L.filter fun t => !p t).length = L.length
  | [] => rfl
  | x :: L => by
    have := filter_two p L
    cases h : p x <;> simp [List.filter_cons, h] <;> omega
theorem Cnt.mono {p q : Txt → Prop} {n m : Nat} (h : Cnt q n) (hp : ∀ t, p t → q t) (hn : n ≤ m) : Cnt p m :=
  fun L a b => Nat.le_trans (h L a fun t ht => hp t (b t ht)) hn
theorem Cnt.or {p q : Txt → Prop} {n m : Nat} (h1 : Cnt p n) (h2 : Cnt q m) : Cnt (fun t => p t ∨ q t) (n + m) := fun L a b => by
  classical
  rw [← filter_two (fun t => decide (p t)) L]
  refine Nat.add_le_add (h1 _ (a.filter _) fun t ht => ?_) (h2 _ (a.filter _) fun t ht => ?_)
  · rw [List.mem_filter] at ht; simpa using ht.2
  · rw [List.mem_filter] at ht
    exact (b t ht.1).resolve_left (by simpa using ht.2)
theorem Cnt.none {p : Txt → Prop} (h : ∀ t, ¬ p t) : Cnt p 0 := fun L _ b => by
  cases L with
  | nil => simp
  | cons x L => exact absurd (b x (by simp)) (h x)
theorem Cnt.list {α : Type} {p : α → Txt → Prop} {n : α → Nat} : ∀ {xs : List α}, (∀ x ∈ xs, Cnt (p x) (n x)) → Cnt (fun t => ∃ x ∈ xs, p x t) (xs.map n).sum
  | [], _ => Cnt.none (by simp)
  | x :: xs, h => by
    refine ((h x (by simp)).or (Cnt.list (xs := xs) fun y hy => h y (by simp [hy]))).mono (fun t ht => ?_) (by simp)
    obtain ⟨y, hy, ht⟩ := ht
    rcases List.mem_cons.mp hy with rfl | hy
    · exact .inl ht
    · exact .inr ⟨y, hy, ht⟩
/-- letters among letters, place by place -/
def Mt : Txt → List (List Nat) → Prop
  | [], [] => True
  | x :: t, S :: Q => x ∈ S ∧ Mt t Q
  | _, _ => False
def sz : List (List Nat) → Nat
  | [] => 1
  | S :: Q => S.length * sz Q
def en : List (List Nat) → List Txt
  | [] => [[]]
  | S :: Q => S.flatMap fun x => (en Q).map (x :: ·)
theorem en_len : ∀ Q, (en Q).length = sz Q
  | [] => rfl
  | S :: Q => by
    unfold en sz
    rw [List.length_flatMap]
    simp only [List.length_map, en_len Q]
    induction S with
    | nil => simp
    | cons x S ih => simp only [List.map_cons, List.sum_cons, ih, List.length_cons, Nat.add_mul]; omega
theorem en_mem : ∀ {Q : List (List Nat)} {t : Txt}, Mt t Q → t ∈ en Q
  | [], [], _ => by simp [en]
  | [], _ :: _, h => h.elim
  | _ :: _, [], h => h.elim
  | S :: Q, x :: t, h => by
    unfold en
    rw [List.mem_flatMap]
    exact ⟨x, h.1, List.mem_map.mpr ⟨t, en_mem h.2, rfl⟩⟩
theorem Cnt.mt (Q : List (List Nat)) : Cnt (fun t => Mt t Q) (sz Q) := fun L a b => by
  rw [← en_len]
  exact nodup_le a fun t ht => en_mem (b t ht)
theorem Mt.len : ∀ {t : Txt} {Q : List (List Nat)}, Mt t Q → t.length = Q.length
  | [], [], _ => rfl
  | [], _ :: _, h => h.elim
  | _ :: _, [], h => h.elim
  | _ :: _, _ :: _, h => by simp [Mt.len h.2]
theorem Mt.app : ∀ {t : Txt} {Q : List (List Nat)} {t' : Txt} {Q' : List (List Nat)}, Mt t Q → Mt t' Q' → Mt (t ++ t') (Q ++ Q')
  | [], [], _, _, _, h => h
  | [], _ :: _, _, _, h, _ => h.elim
  | _ :: _, [], _, _, h, _ => h.elim
  | _ :: _, _ :: _, _, _, h, h' => ⟨h.1, Mt.app h.2 h'⟩
theorem Mt.take : ∀ {t u : Txt} {Q : List (List Nat)}, Mt (t ++ u) Q → Mt t (Q.take (Q.length - u.length))
  | [], u, Q, h => by
    have := h.len
    simp only [List.nil_append] at this
    rw [this]; simp [Mt]
  | _ :: _, _, [], h => h.elim
  | x :: t, u, S :: Q, h => by
    have h2 : Mt (t ++ u) Q := h.2
    have := h2.len
    rw [List.length_append] at this
    rw [show (S :: Q).length - u.length = (Q.length - u.length) + 1 by simp only [List.length_cons]; omega, List.take_succ_cons]
    exact ⟨h.1, Mt.take h2⟩
theorem Mt.drop : ∀ {u t : Txt} {Q : List (List Nat)}, Mt (u ++ t) Q → Mt t (Q.drop u.length)
  | [], t, Q, h => h
  | _ :: _, _, [], h => h.elim
  | x :: u, t, S :: Q, h => Mt.drop (u := u) h.2
theorem Mt.self : ∀ t : Txt, Mt t (t.map fun x => [x])
  | [] => trivial
  | x :: t => ⟨by simp, Mt.self t⟩
/-- letter by letter -/
theorem Mt.of {t : Txt} {Q : List (List Nat)} (hl : t.length = Q.length) (h : ∀ (i x : Nat) (S : List Nat), t[i]? = some x → Q[i]? = some S → x ∈ S) : Mt t Q := by
  induction t generalizing Q with
  | nil => cases Q with
    | nil => trivial
    | cons => simp at hl
  | cons x t ih => cases Q with
    | nil => simp at hl
    | cons S Q => exact ⟨h 0 x S rfl rfl, ih (by simpa using hl) fun i y U hy hU => h (i + 1) y U (by simpa using hy) (by simpa using hU)⟩
theorem Mt.get {t : Txt} {Q : List (List Nat)} (h : Mt t Q) : ∀ {i : Nat} {x : Nat} {S : List Nat}, t[i]? = some x → Q[i]? = some S → x ∈ S := by
  induction t generalizing Q with
  | nil => intro i x S hx; simp at hx
  | cons y t ih => cases Q with
    | nil => exact h.elim
    | cons U Q =>
      intro i x S hx hS
      cases i with
      | zero => simp at hx hS; subst hx; subst hS; exact h.1
      | succ i => exact ih h.2 (by simpa using hx) (by simpa using hS)

/-! ### three letters, and all others -/
inductive L3 where | a | b | c
  deriving DecidableEq
def L3.n : L3 → Nat
  | .a => 97 | .b => 98 | .c => 99
structure LS where
  a : Bool
  b : Bool
  c : Bool
  deriving DecidableEq
def LS.has (m : LS) : L3 → Bool
  | .a => m.a | .b => m.b | .c => m.c
def LS.or (m k : LS) : LS := ⟨m.a || k.a, m.b || k.b, m.c || k.c⟩
def LS.none : LS := ⟨false, false, false⟩
def LS.only : L3 → LS
  | .a => ⟨true, false, false⟩ | .b => ⟨false, true, false⟩ | .c => ⟨false, false, true⟩
def LS.cnt (m : LS) : Nat := m.a.toNat + m.b.toNat + m.c.toNat
def LS.ls (m : LS) : List Nat := (if m.a then [97] else []) ++ (if m.b then [98] else []) ++ (if m.c then [99] else [])
theorem LS.ls_len (m : LS) : m.ls.length = m.cnt := by
  obtain ⟨a, b, c⟩ := m; cases a <;> cases b <;> cases c <;> rfl
theorem LS.mem (m : LS) (x : Nat) : x ∈ m.ls ↔ ∃ i : L3, x = i.n ∧ m.has i = true := by
  obtain ⟨a, b, c⟩ := m
  constructor
  · intro h
    cases a <;> cases b <;> cases c <;> simp [LS.ls] at h
    all_goals first
      | (rcases h with rfl | rfl | rfl)
      | (rcases h with rfl | rfl)
      | subst h
    all_goals first
      | exact ⟨.a, rfl, rfl⟩
      | exact ⟨.b, rfl, rfl⟩
      | exact ⟨.c, rfl, rfl⟩
  · rintro ⟨i, rfl, h⟩
    cases i <;> simp only [LS.has] at h <;> subst h <;> simp [LS.ls, L3.n]
inductive PE where
  | o (z : Nat) | s (m : LS)
def PE.ls : PE → List Nat
  | .o z => [z]
  | .s m => m.ls
def PE.ok : PE → Prop
  | .o z => ∀ i : L3, z ≠ i.n
  | .s m => m ≠ .none
/-- what the letters may become, undone; how often besides -/
structure Sg where
  A : LS
  B : LS
  C : LS
  K : Nat
def Sg.at (g : Sg) : L3 → LS
  | .a => g.A | .b => g.B | .c => g.C
def Sg.of (g : Sg) (m : LS) : LS := ((if m.a then g.A else .none).or (if m.b then g.B else .none)).or (if m.c then g.C else .none)
def Sg.w (g : Sg) : PE → Nat
  | .o _ => 1
  | .s m => (g.of m).cnt
def Sg.pr (g : Sg) : List PE → Nat
  | [] => 1
  | p :: Q => g.w p * g.pr Q
inductive Cd where
  | near (x y : L3) | swp (x y : L3) | cut (p : List L3) | skip | dbl
  deriving DecidableEq
def Sg.prL (g : Sg) : List L3 → Nat
  | [] => 1
  | x :: p => (g.at x).cnt * g.prL p
def Sg.put (g : Sg) : L3 → LS → Sg
  | .a, m => { g with A := m }
  | .b, m => { g with B := m }
  | .c, m => { g with C := m }
def Sg.up (g : Sg) : Cd → Sg
  | .near x y => g.put y ((g.at y).or (g.at x))
  | .swp x y => (g.put x (g.at y)).put y (g.at x)
  | .cut p => { g with K := g.K * (1 + g.prL p) }
  | .skip => g
  | .dbl => { g with K := g.K * 2 }
def Abs : St → Cd → Prop
  | .nea _ a b _, .near x y => a = x.n ∧ b = y.n ∧ x ≠ y
  | .swp a b, .swp x y => a = x.n ∧ b = y.n ∧ x ≠ y
  | .cut p, .cut q => p = q.map L3.n
  | .fin _, .skip => True
  | .fro _, .skip => True
  | .dbl n, .dbl => n = 1 ∨ n = 2
  | _, _ => False
def Sg.Ok (g : Sg) : Prop := g.A ≠ .none ∧ g.B ≠ .none ∧ g.C ≠ .none
/-- the claim: rs is undone, the first of it first -/
def Cl (rs : List St) (g : Sg) : Prop := g.Ok ∧ ∀ Q : List PE, (∀ p ∈ Q, p.ok) → Cnt (fun t => Mt (formed rs.reverse t) (Q.map PE.ls)) (g.K * g.pr Q)
def g0 : Sg := ⟨.only .a, .only .b, .only .c, 1⟩
theorem g0_of (m : LS) : g0.of m = m := by obtain ⟨a, b, c⟩ := m; cases a <;> cases b <;> cases c <;> rfl
theorem g0_pr : ∀ Q : List PE, g0.pr Q = sz (Q.map PE.ls)
  | [] => rfl
  | p :: Q => by
    rw [Sg.pr, g0_pr Q, List.map_cons, sz]
    congr 1
    cases p with
    | o z => rfl
    | s m => show (g0.of m).cnt = m.ls.length; rw [g0_of, LS.ls_len]
theorem cl_nil : Cl [] g0 := ⟨⟨by decide, by decide, by decide⟩, fun Q _ => by
  have : g0.K * g0.pr Q = sz (Q.map PE.ls) := by rw [g0_pr]; show 1 * _ = _; omega
  rw [this]
  exact Cnt.mt _⟩
theorem LS.or_ne {m k : LS} (h : m ≠ .none) : m.or k ≠ .none := by
  obtain ⟨a, b, c⟩ := m; obtain ⟨d, e, f⟩ := k
  revert h; cases a <;> cases b <;> cases c <;> cases d <;> cases e <;> cases f <;> decide
theorem LS.or_ne' {m k : LS} (h : k ≠ .none) : m.or k ≠ .none := by
  obtain ⟨a, b, c⟩ := m; obtain ⟨d, e, f⟩ := k
  revert h; cases a <;> cases b <;> cases c <;> cases d <;> cases e <;> cases f <;> decide
theorem LS.cnt_pos {m : LS} (h : m ≠ .none) : 1 ≤ m.cnt := by
  obtain ⟨a, b, c⟩ := m
  revert h; cases a <;> cases b <;> cases c <;> decide
theorem Sg.of_ne {g : Sg} (h : g.Ok) {m : LS} (hm : m ≠ .none) : g.of m ≠ .none := by
  obtain ⟨a, b, c⟩ := m
  unfold Sg.of
  cases a with
  | true => exact LS.or_ne (LS.or_ne (by simpa using h.1))
  | false => cases b with
    | true => exact LS.or_ne (LS.or_ne' (by simpa using h.2.1))
    | false => cases c with
      | true => exact LS.or_ne' (by simpa using h.2.2)
      | false => exact absurd rfl hm
theorem Sg.w_pos {g : Sg} (h : g.Ok) {p : PE} (hp : p.ok) : 1 ≤ g.w p := by
  cases p with
  | o z => exact Nat.le_refl _
  | s m => exact LS.cnt_pos (Sg.of_ne h hp)
theorem Sg.pr_pos {g : Sg} (h : g.Ok) : ∀ {Q : List PE}, (∀ p ∈ Q, p.ok) → 1 ≤ g.pr Q
  | [], _ => Nat.le_refl _
  | p :: Q, hQ => Nat.mul_le_mul (Sg.w_pos h (hQ p (by simp))) (Sg.pr_pos h fun q hq => hQ q (by simp [hq]))
theorem Sg.pr_app (g : Sg) : ∀ (Q R : List PE), g.pr (Q ++ R) = g.pr Q * g.pr R
  | [], R => by simp [Sg.pr]
  | p :: Q, R => by rw [List.cons_append, Sg.pr, Sg.pr_app g Q R, Sg.pr, Nat.mul_assoc]
theorem Sg.pr_take {g : Sg} (h : g.Ok) {Q : List PE} (hQ : ∀ p ∈ Q, p.ok) (n : Nat) : g.pr (Q.take n) ≤ g.pr Q := by
  have e := Sg.pr_app g (Q.take n) (Q.drop n)
  rw [List.take_append_drop] at e
  rw [e]
  exact Nat.le_mul_of_pos_right _ (Sg.pr_pos h fun p hp => hQ p (List.mem_of_mem_drop hp))
theorem Sg.pr_drop {g : Sg} (h : g.Ok) {Q : List PE} (hQ : ∀ p ∈ Q, p.ok) (n : Nat) : g.pr (Q.drop n) ≤ g.pr Q := by
  have e := Sg.pr_app g (Q.take n) (Q.drop n)
  rw [List.take_append_drop] at e
  rw [e]
  exact Nat.le_mul_of_pos_left _ (Sg.pr_pos h fun p hp => hQ p (List.mem_of_mem_take hp))
/-- letter by letter, a step undone -/
theorem map_mt {f : Txt → Txt} {φ : PE → PE} (hl : ∀ t, (f t).length = t.length) (h : ∀ (t : Txt) (i x : Nat) (p : PE), t[i]? = some x → p.ok → (∀ y, (f t)[i]? = some y → y ∈ p.ls) → x ∈ (φ p).ls) {t : Txt} {Q : List PE} (hQ : ∀ p ∈ Q, p.ok)
    (m : Mt (f t) (Q.map PE.ls)) : Mt t ((Q.map φ).map PE.ls) := by
  have e := m.len
  rw [hl, List.length_map] at e
  refine Mt.of (by simp [e]) fun i x S hx hS => ?_
  rw [List.map_map, List.getElem?_map, Option.map_eq_some_iff] at hS
  obtain ⟨p, hp, rfl⟩ := hS
  refine h t i x p hx (hQ p (List.mem_of_getElem? hp)) fun y hy => m.get hy ?_
  rw [List.getElem?_map, hp]; rfl
def nearP (x y : L3) : PE → PE
  | .o z => .o z
  | .s m => .s (if m.has y = true then m.or (.only x) else m)
def swpP (x y : L3) : PE → PE
  | .o z => .o z
  | .s m => .s (((if m.has x = true then LS.only y else .none).or (if m.has y = true then LS.only x else .none)).or
      ⟨m.a && x != .a && y != .a, m.b && x != .b && y != .b, m.c && x != .c && y != .c⟩)
theorem near_ok {x y : L3} {p : PE} (h : p.ok) : (nearP x y p).ok := by
  cases p with
  | o z => exact h
  | s m =>
    show (if m.has y = true then _ else _) ≠ _
    split
    · exact LS.or_ne h
    · exact h
theorem swp_ok {x y : L3} {p : PE} (h : p.ok) : (swpP x y p).ok := by
  cases p with
  | o z => exact h
  | s m =>
    obtain ⟨a, b, c⟩ := m
    revert h
    cases a <;> cases b <;> cases c <;> cases x <;> cases y <;> simp [PE.ok, swpP, LS.none, LS.has, LS.only, LS.or]
theorem near_pr {g : Sg} {x y : L3} (hne : x ≠ y) : ∀ Q : List PE, g.pr (Q.map (nearP x y)) = (g.up (.near x y)).pr Q
  | [] => rfl
  | p :: Q => by
    rw [List.map_cons, Sg.pr, Sg.pr, near_pr hne Q]
    congr 1
    cases p with
    | o z => rfl
    | s m =>
      show (g.of _).cnt = (Sg.of _ m).cnt
      congr 1
      obtain ⟨A, B, C, K⟩ := g
      obtain ⟨a, b, c⟩ := m
      obtain ⟨A1, A2, A3⟩ := A
      obtain ⟨B1, B2, B3⟩ := B
      obtain ⟨C1, C2, C3⟩ := C
      cases x <;> cases y <;> first | exact absurd rfl hne | (cases a <;> cases b <;> cases c <;> simp [Sg.of, Sg.up, Sg.put, Sg.at, LS.has, LS.or, LS.only, LS.none, Bool.or_comm, Bool.or_left_comm])
theorem swp_pr {g : Sg} {x y : L3} (hne : x ≠ y) : ∀ Q : List PE, g.pr (Q.map (swpP x y)) = (g.up (.swp x y)).pr Q
  | [] => rfl
  | p :: Q => by
    rw [List.map_cons, Sg.pr, Sg.pr, swp_pr hne Q]
    congr 1
    cases p with
    | o z => rfl
    | s m =>
      show (g.of _).cnt = (Sg.of _ m).cnt
      congr 1
      obtain ⟨A, B, C, K⟩ := g
      obtain ⟨a, b, c⟩ := m
      obtain ⟨A1, A2, A3⟩ := A
      obtain ⟨B1, B2, B3⟩ := B
      obtain ⟨C1, C2, C3⟩ := C
      cases x <;> cases y <;> first | exact absurd rfl hne | (cases a <;> cases b <;> cases c <;> simp [Sg.of, Sg.up, Sg.put, Sg.at, LS.has, LS.or, LS.only, LS.none, Bool.or_comm, Bool.or_left_comm])
theorem swp_K (g : Sg) (x y : L3) : (g.up (.swp x y)).K = g.K := by cases x <;> cases y <;> rfl
theorem near_K (g : Sg) (x y : L3) : (g.up (.near x y)).K = g.K := by cases x <;> cases y <;> rfl
theorem up_ok {g : Sg} (h : g.Ok) (c : Cd) : (g.up c).Ok := by
  obtain ⟨h1, h2, h3⟩ := h
  cases c with
  | near x y => cases x <;> cases y <;> refine ⟨?_, ?_, ?_⟩ <;> first | exact h1 | exact h2 | exact h3 | exact LS.or_ne h1 | exact LS.or_ne h2 | exact LS.or_ne h3
  | swp x y => cases x <;> cases y <;> refine ⟨?_, ?_, ?_⟩ <;> first | exact h1 | exact h2 | exact h3
  | cut p => exact ⟨h1, h2, h3⟩
  | skip => exact ⟨h1, h2, h3⟩
  | dbl => exact ⟨h1, h2, h3⟩
theorem chg_get {bf : Bool} {a b : Nat} {g t : Txt} {i x : Nat} (h : t[i]? = some x) : (chg bf a b g t)[i]? = some (if x = a ∧ lets g (nb bf t i) = true then b else x) := by
  unfold chg
  have hi := (List.getElem?_eq_some_iff.mp h).1
  rw [List.getElem?_map, List.getElem?_range hi]
  simp only [Option.map_some, chg1, List.getD_eq_getElem?_getD, h, Option.getD_some]
theorem formed_rev (s : St) (rs : List St) (t : Txt) : formed (s :: rs).reverse t = stp s (formed rs.reverse t) := by
  rw [List.reverse_cons, formed_app]; rfl
theorem n_inj {x y : L3} (h : x.n = y.n) : x = y := by cases x <;> cases y <;> first | rfl | (revert h; decide)
theorem has_or (m k : LS) (i : L3) : (m.or k).has i = (m.has i || k.has i) := by cases i <;> rfl
theorem has_only (i j : L3) : (LS.only i).has j = decide (i = j) := by cases i <;> cases j <;> rfl
theorem cut_cases {p v w : Txt} (h : stp (.cut p) v = w) : (v = w ∧ ¬ p <:+ w) ∨ v = w ++ p := by
  simp only [stp] at h
  split at h
  · rename_i hp
    exact .inr (by rw [← h]; exact (suffix_take hp).symm)
  · rename_i hp
    exact .inl ⟨h, by rw [← h]; exact hp⟩
def sgP (x : L3) : PE := .s (.only x)
theorem sgP_map : ∀ q : List L3, (q.map sgP).map PE.ls = (q.map L3.n).map fun x => [x]
  | [] => rfl
  | x :: q => by
    simp only [List.map_cons, sgP_map q]
    congr 1
    cases x <;> rfl
theorem sgP_pr (g : Sg) : ∀ q : List L3, g.pr (q.map sgP) = g.prL q
  | [] => rfl
  | x :: q => by
    rw [List.map_cons, Sg.pr, Sg.prL, sgP_pr g q]
    congr 1
    obtain ⟨⟨A1, A2, A3⟩, ⟨B1, B2, B3⟩, ⟨C1, C2, C3⟩, K⟩ := g
    cases x <;> simp [sgP, Sg.w, Sg.of, LS.only, LS.or, LS.none, Sg.at]
theorem pr_K (g : Sg) (k : Nat) : ∀ Q : List PE, ({ g with K := k } : Sg).pr Q = g.pr Q
  | [] => rfl
  | p :: Q => by rw [Sg.pr, Sg.pr, pr_K g k Q]; cases p <;> rfl
theorem cl_up {rs : List St} {g : Sg} {s : St} {c : Cd} (h : Cl rs g) (hs : Abs s c) : Cl (s :: rs) (g.up c) := by
  obtain ⟨ok, h⟩ := h
  refine ⟨up_ok ok c, fun Q hQ => ?_⟩
  cases s with
  | nea bf a b gg =>
    cases c with
    | near x y =>
      obtain ⟨rfl, rfl, hne⟩ := hs
      rw [near_K, ← near_pr hne]
      refine (h (Q.map (nearP x y)) fun p hp => ?_).mono (fun t ht => ?_) (Nat.le_refl _)
      · obtain ⟨q, hq, rfl⟩ := List.mem_map.mp hp
        exact near_ok (hQ q hq)
      · rw [formed_rev] at ht
        refine map_mt (f := stp (.nea bf x.n y.n gg)) (fun t => chg_length _ _ _ _ _) (fun t i z p hz hp hy => ?_) hQ ht
        have hy := hy _ (chg_get hz)
        cases p with
        | o u =>
          show z ∈ [u]
          have hy : _ ∈ [u] := hy
          rw [List.mem_singleton] at hy ⊢
          split at hy
          · exact absurd hy.symm (hp y)
          · exact hy
        | s m =>
          show z ∈ (LS.ls _)
          have hy : _ ∈ m.ls := hy
          rw [LS.mem] at hy ⊢
          obtain ⟨i, e, hi⟩ := hy
          split at e
          · rename_i cc
            have := n_inj e
            subst this
            refine ⟨x, cc.1, ?_⟩
            rw [if_pos hi, has_or, has_only]; simp
          · refine ⟨i, e, ?_⟩
            split
            · rw [has_or, hi]; rfl
            · exact hi
    | _ => exact hs.elim
  | swp a b =>
    cases c with
    | swp x y =>
      obtain ⟨rfl, rfl, hne⟩ := hs
      rw [swp_K, ← swp_pr hne]
      refine (h (Q.map (swpP x y)) fun p hp => ?_).mono (fun t ht => ?_) (Nat.le_refl _)
      · obtain ⟨q, hq, rfl⟩ := List.mem_map.mp hp
        exact swp_ok (hQ q hq)
      · rw [formed_rev] at ht
        refine map_mt (f := stp (.swp x.n y.n)) (fun t => List.length_map _) (fun t i z p hz hp hy => ?_) hQ ht
        have hy := hy (sw x.n y.n z) (by show (t.map _)[i]? = _; rw [List.getElem?_map, hz]; rfl)
        cases p with
        | o u =>
          show z ∈ [u]
          have hy : _ ∈ [u] := hy
          rw [List.mem_singleton] at hy ⊢
          unfold sw at hy
          split at hy
          · exact absurd hy.symm (hp y)
          · split at hy
            · exact absurd hy.symm (hp x)
            · exact hy
        | s m =>
          show z ∈ (LS.ls _)
          have hy : _ ∈ m.ls := hy
          rw [LS.mem] at hy ⊢
          obtain ⟨i, e, hi⟩ := hy
          unfold sw at e
          split at e
          · rename_i cc
            have := n_inj e
            subst this
            refine ⟨x, cc, ?_⟩
            rw [has_or, has_or, if_pos hi, has_only]; simp
          · rename_i c1
            split at e
            · rename_i cc
              have := n_inj e
              subst this
              refine ⟨y, cc, ?_⟩
              rw [has_or, has_or, if_pos hi, has_only]; simp
            · rename_i c2
              subst e
              refine ⟨i, rfl, ?_⟩
              rw [has_or]
              have e1 : x ≠ i := fun e => c1 (by rw [e])
              have e2 : y ≠ i := fun e => c2 (by rw [e])
              cases i <;> simp only [LS.has] at hi ⊢ <;> simp [hi, e1, e2]
    | _ => exact hs.elim
  | cut p =>
    cases c with
    | cut q =>
      have hs : p = q.map L3.n := hs
      subst hs
      have hq : ∀ p ∈ q.map sgP, p.ok := fun p hp => by
        obtain ⟨x, _, rfl⟩ := List.mem_map.mp hp
        cases x <;> (show LS.only _ ≠ _; decide)
      have h2 := h (Q ++ q.map sgP) fun p hp => (List.mem_append.mp hp).elim (hQ p) (hq p)
      refine ((h Q hQ).or h2).mono (fun t ht => ?_) ?_
      · rw [formed_rev] at ht
        generalize hv : formed rs.reverse t = v at ht ⊢
        rcases cut_cases (w := stp (.cut (q.map L3.n)) v) rfl with ⟨e, _⟩ | e
        · left; rw [e]; exact ht
        · right
          rw [e, List.map_append, sgP_map]
          exact ht.app (Mt.self _)
      · rw [Sg.pr_app, sgP_pr]
        have e : (g.up (.cut q)).pr Q = g.pr Q := pr_K g _ Q
        rw [e]
        show _ ≤ g.K * (1 + g.prL q) * g.pr Q
        rw [Nat.mul_add, Nat.add_mul, Nat.mul_one, Nat.mul_right_comm, Nat.mul_assoc]
        simp [Nat.mul_assoc]
    | _ => exact hs.elim
  | fin p =>
    cases c with
    | skip =>
      refine (h (Q.take (Q.length - p.length)) fun q hq => hQ q (List.mem_of_mem_take hq)).mono (fun t ht => ?_) (Nat.mul_le_mul_left _ (Sg.pr_take ok hQ _))
      rw [formed_rev] at ht
      have := Mt.take ht
      rw [List.length_map, ← List.map_take] at this
      exact this
    | _ => exact hs.elim
  | fro p =>
    cases c with
    | skip =>
      refine (h (Q.drop p.length) fun q hq => hQ q (List.mem_of_mem_drop hq)).mono (fun t ht => ?_) (Nat.mul_le_mul_left _ (Sg.pr_drop ok hQ _))
      rw [formed_rev] at ht
      have := Mt.drop ht
      rw [← List.map_drop] at this
      exact this
    | _ => exact hs.elim
  | dbl n =>
    cases c with
    | dbl =>
      have hs : n = 1 ∨ n = 2 := hs
      refine ((h (Q.drop 1) fun q hq => hQ q (List.mem_of_mem_drop hq)).or (h (Q.drop 2) fun q hq => hQ q (List.mem_of_mem_drop hq))).mono (fun t ht => ?_) ?_
      · rw [formed_rev] at ht
        generalize hv : formed rs.reverse t = v at ht ⊢
        have ht : Mt (v.take n ++ v) _ := ht
        have h1 := Mt.drop ht
        rw [List.length_take, ← List.map_drop] at h1
        by_cases hn : v.length = 0
        · have hv : v = [] := List.eq_nil_of_length_eq_zero hn
          subst hv
          have := ht.len
          left
          have e : Q = [] := by cases Q; rfl; simp at this
          subst e; trivial
        · have : min n v.length = 1 ∨ min n v.length = 2 := by omega
          rcases this with e | e
          · left; rw [e] at h1; exact h1
          · right; rw [e] at h1; exact h1
      · have e : (g.up .dbl).pr Q = g.pr Q := pr_K g _ Q
        rw [e]
        have h1 := Nat.mul_le_mul_left g.K (Sg.pr_drop ok hQ 1)
        have h2 := Nat.mul_le_mul_left g.K (Sg.pr_drop ok hQ 2)
        show _ ≤ g.K * 2 * g.pr Q
        rw [Nat.mul_right_comm]; omega
    | _ => exact hs.elim
end Fi.R
end

section
/-! R3: the bound of roots. Plain. Own work. -/
namespace Fi.R
open PySem Fi

/-! ### all kinds of chains of up to four steps -/
def lawCds : List Cd := [.near .a .b, .near .b .c, .near .c .a, .near .a .c, .swp .a .b, .swp .b .c, .swp .c .a, .swp .a .c, .cut [.a], .cut [.b], .cut [.a, .b], .cut [.b, .a], .cut [.c], .skip, .dbl]
def Sg.M (g : Sg) : Nat := max g.A.cnt (max g.B.cnt g.C.cnt)
def pairs1 : List (List L3 × List L3) := [([.a], [.a, .b]), ([.a], [.b, .a]), ([.b], [.a, .b]), ([.b], [.b, .a]), ([.a, .b], [.a]), ([.b, .a], [.a]), ([.a, .b], [.b]), ([.b, .a], [.b]), ([.a, .b], [.a, .b]), ([.a, .b], [.b, .a]), ([.b, .a], [.a, .b]), ([.b, .a], [.b, .a])]
def pairs2 : List (List L3 × List L3) := [([.a], [.a, .b]), ([.a], [.b, .a]), ([.a, .b], [.a, .b]), ([.a, .b], [.b, .a]), ([.b, .a], [.a, .b]), ([.b, .a], [.b, .a])]
/-- chains that want a nearer look, the last step first -/
def exc : List Cd → Bool
  | [.cut q, .cut p, .near .a .b, .near .c .a] => pairs1.contains (p, q)
  | [.cut q, .near .a .b, .cut p, .near .c .a] => pairs2.contains (p, q)
  | _ => false
def chk (g : Sg) (rc : List Cd) : Bool := decide (g.K * g.M ^ 4 ≤ 4094) && decide (1 ≤ g.M) && (decide (g.K * g.M ^ 5 ≤ 4094) || exc rc && decide (g.C.cnt = 1))
def dfs : Nat → Sg → List Cd → Bool
  | 0, g, rc => chk g rc
  | n + 1, g, rc => chk g rc && lawCds.all fun c => dfs n (g.up c) (c :: rc)
theorem dfs4 : dfs 4 g0 [] = true := by decide +kernel
theorem dfs_all : ∀ (n : Nat) (g : Sg) (rc : List Cd), dfs n g rc = true → ∀ l : List Cd, l.length ≤ n → (∀ c ∈ l, c ∈ lawCds) → chk (l.foldr (fun c g => g.up c) g) (l ++ rc) = true
  | 0, g, rc, h, l, hl, _ => by
    have : l = [] := List.eq_nil_of_length_eq_zero (by omega)
    subst this; exact h
  | n + 1, g, rc, h, l, hl, hc => by
    unfold dfs at h
    rw [Bool.and_eq_true, List.all_eq_true] at h
    rcases List.eq_nil_or_concat l with rfl | ⟨l', c, rfl⟩
    · exact h.1
    · rw [List.concat_eq_append] at hl hc ⊢
      rw [List.foldr_append, List.append_assoc]
      exact dfs_all n (g.up c) (c :: rc) (h.2 c (hc c (by simp))) l' (by simp at hl; omega) fun d hd => hc d (by simp [hd])
def sigs : List Txt := [[97], [98], [97, 98], [98, 99], [97, 98, 99]]
/-- steps as the law draws them -/
def LawSt (s : St) : Prop := (∃ c ∈ lawCds, Abs s c) ∧ (∀ bf a b g, s = .nea bf a b g → g ∈ sigs)
inductive AllAbs : List St → List Cd → Prop
  | nil : AllAbs [] []
  | cons {s : St} {c : Cd} {rs : List St} {cs : List Cd} : Abs s c → AllAbs rs cs → AllAbs (s :: rs) (c :: cs)
theorem abs_all : ∀ rs : List St, (∀ s ∈ rs, LawSt s) → ∃ cs, AllAbs rs cs ∧ (∀ c ∈ cs, c ∈ lawCds) ∧ cs.length = rs.length
  | [], _ => ⟨[], .nil, by simp, rfl⟩
  | s :: rs, h => by
    obtain ⟨cs, h1, h2, h3⟩ := abs_all rs fun t ht => h t (by simp [ht])
    obtain ⟨c, hc, ha⟩ := (h s (by simp)).1
    exact ⟨c :: cs, .cons ha h1, fun d hd => (List.mem_cons.mp hd).elim (fun e => e ▸ hc) (h2 d), by simp [h3]⟩
def G (cs : List Cd) : Sg := cs.foldr (fun c g => g.up c) g0
theorem cl_all : ∀ {rs : List St} {cs : List Cd}, AllAbs rs cs → Cl rs (G cs)
  | _, _, .nil => cl_nil
  | _, _, .cons h r => cl_up (cl_all r) h
/-! ### a word's letters -/
def toP (z : Nat) : PE := if z = 97 then sgP .a else if z = 98 then sgP .b else if z = 99 then sgP .c else .o z
theorem toP_ls (z : Nat) : (toP z).ls = [z] := by
  unfold toP
  split
  · rename_i h; subst h; rfl
  · split
    · rename_i h; subst h; rfl
    · split
      · rename_i h; subst h; rfl
      · rfl
theorem toP_ok (z : Nat) : (toP z).ok := by
  unfold toP
  split
  · show LS.only _ ≠ _; decide
  · split
    · show LS.only _ ≠ _; decide
    · split
      · show LS.only _ ≠ _; decide
      · rename_i h1 h2 h3
        intro i; cases i <;> assumption
theorem of_only (g : Sg) (x : L3) : g.of (.only x) = g.at x := by
  obtain ⟨⟨A1, A2, A3⟩, ⟨B1, B2, B3⟩, ⟨C1, C2, C3⟩, K⟩ := g
  cases x <;> simp [Sg.of, LS.only, LS.or, LS.none, Sg.at]
theorem toP_w {g : Sg} (h : 1 ≤ g.M) (z : Nat) : g.w (toP z) ≤ g.M := by
  unfold toP
  split
  · show (g.of (.only .a)).cnt ≤ _; rw [of_only]; exact Nat.le_max_left _ _
  · split
    · show (g.of (.only .b)).cnt ≤ _; rw [of_only]; exact Nat.le_trans (Nat.le_max_left _ _) (Nat.le_max_right _ _)
    · split
      · show (g.of (.only .c)).cnt ≤ _; rw [of_only]; exact Nat.le_trans (Nat.le_max_right _ _) (Nat.le_max_right _ _)
      · exact h
theorem toP_pr {g : Sg} (h : 1 ≤ g.M) : ∀ w : Txt, g.pr (w.map toP) ≤ g.M ^ w.length
  | [] => Nat.le_refl _
  | z :: w => by
    rw [List.map_cons, Sg.pr, List.length_cons, Nat.pow_succ, Nat.mul_comm (g.M ^ w.length)]
    exact Nat.mul_le_mul (toP_w h z) (toP_pr h w)
theorem w_ls : ∀ w : Txt, (w.map toP).map PE.ls = w.map fun x => [x]
  | [] => rfl
  | z :: w => by rw [List.map_cons, List.map_cons, toP_ls, w_ls w]; rfl
theorem mt_eq : ∀ {t w : Txt}, t = w → Mt t (w.map fun x => [x])
  | _, _, rfl => Mt.self _
theorem cl_word {rs : List St} {g : Sg} (h : Cl rs g) (w : Txt) : Cnt (fun t => formed rs.reverse t = w) (g.K * g.pr (w.map toP)) :=
  (h.2 (w.map toP) fun p hp => by obtain ⟨z, _, rfl⟩ := List.mem_map.mp hp; exact toP_ok z).mono (fun t ht => by rw [w_ls]; exact mt_eq ht) (Nat.le_refl _)

/-! ### the nearer look -/
def U (z : Nat) : List Nat := if z = 97 then [97, 99] else [z]
def V (z : Nat) : List Nat := if z = 98 then [98, 97] else [z]
def W (z : Nat) : List Nat := if z = 98 then [97, 98, 99] else if z = 97 then [97, 99] else [z]
theorem u_v {x z y : Nat} (h1 : x ∈ U z) (h2 : z ∈ V y) : x ∈ W y := by
  unfold U at h1; unfold V at h2; unfold W
  split at h2
  · rename_i e
    rw [if_pos e]
    simp at h2
    rcases h2 with rfl | rfl
    · simp at h1; simp [h1]
    · simp at h1; rcases h1 with rfl | rfl <;> simp
  · rename_i e
    rw [if_neg e]
    simp at h2
    subst h2
    exact h1
theorem W_len (z : Nat) : (W z).length ≤ 3 := by unfold W; split; simp; split <;> simp
def F : Bool → Bool → Nat → List Nat
  | true, true, z => W z
  | true, false, z => U z
  | false, true, z => V z
  | false, false, z => [z]
def fn : Bool → Bool → Nat
  | true, true => 3
  | true, false => 2
  | false, true => 2
  | false, false => 1
theorem F_len (a b : Bool) (z : Nat) : (F a b z).length ≤ fn a b := by
  cases a <;> cases b
  · exact Nat.le_refl _
  · show (V z).length ≤ 2; unfold V; split <;> simp
  · show (U z).length ≤ 2; unfold U; split <;> simp
  · exact W_len z
def blk (s1 : Bool) : Txt → List (List Nat)
  | [] => []
  | [x] => [if s1 then [x] else U x]
  | x :: y :: r => U x :: blk s1 (y :: r)
theorem blk_mt {s1 : Bool} : ∀ {r R : Txt}, r.length = R.length → (∀ (i x y : Nat), r[i]? = some x → R[i]? = some y → x ∈ U y ∧ (s1 = true → i + 1 = R.length → x = y)) → Mt r (blk s1 R)
  | [], [], _, _ => trivial
  | [], _ :: _, h, _ => by simp at h
  | _ :: _, [], h, _ => by simp at h
  | [x], [y], _, h => by
    obtain ⟨h1, h2⟩ := h 0 x y rfl rfl
    refine ⟨?_, trivial⟩
    cases s1
    · exact h1
    · rw [h2 rfl rfl]; simp
  | [_], _ :: _ :: _, h, _ => by simp at h
  | _ :: _ :: _, [_], h, _ => by simp at h
  | x :: x' :: r, y :: y' :: R, hl, h => ⟨(h 0 x y rfl rfl).1, blk_mt (r := x' :: r) (R := y' :: R) (by simpa using hl) fun i a b ha hb => by
      obtain ⟨h1, h2⟩ := h (i + 1) a b (by simpa using ha) (by simpa using hb)
      exact ⟨h1, fun e e2 => h2 e (by simp only [List.length_cons] at e2 ⊢; omega)⟩⟩
/-- does a change near make these letters, the first one set aside where it looks back -/
def okR (s2 : Bool) (g2 es r : Txt) : Bool := (List.range es.length).all fun i => (!s2 && decide (i = 0)) || decide ((if r.getD i 0 = 97 ∧ lets g2 (nb s2 r i) = true then 98 else r.getD i 0) = es.getD i 0)
def Rs (s2 : Bool) (g2 es : Txt) : List Txt := (en (es.map V)).filter (okR s2 g2 es)
def num (s1 s2 : Bool) (g2 : Txt) (e : Nat) (S : List (Txt × Txt)) : Nat := (S.map fun s => ((Rs s2 g2 (e :: s.1)).map fun r => sz (blk s1 (r ++ s.2))).sum).sum
/-- a change near, letter by letter -/
theorem chg_U {bf : Bool} {a b : Nat} {g t u : Txt} (h : chg bf a b g t = u) : t.length = u.length ∧ ∀ (i x y : Nat), t[i]? = some x → u[i]? = some y → (x = y ∨ (x = a ∧ y = b)) ∧ (bf = true → i + 1 = u.length → x = y) ∧ (bf = false → i = 0 → x = y) ∧
    (if x = a ∧ lets g (nb bf t i) = true then b else x) = y := by
  subst h
  refine ⟨(chg_length _ _ _ _ _).symm, fun i x y hx hy => ?_⟩
  rw [chg_get hx] at hy
  have hy := Option.some.inj hy
  refine ⟨?_, fun e h2 => ?_, fun e h2 => ?_, hy⟩
  · split at hy
    · rename_i c; exact .inr ⟨c.1, hy.symm⟩
    · exact .inl hy
  · subst e
    rw [chg_length] at h2
    rw [if_neg] at hy
    · exact hy
    · unfold nb
      rw [if_pos rfl, List.getElem?_eq_none (by omega)]
      simp [lets]
  · subst e; subst h2
    rw [if_neg] at hy
    · exact hy
    · simp [nb, lets]
theorem in_U {x y : Nat} (h : x = y ∨ (x = 99 ∧ y = 97)) : x ∈ U y := by
  unfold U
  rcases h with rfl | ⟨rfl, rfl⟩
  · split
    · rename_i e; simp [e]
    · simp
  · simp
theorem in_V {x y : Nat} (h : x = y ∨ (x = 97 ∧ y = 98)) : x ∈ V y := by
  unfold V
  rcases h with rfl | ⟨rfl, rfl⟩
  · split
    · rename_i e; simp [e]
    · simp
  · simp
theorem in_F {s1 s2 : Bool} {x z y : Nat} (h1 : x ∈ U z) (h2 : z ∈ V y) (e1 : s1 = false → x = z) (e2 : s2 = false → z = y) : x ∈ F s1 s2 y := by
  cases s1 <;> cases s2
  · show x ∈ [y]; simp [e1 rfl, e2 rfl]
  · show x ∈ V y; rw [e1 rfl]; exact h2
  · show x ∈ U y; rw [← e2 rfl]; exact h1
  · exact u_v h1 h2
/-- texts of which two changes near make a word of five letters and more -/
theorem look {s1 s2 : Bool} {g1 g2 : Txt} {w0 w1 w2 w3 e : Nat} {s p' t t1 : Txt} (h1 : chg s1 99 97 g1 t = t1 ++ p') (h2 : chg s2 97 98 g2 t1 = w0 :: w1 :: w2 :: w3 :: e :: s) :
    ∃ r ∈ Rs s2 g2 (e :: s), Mt t (F s1 s2 w0 :: W w1 :: W w2 :: W w3 :: blk s1 (r ++ p')) := by
  obtain ⟨l2, c2⟩ := chg_U h2
  obtain ⟨l1, c1⟩ := chg_U h1
  match t1, l2, c2, l1, c1, h2 with
  | a0 :: a1 :: a2 :: a3 :: r, l2, c2, l1, c1, h2 =>
    have l2 : r.length = s.length + 1 := by simpa using l2
    match t, l1, c1 with
    | b0 :: b1 :: b2 :: b3 :: r0, l1, c1 =>
      have l1 : r0.length = r.length + p'.length := by simpa using l1
      have v0 := c2 0 a0 w0 rfl rfl
      have v1 := c2 1 a1 w1 rfl rfl
      have v2 := c2 2 a2 w2 rfl rfl
      have v3 := c2 3 a3 w3 rfl rfl
      have u0 := c1 0 b0 a0 rfl rfl
      have u1 := c1 1 b1 a1 rfl rfl
      have u2 := c1 2 b2 a2 rfl rfl
      have u3 := c1 3 b3 a3 rfl rfl
      refine ⟨r, ?_, in_F (in_U u0.1) (in_V v0.1) (fun e => u0.2.2.1 e rfl) (fun e => v0.2.2.1 e rfl), u_v (in_U u1.1) (in_V v1.1), u_v (in_U u2.1) (in_V v2.1), u_v (in_U u3.1) (in_V v3.1), ?_⟩
      · unfold Rs
        rw [List.mem_filter]
        constructor
        · refine en_mem (Mt.of (by simp [l2]) fun i x S hx hS => ?_)
          rw [List.getElem?_map, Option.map_eq_some_iff] at hS
          obtain ⟨y, hy, rfl⟩ := hS
          exact in_V (c2 (i + 4) x y (by simpa using hx) (by simpa using hy)).1
        · unfold okR
          rw [List.all_eq_true]
          intro i hi
          have hi : i < (e :: s).length := by simpa using hi
          have hi2 : i < r.length := by simp at hi; omega
          rw [Bool.or_eq_true, Bool.and_eq_true, decide_eq_true_eq, decide_eq_true_eq]
          by_cases z : s2 = false ∧ i = 0
          · left; simp [z.1, z.2]
          · right
            have q := (c2 (i + 4) r[i] ((e :: s)[i]) (by simp [hi2]) (by simpa using List.getElem?_eq_getElem hi)).2.2.2
            have n : nb s2 (a0 :: a1 :: a2 :: a3 :: r) (i + 4) = nb s2 r i := by
              unfold nb
              cases s2
              · have : 0 < i := by
                  rcases Nat.eq_zero_or_pos i with h | h
                  · exact absurd ⟨rfl, h⟩ z
                  · exact h
                simp only [Bool.false_eq_true, if_false, if_pos this, if_pos (show 0 < i + 4 by omega)]
                rw [show i + 4 - 1 = (i - 1) + 4 by omega]
                simp
              · simp only [if_true]
                rw [show i + 4 + 1 = (i + 1) + 4 by omega]
                simp
            rw [n] at q
            simp only [List.getD_eq_getElem?_getD, List.getElem?_eq_getElem hi2, List.getElem?_eq_getElem hi, Option.getD_some]
            exact q
      · refine blk_mt (by simp [l1]) fun i x y hx hy => ?_
        have q := c1 (i + 4) x y (by simpa using hx) (by simpa using hy)
        exact ⟨in_U q.1, fun e1 e2 => q.2.1 e1 (by simp at e2 ⊢; omega)⟩
    | [], l1, _ => simp at l1
    | [_], l1, _ => simp at l1
    | [_, _], l1, _ => simp at l1
    | [_, _, _], l1, _ => simp at l1
  | [], l2, _, _, _, _ => simp at l2
  | [_], l2, _, _, _, _ => simp at l2
  | [_, _], l2, _, _, _, _ => simp at l2
  | [_, _, _], l2, _, _, _, _ => simp at l2
theorem sz_le {s1 s2 : Bool} (w0 w1 w2 w3 : Nat) (B : List (List Nat)) : sz (F s1 s2 w0 :: W w1 :: W w2 :: W w3 :: B) ≤ fn s1 s2 * 27 * sz B := by
  simp only [sz]
  have h0 := F_len s1 s2 w0
  have h1 := W_len w1
  have h2 := W_len w2
  have h3 := W_len w3
  have e : fn s1 s2 * 27 * sz B = fn s1 s2 * (3 * (3 * (3 * sz B))) := by rw [show 27 = 3 * (3 * 3) from rfl]; simp only [Nat.mul_assoc]
  rw [e]
  exact Nat.mul_le_mul h0 (Nat.mul_le_mul h1 (Nat.mul_le_mul h2 (Nat.mul_le_mul h3 (Nat.le_refl _))))
theorem look_cnt {s1 s2 : Bool} {g1 g2 : Txt} {w0 w1 w2 w3 e : Nat} (S : List (Txt × Txt)) :
    Cnt (fun t => ∃ s ∈ S, ∃ t1, chg s1 99 97 g1 t = t1 ++ s.2 ∧ chg s2 97 98 g2 t1 = w0 :: w1 :: w2 :: w3 :: e :: s.1) (fn s1 s2 * 27 * num s1 s2 g2 e S) := by
  have h : ∀ s ∈ S, Cnt (fun t => ∃ t1, chg s1 99 97 g1 t = t1 ++ s.2 ∧ chg s2 97 98 g2 t1 = w0 :: w1 :: w2 :: w3 :: e :: s.1) (fn s1 s2 * 27 * ((Rs s2 g2 (e :: s.1)).map fun r => sz (blk s1 (r ++ s.2))).sum) := fun s _ => by
    have := Cnt.list (p := fun (r : Txt) t => Mt t (F s1 s2 w0 :: W w1 :: W w2 :: W w3 :: blk s1 (r ++ s.2))) (n := fun r => fn s1 s2 * 27 * sz (blk s1 (r ++ s.2))) (xs := Rs s2 g2 (e :: s.1)) fun r _ => (Cnt.mt _).mono (fun _ h => h) (sz_le _ _ _ _ _)
    refine this.mono (fun t ⟨t1, a, b⟩ => look a b) ?_
    generalize Rs s2 g2 (e :: s.1) = l
    induction l with
    | nil => simp
    | cons r l ih => simp only [List.map_cons, List.sum_cons, Nat.mul_add] at ih ⊢; omega
  refine (Cnt.list h).mono (fun t ht => ht) ?_
  unfold num
  generalize S = l
  induction l with
  | nil => simp
  | cons r l ih => simp only [List.map_cons, List.sum_cons, Nat.mul_add] at ih ⊢; omega
/-- what stands behind the word, of two cuts -/
def S1 (e : Nat) (p q : Txt) : List (Txt × Txt) := [(q ++ p, [])] ++ (if q = [e] then [] else [(p, [])]) ++ (if q.getLast? = p.head? ∧ p.length = 1 then [] else [(q, [])]) ++ (if q = [e] ∨ p = [e] then [] else [([], [])])
def S2 (p q : Txt) : List (Txt × Txt) := [([], []), ([], p), (q, []), (q, p)]
def tx (p : List L3) : Txt := p.map L3.n
def allP (f : Bool → Bool → Txt → Nat → Bool) : Bool := [true, false].all fun s1 => [true, false].all fun s2 => sigs.all fun g2 => [97, 98].all fun e => f s1 s2 g2 e
theorem num1 : allP (fun s1 s2 g2 e => pairs1.all fun pq => decide (fn s1 s2 * 27 * num s1 s2 g2 e (S1 e (tx pq.1) (tx pq.2)) ≤ 4094)) = true := by decide +kernel
theorem num2 : allP (fun s1 s2 g2 e => pairs2.all fun pq => decide (fn s1 s2 * 27 * num s1 s2 g2 e (S2 (tx pq.1) (tx pq.2)) ≤ 4094)) = true := by decide +kernel
theorem allP_get {f : Bool → Bool → Txt → Nat → Bool} (h : allP f = true) (s1 s2 : Bool) {g2 : Txt} (hg : g2 ∈ sigs) {e : Nat} (he : e = 97 ∨ e = 98) : f s1 s2 g2 e = true := by
  unfold allP at h
  simp only [List.all_eq_true] at h
  exact h s1 (by cases s1 <;> simp) s2 (by cases s2 <;> simp) g2 hg e (by rcases he with rfl | rfl <;> simp)
theorem suf_one {p : Txt} {w0 w1 w2 w3 e : Nat} (h : p = [e]) : p <:+ [w0, w1, w2, w3, e] := ⟨[w0, w1, w2, w3], by rw [h]; rfl⟩
theorem exc1 {s1 s2 : Bool} {g1 g2 : Txt} {w0 w1 w2 w3 e : Nat} {p q : List L3} (hp : (p, q) ∈ pairs1) (hg : g2 ∈ sigs) (he : e = 97 ∨ e = 98) :
    Cnt (fun t => formed [.nea s1 99 97 g1, .nea s2 97 98 g2, .cut (tx p), .cut (tx q)] t = [w0, w1, w2, w3, e]) 4094 := by
  have hn := allP_get num1 s1 s2 hg he
  rw [List.all_eq_true] at hn
  have hn := hn _ hp
  rw [decide_eq_true_eq] at hn
  refine (look_cnt (g1 := g1) (w0 := w0) (w1 := w1) (w2 := w2) (w3 := w3) (S1 e (tx p) (tx q))).mono (fun t ht => ?_) hn
  have ht : stp (.cut (tx q)) (stp (.cut (tx p)) (chg s2 97 98 g2 (chg s1 99 97 g1 t))) = [w0, w1, w2, w3, e] := ht
  generalize hu : chg s1 99 97 g1 t = u at ht
  generalize hv : chg s2 97 98 g2 u = v at ht
  generalize hx : stp (.cut (tx p)) v = x at ht
  have fin : ∀ s, (s, []) ∈ S1 e (tx p) (tx q) → v = [w0, w1, w2, w3, e] ++ s → ∃ s ∈ S1 e (tx p) (tx q), ∃ t1, u = t1 ++ s.2 ∧ chg s2 97 98 g2 t1 = w0 :: w1 :: w2 :: w3 :: e :: s.1 := fun s h1 h2 =>
    ⟨(s, []), h1, u, by simp, by rw [hv, h2]; rfl⟩
  rcases cut_cases ht with ⟨e1, n1⟩ | e1
  · have nq : tx q ≠ [e] := fun h => n1 (suf_one h)
    rcases cut_cases hx with ⟨e2, n2⟩ | e2
    · refine fin [] ?_ (by rw [e2, e1]; rfl)
      have np : tx p ≠ [e] := fun h => n2 (by rw [e1]; exact suf_one h)
      simp [S1, nq, np]
    · refine fin (tx p) ?_ (by rw [e2, e1])
      simp [S1, nq]
  · rcases cut_cases hx with ⟨e2, n2⟩ | e2
    · refine fin (tx q) ?_ (by rw [e2, e1])
      have : ¬ ((tx q).getLast? = (tx p).head? ∧ (tx p).length = 1) := fun ⟨h1, h2⟩ => n2 (by
        rw [e1]
        match h3 : tx p, h2 with
        | [z], _ =>
          rw [h3] at h1
          have h1 : (tx q).getLast? = some z := h1
          obtain ⟨y, hy⟩ := List.getLast?_eq_some_iff.mp h1
          exact ⟨[w0, w1, w2, w3, e] ++ y, by rw [hy, List.append_assoc]⟩)
      unfold S1
      simp only [List.mem_append, List.mem_singleton]
      exact .inl (.inr (by rw [if_neg this]; simp))
    · refine fin (tx q ++ tx p) ?_ (by rw [e2, e1, List.append_assoc])
      simp [S1]
theorem exc2 {s1 s2 : Bool} {g1 g2 : Txt} {w0 w1 w2 w3 e : Nat} {p q : List L3} (hp : (p, q) ∈ pairs2) (hg : g2 ∈ sigs) (he : e = 97 ∨ e = 98) :
    Cnt (fun t => formed [.nea s1 99 97 g1, .cut (tx p), .nea s2 97 98 g2, .cut (tx q)] t = [w0, w1, w2, w3, e]) 4094 := by
  have hn := allP_get num2 s1 s2 hg he
  rw [List.all_eq_true] at hn
  have hn := hn _ hp
  rw [decide_eq_true_eq] at hn
  refine (look_cnt (g1 := g1) (w0 := w0) (w1 := w1) (w2 := w2) (w3 := w3) (S2 (tx p) (tx q))).mono (fun t ht => ?_) hn
  have ht : stp (.cut (tx q)) (chg s2 97 98 g2 (stp (.cut (tx p)) (chg s1 99 97 g1 t))) = [w0, w1, w2, w3, e] := ht
  generalize hu : chg s1 99 97 g1 t = u at ht
  generalize hx : stp (.cut (tx p)) u = x at ht
  generalize hv : chg s2 97 98 g2 x = v at ht
  have hs : ∃ s, (s = [] ∨ s = tx q) ∧ v = [w0, w1, w2, w3, e] ++ s := by
    rcases cut_cases ht with ⟨e1, _⟩ | e1
    · exact ⟨[], .inl rfl, by rw [e1]; rfl⟩
    · exact ⟨tx q, .inr rfl, e1⟩
  obtain ⟨s, hs, ev⟩ := hs
  have hp' : ∃ s', (s' = [] ∨ s' = tx p) ∧ u = x ++ s' := by
    rcases cut_cases hx with ⟨e1, _⟩ | e1
    · exact ⟨[], .inl rfl, by rw [e1]; simp⟩
    · exact ⟨tx p, .inr rfl, e1⟩
  obtain ⟨s', hs', eu⟩ := hp'
  refine ⟨(s, s'), ?_, x, eu, by rw [hv, ev]; rfl⟩
  rcases hs with rfl | rfl <;> rcases hs' with rfl | rfl <;> simp [S2]

/-! ### the bound -/
theorem abs_cut {s : St} {q : List L3} (h : Abs s (.cut q)) : s = .cut (tx q) := by
  cases s <;> first | exact h.elim | (have h : _ = _ := h; subst h; rfl)
theorem abs_near {s : St} {x y : L3} (h : Abs s (.near x y)) : ∃ bf g, s = .nea bf x.n y.n g := by
  cases s <;> first | exact h.elim | (obtain ⟨rfl, rfl, _⟩ := h; exact ⟨_, _, rfl⟩)
theorem exc_inv {rc : List Cd} (h : exc rc = true) : (∃ p q, (p, q) ∈ pairs1 ∧ rc = [.cut q, .cut p, .near .a .b, .near .c .a]) ∨ (∃ p q, (p, q) ∈ pairs2 ∧ rc = [.cut q, .near .a .b, .cut p, .near .c .a]) := by
  unfold exc at h
  split at h
  · exact .inl ⟨_, _, by simpa using h, rfl⟩
  · exact .inr ⟨_, _, by simpa using h, rfl⟩
  · cases h
theorem bound {c : List St} (hc : ∀ s ∈ c, LawSt s) (hl : c.length ≤ 4) {w : Txt} (hw : w.length ≤ 5) : Cnt (fun t => formed c t = w) 4094 := by
  obtain ⟨cs, ha, hm, hcl⟩ := abs_all c.reverse fun s hs => hc s (by simpa using hs)
  have h := cl_word (cl_all ha) w
  rw [List.reverse_reverse] at h
  have hk := dfs_all 4 g0 [] dfs4 cs (by rw [hcl]; simpa using hl) hm
  rw [List.append_nil] at hk
  have hk : chk (G cs) cs = true := hk
  unfold chk at hk
  simp only [Bool.and_eq_true, Bool.or_eq_true, decide_eq_true_eq] at hk
  obtain ⟨⟨k4, kM⟩, k5⟩ := hk
  have hpr := toP_pr kM w
  by_cases h4 : w.length ≤ 4
  · refine h.mono (fun _ h => h) (Nat.le_trans (Nat.mul_le_mul_left _ (Nat.le_trans hpr (Nat.pow_le_pow_right kM h4))) k4)
  · have h5 : w.length = 5 := by omega
    rcases k5 with k5 | ⟨kx, kC⟩
    · refine h.mono (fun _ h => h) (Nat.le_trans (Nat.mul_le_mul_left _ ?_) k5)
      rw [h5] at hpr; exact hpr
    · match w, h5 with
      | [w0, w1, w2, w3, e], _ =>
        by_cases he : e = 97 ∨ e = 98
        · rcases exc_inv kx with ⟨p, q, hp, rfl⟩ | ⟨p, q, hp, rfl⟩
          · generalize hr : c.reverse = rs at ha
            have ec : c = rs.reverse := by rw [← hr, List.reverse_reverse]
            cases ha with
            | cons a1 ha => cases ha with
              | cons a2 ha => cases ha with
                | cons a3 ha => cases ha with
                  | cons a4 ha =>
                    cases ha
                    have e1 := abs_cut a1
                    have e2 := abs_cut a2
                    obtain ⟨s2, g2, e3⟩ := abs_near a3
                    obtain ⟨s1, g1, e4⟩ := abs_near a4
                    subst e1; subst e2; subst e3; subst e4
                    have hg : g2 ∈ sigs := (hc (.nea s2 97 98 g2) (by rw [ec]; simp [L3.n])).2 _ _ _ _ rfl
                    rw [ec]
                    exact exc1 hp hg he
          · generalize hr : c.reverse = rs at ha
            have ec : c = rs.reverse := by rw [← hr, List.reverse_reverse]
            cases ha with
            | cons a1 ha => cases ha with
              | cons a2 ha => cases ha with
                | cons a3 ha => cases ha with
                  | cons a4 ha =>
                    cases ha
                    have e1 := abs_cut a1
                    have e2 := abs_cut a3
                    obtain ⟨s2, g2, e3⟩ := abs_near a2
                    obtain ⟨s1, g1, e4⟩ := abs_near a4
                    subst e1; subst e2; subst e3; subst e4
                    have hg : g2 ∈ sigs := (hc (.nea s2 97 98 g2) (by rw [ec]; simp [L3.n])).2 _ _ _ _ rfl
                    rw [ec]
                    exact exc2 hp hg he
        · have hw1 : (G cs).w (toP e) = 1 := by
            unfold toP
            rw [if_neg (fun h => he (.inl h)), if_neg (fun h => he (.inr h))]
            split
            · show ((G cs).of (.only .c)).cnt = 1; rw [of_only]; exact kC
            · rfl
          have hp4 := toP_pr kM [w0, w1, w2, w3]
          refine h.mono (fun _ h => h) (Nat.le_trans (Nat.mul_le_mul_left _ ?_) k4)
          have : [w0, w1, w2, w3, e].map toP = [w0, w1, w2, w3].map toP ++ [toP e] := rfl
          rw [this, Sg.pr_app]
          show _ * ((G cs).w (toP e) * 1) ≤ _
          rw [hw1]
          simpa using hp4
end Fi.R
end

section
namespace K04
open PySem PySem.Spec L2 Fi
/-! swapped: sign=0 one=1 other=2 -/
def c_swapped : CB := (.cons (.ite (.op2 .eq (.var 0) (.var 1)) (.cons (.ret (.var 2)) .nil) .nil) (.cons (.ret (.ifx (.op2 .eq (.var 0) (.var 2)) (.var 1) (.var 0))) .nil))
def f_swapped : Fn := ⟨3, 3, [false, false, false], c_swapped⟩
/-! near: text=0 place=1 step=2 -/
def c_near : CB := (.cons (.ite (.op2 .eq (.idx (.var 2) (.con (.int 0))) (.con (.str [98, 101, 102, 111, 114, 101]))) (.cons (.ret (.cut (.var 0) (.so (.op2 .add (.var 1) (.con (.int 1)))) (.so (.op2 .add (.var 1) (.con (.int 2)))))) .nil) .nil) (.cons (.ret (.ifx (.op2 .gt (.var 1) (.con (.int 0))) (.cut (.var 0) (.so (.op2 .sub (.var 1) (.con (.int 1)))) (.so (.var 1))) (.con (.str [])))) .nil))
def f_near : Fn := ⟨3, 3, [false, false, false], c_near⟩
/-! changed_near: step=0 text=1 _=2 one=3 other=4 signs=5 found=6 place=7 beside=8 is_so=9 -/
def b1_changed_near : CB := (.cons (.asg (.nm 8) (.call "near" (.cons (.var 1) (.cons (.var 7) (.cons (.var 0) .nil))))) (.cons (.asg (.nm 9) (.and (.op2 .eq (.idx (.var 1) (.var 7)) (.var 3)) (.and (.op2 .ne (.var 8) (.con (.str []))) (.op2 .inn (.var 8) (.var 5))))) (.cons (.ex (.mut .append 6 (.cons (.ifx (.var 9) (.var 4) (.idx (.var 1) (.var 7))) .nil))) .nil)))
def c_changed_near : CB := (.cons (.asg (.tp [2, 3, 4, 5]) (.var 0)) (.cons (.asg (.nm 6) (.lst .nil)) (.cons (.for (.nm 7) (.rng1 (.blt .len (.cons (.var 1) .nil))) b1_changed_near) (.cons (.ret (.mth .join (.con (.str [])) (.cons (.var 6) .nil))) .nil))))
def f_changed_near : Fn := ⟨2, 10, [false, false], c_changed_near⟩
/-! stepped: step=0 text=1 word=2 many=3 sign=4 -/
def k1_stepped : CE := (.cmpV (.call "swapped" (.cons (.var 4) (.cons (.idx (.var 0) (.con (.int 1))) (.cons (.idx (.var 0) (.con (.int 2))) .nil)))) (.nm 4) 1 .nil [4])
def c_stepped : CB := (.cons (.asg (.nm 2) (.idx (.var 0) (.con (.int 0)))) (.cons (.ite (.op2 .eq (.var 2) (.con (.str [101, 110, 100]))) (.cons (.ret (.op2 .add (.var 1) (.idx (.var 0) (.con (.int 1))))) .nil) .nil) (.cons (.ite (.op2 .eq (.var 2) (.con (.str [102, 114, 111, 110, 116]))) (.cons (.ret (.op2 .add (.idx (.var 0) (.con (.int 1))) (.var 1))) .nil) .nil) (.cons (.ite (.op2 .eq (.var 2) (.con (.str [99, 117, 116]))) (.cons (.asg (.nm 3) (.blt .len (.cons (.idx (.var 0) (.con (.int 1))) .nil))) (.cons (.ret (.ifx (.and (.op2 .eq (.cut (.var 1) (.so (.op2 .sub (.blt .len (.cons (.var 1) .nil)) (.var 3))) .no) (.idx (.var 0) (.con (.int 1)))) (.op2 .le (.var 3) (.blt .len (.cons (.var 1) .nil)))) (.cut (.var 1) .no (.so (.op2 .sub (.blt .len (.cons (.var 1) .nil)) (.var 3)))) (.var 1))) .nil)) .nil) (.cons (.ite (.op2 .eq (.var 2) (.con (.str [115, 119, 97, 112]))) (.cons (.ret (.mth .join (.con (.str [])) (.cons k1_stepped .nil))) .nil) .nil) (.cons (.ret (.ifx (.op2 .eq (.var 2) (.con (.str [100, 111, 117, 98, 108, 101]))) (.op2 .add (.cut (.var 1) .no (.so (.idx (.var 0) (.con (.int 1))))) (.var 1)) (.call "changed_near" (.cons (.var 0) (.cons (.var 1) .nil))))) .nil))))))
def f_stepped : Fn := ⟨2, 5, [false, false], c_stepped⟩
/-! forms_on_way: chain=0 text=1 found=2 step=3 -/
def b1_forms_on_way : CB := (.cons (.ex (.mut .append 2 (.cons (.call "stepped" (.cons (.var 3) (.cons (.idx (.var 2) (.op1 .neg (.con (.int 1)))) .nil))) .nil))) .nil)
def c_forms_on_way : CB := (.cons (.asg (.nm 2) (.lst (.cons (.var 1) .nil))) (.cons (.for (.nm 3) (.seq (.var 0)) b1_forms_on_way) (.cons (.ret (.blt .tuple (.cons (.var 2) .nil))) .nil)))
def f_forms_on_way : Fn := ⟨2, 4, [false, false], c_forms_on_way⟩
/-! formed: chain=0 text=1 -/
def c_formed : CB := (.cons (.ret (.idx (.call "forms_on_way" (.cons (.var 0) (.cons (.var 1) .nil))) (.op1 .neg (.con (.int 1))))) .nil)
def f_formed : Fn := ⟨2, 2, [false, false], c_formed⟩
/-! by_length: texts=0 rows=1 text=2 _=3 -/
def k1_by_length : CE := (.cmpV (.var 2) (.tp [3, 2]) 1 .nil [3, 2])
def k2_by_length : CE := (.cmp (.tup (.cons (.blt .len (.cons (.var 2) .nil)) (.cons (.var 2) .nil))) (.mk (.nm 2) (.seq (.sset (.var 0))) .nil) [2])
def c_by_length : CB := (.cons (.asg (.nm 1) (.blt .sorted (.cons k2_by_length .nil))) (.cons (.ret (.blt .tuple (.cons k1_by_length .nil))) .nil))
def f_by_length : Fn := ⟨1, 4, [false], c_by_length⟩
/-! without_end: part=0 word=1 many=2 -/
def c_without_end : CB := (.cons (.asg (.nm 2) (.op2 .sub (.blt .len (.cons (.var 1) .nil)) (.blt .len (.cons (.var 0) .nil)))) (.cons (.ret (.ifx (.and (.op2 .ge (.var 2) (.con (.int 0))) (.op2 .eq (.cut (.var 1) (.so (.var 2)) .no) (.var 0))) (.lst (.cons (.cut (.var 1) .no (.so (.var 2))) .nil)) (.lst .nil))) .nil))
def f_without_end : Fn := ⟨2, 3, [false, false], c_without_end⟩
/-! without_front: part=0 word=1 -/
def c_without_front : CB := (.cons (.ret (.ifx (.op2 .eq (.cut (.var 1) .no (.so (.blt .len (.cons (.var 0) .nil)))) (.var 0)) (.lst (.cons (.cut (.var 1) (.so (.blt .len (.cons (.var 0) .nil))) .no) .nil)) (.lst .nil))) .nil)
def f_without_front : Fn := ⟨2, 2, [false, false], c_without_front⟩
/-! changes_back: step=0 word=1 _=2 one=3 other=4 signs=5 rows=6 is_before=7 places=8 place=9 longer=10 row=11 beside=12 lets=13 sign=14 able=15 -/
def b1_changes_back : CB := (.cons (.ex (.mut .append 10 (.cons (.ifx (.var 7) (.op2 .add (.var 14) (.var 11)) (.op2 .add (.var 11) (.var 14))) .nil))) .nil)
def k1_changes_back : CE := (.cmp (.var 14) (.mk (.nm 14) (.seq (.tup (.cons (.idx (.var 1) (.var 9)) (.cons (.var 3) .nil)))) (.cons (.op2 .eq (.call "made_beside" (.cons (.var 14) (.cons (.var 3) (.cons (.var 4) (.cons (.var 13) .nil))))) (.idx (.var 1) (.var 9))) .nil)) [14])
def b2_changes_back : CB := (.cons (.asg (.nm 12) (.ifx (.var 7) (.cut (.var 11) .no (.so (.con (.int 1)))) (.cut (.var 11) (.so (.op1 .neg (.con (.int 1)))) .no))) (.cons (.asg (.nm 13) (.and (.op2 .ne (.var 12) (.con (.str []))) (.op2 .inn (.var 12) (.var 5)))) (.cons (.asg (.nm 15) k1_changes_back) (.cons (.for (.nm 14) (.seq (.sset (.var 15))) b1_changes_back) .nil))))
def b3_changes_back : CB := (.cons (.asg (.nm 10) (.lst .nil)) (.cons (.for (.nm 11) (.seq (.var 6)) b2_changes_back) (.cons (.asg (.nm 6) (.var 10)) .nil)))
def c_changes_back : CB := (.cons (.asg (.tp [2, 3, 4, 5]) (.var 0)) (.cons (.par [6, 7, 8] (.cons (.lst (.cons (.con (.str [])) .nil)) (.cons (.op2 .eq (.idx (.var 0) (.con (.int 0))) (.con (.str [98, 101, 102, 111, 114, 101]))) (.cons (.lrng (.rng1 (.blt .len (.cons (.var 1) .nil)))) .nil)))) (.cons (.for (.nm 9) (.seq (.ifx (.var 7) (.rev (.var 8)) (.var 8))) b3_changes_back) (.cons (.ret (.var 6)) .nil))))
def f_changes_back : Fn := ⟨2, 16, [false, false], c_changes_back⟩
/-! made_beside: sign=0 one=1 other=2 lets=3 -/
def c_made_beside : CB := (.cons (.ret (.ifx (.and (.var 3) (.op2 .eq (.var 0) (.var 1))) (.var 2) (.var 0))) .nil)
def f_made_beside : Fn := ⟨4, 4, [false, false, false, false], c_made_beside⟩
/-! before_step: step=0 word=1 kind=2 able=3 sign=4 many=5 text=6 -/
def k1_before_step : CE := (.cmpV (.var 6) (.nm 6) 3 (.cons (.op2 .eq (.call "stepped" (.cons (.var 0) (.cons (.var 6) .nil))) (.var 1)) .nil) [6])
def k2_before_step : CE := (.cmpV (.call "swapped" (.cons (.var 4) (.cons (.idx (.var 0) (.con (.int 1))) (.cons (.idx (.var 0) (.con (.int 2))) .nil)))) (.nm 4) 1 .nil [4])
def k3_before_step : CE := (.cmp (.cut (.var 1) (.so (.var 5)) .no) (.mk (.nm 5) (.rng1 (.op2 .add (.idx (.var 0) (.con (.int 1))) (.con (.int 1)))) .nil) [5])
def o1_before_step : CB := (.cons (.ite (.op2 .eq (.var 2) (.con (.str [100, 111, 117, 98, 108, 101]))) (.cons (.asg (.nm 3) k3_before_step) .nil) (.cons (.asg (.nm 3) (.call "changes_back" (.cons (.var 0) (.cons (.var 1) .nil)))) .nil)) .nil)
def o2_before_step : CB := (.cons (.ite (.op2 .eq (.var 2) (.con (.str [115, 119, 97, 112]))) (.cons (.asg (.nm 3) (.lst (.cons (.mth .join (.con (.str [])) (.cons k2_before_step .nil)) .nil))) .nil) o1_before_step) .nil)
def c_before_step : CB := (.cons (.asg (.nm 2) (.idx (.var 0) (.con (.int 0)))) (.cons (.ite (.op2 .eq (.var 2) (.con (.str [101, 110, 100]))) (.cons (.ret (.call "by_length" (.cons (.call "without_end" (.cons (.idx (.var 0) (.con (.int 1))) (.cons (.var 1) .nil))) .nil))) .nil) .nil) (.cons (.ite (.op2 .eq (.var 2) (.con (.str [102, 114, 111, 110, 116]))) (.cons (.ret (.call "by_length" (.cons (.call "without_front" (.cons (.idx (.var 0) (.con (.int 1))) (.cons (.var 1) .nil))) .nil))) .nil) .nil) (.cons (.ite (.op2 .eq (.var 2) (.con (.str [99, 117, 116]))) (.cons (.asg (.nm 3) (.lst (.cons (.var 1) (.cons (.op2 .add (.var 1) (.idx (.var 0) (.con (.int 1)))) .nil)))) .nil) o2_before_step) (.cons (.ret (.call "by_length" (.cons k1_before_step .nil))) .nil)))))
def f_before_step : Fn := ⟨2, 7, [false, false], c_before_step⟩
/-! roots_of: chain=0 word=1 rows=2 step=3 row=4 text=5 -/
def k1_roots_of : CE := (.cmp2 (.var 5) (.mk (.nm 4) (.seq (.var 2)) .nil) (.mk (.nm 5) (.seq (.call "before_step" (.cons (.var 3) (.cons (.var 4) .nil)))) .nil) [4, 5])
def b1_roots_of : CB := (.cons (.asg (.nm 2) (.call "by_length" (.cons k1_roots_of .nil))) .nil)
def c_roots_of : CB := (.cons (.asg (.nm 2) (.lst (.cons (.var 1) .nil))) (.cons (.for (.nm 3) (.seq (.rev (.var 0))) b1_roots_of) (.cons (.ret (.blt .tuple (.cons (.var 2) .nil))) .nil)))
def f_roots_of : Fn := ⟨2, 6, [false, false], c_roots_of⟩
/-! root_of: chain=0 word=1 rows=2 -/
def c_root_of : CB := (.cons (.asg (.nm 2) (.call "roots_of" (.cons (.var 0) (.cons (.var 1) .nil)))) (.cons (.ret (.ifx (.op2 .ne (.var 2) (.tup .nil)) (.idx (.var 2) (.con (.int 0))) (.con .non))) .nil))
def f_root_of : Fn := ⟨2, 3, [false, false], c_root_of⟩
/-! _law_draws: script=0 many=1 draws=2 mixed=3 k=4 cell=5 rest=6 turn=7 -/
def b1_law_draws : CB := (.cons (.asg (.nm 3) (.op2 .mod (.blt .int (.cons (.op2 .add (.op2 .add (.op2 .mul (.var 3) (.con (.int 16807))) (.var 4)) (.con (.int 1))) .nil)) (.con (.int 65537)))) (.cons (.ex (.mut .append 2 (.cons (.op2 .mod (.blt .int (.cons (.var 3) .nil)) (.con (.int 997))) .nil))) .nil))
def b2_law_draws : CB := (.cons (.ite (.op2 .gt (.var 6) (.con (.int 0))) (.cons (.ex (.mut .append 2 (.cons (.op2 .mod (.blt .int (.cons (.var 6) .nil)) (.con (.int 997))) .nil))) (.cons (.asg (.nm 6) (.op2 .fdiv (.var 6) (.con (.int 997)))) .nil)) .nil) .nil)
def b3_law_draws : CB := (.cons (.asg (.nm 5) (.blt .abs (.cons (.blt .int (.cons (.idx (.var 0) (.var 4)) .nil)) .nil))) (.cons (.asg (.nm 3) (.op2 .mod (.blt .int (.cons (.op2 .add (.op2 .add (.op2 .mul (.var 3) (.con (.int 48271))) (.op2 .mod (.var 5) (.con (.int 1000003)))) (.var 4)) .nil)) (.con (.int 65537)))) (.cons (.asg (.nm 6) (.con (.int 0))) (.cons (.ite (.op2 .ge (.var 5) (.op2 .pow (.con (.int 10)) (.con (.int 18)))) (.cons (.asg (.nm 6) (.var 5)) .nil) (.cons (.ex (.mut .append 2 (.cons (.op2 .mod (.blt .int (.cons (.var 5) .nil)) (.con (.int 997))) .nil))) (.cons (.ex (.mut .append 2 (.cons (.op2 .mod (.op2 .mod (.blt .int (.cons (.op2 .add (.op2 .mul (.var 3) (.con (.int 69621))) (.con (.int 5))) .nil)) (.con (.int 65521))) (.con (.int 997))) .nil))) .nil))) (.cons (.for (.nm 7) (.rng1 (.con (.int 60))) b2_law_draws) .nil)))))
def c_law_draws : CB := (.cons (.asg (.nm 2) (.lst .nil)) (.cons (.asg (.nm 3) (.con (.int 7))) (.cons (.for (.nm 4) (.rng1 (.blt .len (.cons (.var 0) .nil))) b3_law_draws) (.cons (.for (.nm 4) (.rng1 (.var 1)) b1_law_draws) (.cons (.ret (.cut (.var 2) .no (.so (.var 1)))) .nil)))))
def f_law_draws : Fn := ⟨2, 8, [false, false], c_law_draws⟩
/-! _law_next: w=0 many=1 -/
def c_law_next : CB := (.cons (.augIx 0 (.con (.str [97, 116])) .add (.con (.int 1))) (.cons (.ite (.op2 .gt (.idx (.var 0) (.con (.str [97, 116]))) (.blt .len (.cons (.idx (.var 0) (.con (.str [100, 114, 97, 119, 115]))) .nil))) (.cons (.ret (.con (.int 0))) .nil) .nil) (.cons (.ret (.op2 .mod (.blt .int (.cons (.idx (.idx (.var 0) (.con (.str [100, 114, 97, 119, 115]))) (.op2 .sub (.idx (.var 0) (.con (.str [97, 116]))) (.con (.int 1)))) .nil)) (.var 1))) .nil)))
def f_law_next : Fn := ⟨2, 2, [true, false], c_law_next⟩
/-! _law_pick: w=0 rows=1 -/
def c_law_pick : CB := (.cons (.ret (.idx (.var 1) (.call "_law_next" (.cons (.var 0) (.cons (.blt .len (.cons (.var 1) .nil)) .nil))))) .nil)
def f_law_pick : Fn := ⟨2, 2, [true, false], c_law_pick⟩
/-! _law_same: seen=0 due=1 waiting=2 one=3 other=4 keys=5 key=6 k=7 -/
def k1_law_same : CE := (.cmpV (.tup (.cons (.idx (.var 3) (.var 6)) (.cons (.idx (.var 4) (.var 6)) .nil))) (.nm 6) 4 .nil [6])
def k2_law_same : CE := (.cmpV (.tup (.cons (.idx (.var 5) (.var 6)) (.cons (.var 6) .nil))) (.nm 6) 4 .nil [6])
def k3_law_same : CE := (.cmpV (.tup (.cons (.var 6) (.cons (.var 6) .nil))) (.nm 6) 3 .nil [6])
def k4_law_same : CE := (.cmpV (.var 6) (.nm 6) 4 (.cons (.op2 .nin (.var 6) (.var 3)) .nil) [6])
def k5_law_same : CE := (.cmp (.tup (.cons (.idx (.var 3) (.var 7)) (.cons (.idx (.var 4) (.var 7)) .nil))) (.mk (.nm 7) (.rng1 (.blt .len (.cons (.var 4) .nil))) .nil) [7])
def o1_law_same : CB := (.cons (.ite (.or (.op2 .ne (.blt .isinst (.cons (.var 3) (.cons (.con (.ty "bool")) .nil))) (.blt .isinst (.cons (.var 4) (.cons (.con (.ty "bool")) .nil)))) (.or (.op2 .ne (.blt .isinst (.cons (.var 3) (.cons (.con (.ty "int")) .nil))) (.blt .isinst (.cons (.var 4) (.cons (.con (.ty "int")) .nil)))) (.or (.op2 .ne (.blt .isinst (.cons (.var 3) (.cons (.con (.ty "str")) .nil))) (.blt .isinst (.cons (.var 4) (.cons (.con (.ty "str")) .nil)))) (.op2 .ne (.var 3) (.var 4))))) (.cons (.ret (.con (.bl false))) .nil) .nil) .nil)
def o2_law_same : CB := (.cons (.ite (.or (.blt .isinst (.cons (.var 4) (.cons (.con (.ty "tuple")) .nil))) (.blt .isinst (.cons (.var 4) (.cons (.con (.ty "list")) .nil)))) (.cons (.ite (.or (.op2 .ne (.blt .isinst (.cons (.var 3) (.cons (.con (.ty "tuple")) .nil))) (.blt .isinst (.cons (.var 4) (.cons (.con (.ty "tuple")) .nil)))) (.or (.op2 .ne (.blt .isinst (.cons (.var 3) (.cons (.con (.ty "list")) .nil))) (.blt .isinst (.cons (.var 4) (.cons (.con (.ty "list")) .nil)))) (.op2 .ne (.blt .len (.cons (.var 3) .nil)) (.blt .len (.cons (.var 4) .nil))))) (.cons (.ret (.con (.bl false))) .nil) .nil) (.cons (.ex (.mut .extend 2 (.cons k5_law_same .nil))) .nil)) o1_law_same) .nil)
def b1_law_same : CB := (.cons (.asg (.tp [3, 4]) (.mut .pop 2 .nil)) (.cons (.ite (.blt .isinst (.cons (.var 4) (.cons (.con (.ty "dict")) .nil))) (.cons (.ite (.or (.not (.blt .isinst (.cons (.var 3) (.cons (.con (.ty "dict")) .nil)))) (.or (.op2 .ne (.blt .len (.cons (.var 3) .nil)) (.blt .len (.cons (.var 4) .nil))) (.op2 .ne k4_law_same (.lst .nil)))) (.cons (.ret (.con (.bl false))) .nil) .nil) (.cons (.asg (.nm 5) .bad) (.cons (.ex (.mut .extend 2 (.cons (.op2 .add k1_law_same k2_law_same) .nil))) .nil))) o2_law_same) .nil))
def c_law_same : CB := (.cons (.asg (.nm 2) (.lst (.cons (.tup (.cons (.var 0) (.cons (.var 1) .nil))) .nil))) (.cons (.whl (.op2 .ne (.var 2) (.lst .nil)) b1_law_same) (.cons (.ret (.con (.bl true))) .nil)))
def f_law_same : Fn := ⟨2, 8, [false, false], c_law_same⟩
/-! _law_step: w=0 doubles=1 kind=2 a=3 b=4 -/
def c_law_step : CB := (.cons (.asg (.nm 2) (.call "_law_next" (.cons (.var 0) (.cons (.con (.int 7)) .nil)))) (.cons (.ite (.op2 .lt (.var 2) (.con (.int 3))) (.cons (.ret (.tup (.cons (.idx (.tup (.cons (.con (.str [101, 110, 100])) (.cons (.con (.str [102, 114, 111, 110, 116])) (.cons (.con (.str [99, 117, 116])) .nil)))) (.var 2)) (.cons (.call "_law_pick" (.cons (.var 0) (.cons (.lst (.cons (.con (.str [97])) (.cons (.con (.str [98])) (.cons (.con (.str [97, 98])) (.cons (.con (.str [98, 97])) (.cons (.con (.str [99])) .nil)))))) .nil))) .nil)))) .nil) .nil) (.cons (.asg (.tp [3, 4]) (.call "_law_pick" (.cons (.var 0) (.cons (.lst (.cons (.tup (.cons (.con (.str [97])) (.cons (.con (.str [98])) .nil))) (.cons (.tup (.cons (.con (.str [98])) (.cons (.con (.str [99])) .nil))) (.cons (.tup (.cons (.con (.str [99])) (.cons (.con (.str [97])) .nil))) (.cons (.tup (.cons (.con (.str [97])) (.cons (.con (.str [99])) .nil))) .nil))))) .nil)))) (.cons (.ite (.op2 .eq (.var 2) (.con (.int 3))) (.cons (.ret (.tup (.cons (.con (.str [115, 119, 97, 112])) (.cons (.var 3) (.cons (.var 4) .nil))))) .nil) .nil) (.cons (.ite (.or (.op2 .lt (.var 2) (.con (.int 6))) (.op2 .eq (.var 1) (.con (.int 0)))) (.cons (.ret (.tup (.cons (.idx (.tup (.cons (.con (.str [98, 101, 102, 111, 114, 101])) (.cons (.con (.str [97, 102, 116, 101, 114])) .nil))) (.op2 .mod (.var 2) (.con (.int 2)))) (.cons (.var 3) (.cons (.var 4) (.cons (.call "_law_pick" (.cons (.var 0) (.cons (.lst (.cons (.con (.str [97])) (.cons (.con (.str [98])) (.cons (.con (.str [97, 98])) (.cons (.con (.str [98, 99])) (.cons (.con (.str [97, 98, 99])) .nil)))))) .nil))) .nil)))))) .nil) .nil) (.cons (.ret (.tup (.cons (.con (.str [100, 111, 117, 98, 108, 101])) (.cons (.op2 .add (.con (.int 1)) (.call "_law_next" (.cons (.var 0) (.cons (.var 1) .nil)))) .nil)))) .nil))))))
def f_law_step : Fn := ⟨2, 5, [true, false], c_law_step⟩
/-! _law_chain: w=0 most=1 doubles=2 k=3 -/
def k1_law_chain : CE := (.cmp (.call "_law_step" (.cons (.var 0) (.cons (.var 2) .nil))) (.mk (.nm 3) (.rng1 (.call "_law_next" (.cons (.var 0) (.cons (.op2 .add (.var 1) (.con (.int 1))) .nil)))) .nil) [3])
def c_law_chain : CB := (.cons (.ret (.blt .tuple (.cons k1_law_chain .nil))) .nil)
def f_law_chain : Fn := ⟨3, 4, [true, false, false], c_law_chain⟩
/-! _law_letters: w=0 most=1 k=2 -/
def k1_law_letters : CE := (.cmp (.call "_law_pick" (.cons (.var 0) (.cons (.lst (.cons (.con (.str [97])) (.cons (.con (.str [98])) (.cons (.con (.str [99])) (.cons (.con (.str [100])) .nil))))) .nil))) (.mk (.nm 2) (.rng1 (.call "_law_next" (.cons (.var 0) (.cons (.op2 .add (.var 1) (.con (.int 1))) .nil)))) .nil) [2])
def c_law_letters : CB := (.cons (.ret (.mth .join (.con (.str [])) (.cons k1_law_letters .nil))) .nil)
def f_law_letters : Fn := ⟨2, 3, [true, false], c_law_letters⟩
/-! _law_all_letters: size=0 found=1 last=2 turn=3 longer=4 own=5 sign=6 -/
def k1_law_all_letters : CE := (.cmp (.op2 .add (.var 5) (.var 6)) (.mk (.nm 6) (.seq (.con (.str [97, 98, 99]))) .nil) [6])
def b1_law_all_letters : CB := (.cons (.asg (.nm 4) (.op2 .add (.var 4) k1_law_all_letters)) .nil)
def b2_law_all_letters : CB := (.cons (.asg (.nm 4) (.lst .nil)) (.cons (.for (.nm 5) (.seq (.var 2)) b1_law_all_letters) (.cons (.par [1, 2] (.cons (.op2 .add (.var 1) (.var 4)) (.cons (.var 4) .nil))) .nil)))
def c_law_all_letters : CB := (.cons (.par [1, 2] (.cons (.lst (.cons (.con (.str [])) .nil)) (.cons (.lst (.cons (.con (.str [])) .nil)) .nil))) (.cons (.for (.nm 3) (.rng1 (.var 0)) b2_law_all_letters) (.cons (.ret (.var 1)) .nil)))
def f_law_all_letters : Fn := ⟨1, 7, [false], c_law_all_letters⟩
/-! law: script=0 w=1 few=2 time=3 one=4 other=5 text=6 middle=7 word=8 due=9 part=10 root=11 step=12 many=13 own=14 -/
def b1_law : CB := (.cons (.ite (.not (.call "_law_same" (.cons (.call "before_step" (.cons (.var 12) (.cons (.var 8) .nil))) (.cons (.call "roots_of" (.cons (.tup (.cons (.var 12) .nil)) (.cons (.var 8) .nil))) .nil)))) (.cons (.ret (.con (.bl false))) .nil) .nil) .nil)
def k1_law : CE := (.cmpV (.var 14) (.nm 14) 2 (.cons (.and (.op2 .eq (.call "formed" (.cons (.op2 .add (.var 4) (.var 5)) (.cons (.var 14) .nil))) (.var 8)) (.op2 .nin (.var 14) (.var 9))) .nil) [14])
def k2_law : CE := (.cmpV (.var 11) (.nm 11) 9 (.cons (.op2 .ne (.call "formed" (.cons (.op2 .add (.var 4) (.var 5)) (.cons (.var 11) .nil))) (.var 8)) .nil) [11])
def k3_law : CE := (.cmpV (.tup (.cons (.blt .len (.cons (.var 11) .nil)) (.cons (.var 11) .nil))) (.nm 11) 9 .nil [11])
def k4_law : CE := (.cmp (.var 11) (.mk (.tp [13, 11]) (.seq (.blt .sorted (.cons k3_law .nil))) .nil) [13, 11])
def b2_law : CB := (.cons (.setIx 9 (.var 11) (.con (.bl true))) .nil)
def b3_law : CB := (.cons (.for (.nm 11) (.seq (.call "roots_of" (.cons (.var 4) (.cons (.var 10) .nil)))) b2_law) .nil)
def b4_law : CB := (.cons (.ite (.op2 .gt (.blt .len (.cons (.var 8) .nil)) (.con (.int 5))) (.cons .cnt .nil) .nil) (.cons (.asg (.nm 9) (.dct false .nil)) (.cons (.for (.nm 10) (.seq (.call "roots_of" (.cons (.var 5) (.cons (.var 8) .nil)))) b3_law) (.cons (.asg (.nm 9) (.blt .tuple (.cons k4_law .nil))) (.cons (.ite (.or (.not (.call "_law_same" (.cons (.call "roots_of" (.cons (.op2 .add (.var 4) (.var 5)) (.cons (.var 8) .nil))) (.cons (.var 9) .nil)))) (.not (.call "_law_same" (.cons (.call "root_of" (.cons (.op2 .add (.var 4) (.var 5)) (.cons (.var 8) .nil))) (.cons (.ifx (.op2 .ne (.var 9) (.tup .nil)) (.idx (.var 9) (.con (.int 0))) (.con .non)) .nil))))) (.cons (.ret (.con (.bl false))) .nil) .nil) (.cons (.ite (.or (.op2 .ne k2_law (.lst .nil)) (.op2 .ne k1_law (.lst .nil))) (.cons (.ret (.con (.bl false))) .nil) .nil) (.cons (.for (.nm 12) (.seq (.op2 .add (.var 4) (.var 5))) b1_law) .nil)))))))
def b5_law : CB := (.cons (.asg (.tp [4, 5]) (.tup (.cons (.call "_law_chain" (.cons (.var 1) (.cons (.con (.int 2)) (.cons (.con (.int 2)) .nil)))) (.cons (.call "_law_chain" (.cons (.var 1) (.cons (.con (.int 2)) (.cons (.con (.int 2)) .nil)))) .nil)))) (.cons (.asg (.nm 6) (.call "_law_letters" (.cons (.var 1) (.cons (.con (.int 4)) .nil)))) (.cons (.asg (.nm 7) (.call "formed" (.cons (.var 4) (.cons (.var 6) .nil)))) (.cons (.ite (.or (.not (.blt .isinst (.cons (.var 7) (.cons (.con (.ty "str")) .nil)))) (.not (.call "_law_same" (.cons (.call "formed" (.cons (.op2 .add (.var 4) (.var 5)) (.cons (.var 6) .nil))) (.cons (.call "formed" (.cons (.var 5) (.cons (.var 7) .nil))) .nil))))) (.cons (.ret (.con (.bl false))) .nil) .nil) (.cons (.ite (.not (.call "_law_same" (.cons (.call "forms_on_way" (.cons (.op2 .add (.var 4) (.var 5)) (.cons (.var 6) .nil))) (.cons (.op2 .add (.call "forms_on_way" (.cons (.var 4) (.cons (.var 6) .nil))) (.cut (.call "forms_on_way" (.cons (.var 5) (.cons (.var 7) .nil))) (.so (.con (.int 1))) .no)) .nil)))) (.cons (.ret (.con (.bl false))) .nil) .nil) (.cons (.for (.nm 8) (.seq (.tup (.cons (.call "formed" (.cons (.var 5) (.cons (.var 7) .nil))) (.cons (.call "_law_letters" (.cons (.var 1) (.cons (.con (.int 5)) .nil))) .nil)))) b4_law) (.cons (.ite (.ifx (.op2 .lt (.blt .len (.cons (.call "formed" (.cons (.op2 .add (.var 4) (.var 5)) (.cons (.var 6) .nil))) .nil)) (.con (.int 6))) (.op2 .nin (.var 6) (.call "roots_of" (.cons (.op2 .add (.var 4) (.var 5)) (.cons (.call "formed" (.cons (.op2 .add (.var 4) (.var 5)) (.cons (.var 6) .nil))) .nil)))) (.con (.bl false))) (.cons (.ret (.con (.bl false))) .nil) .nil) .nil)))))))
def c_law : CB := (.cons (.asg (.nm 1) (.dsp [.s [100, 114, 97, 119, 115], .s [97, 116]] (.cons (.call "_law_draws" (.cons (.var 0) (.cons (.con (.int 3000)) .nil))) (.cons (.con (.int 0)) .nil)))) (.cons (.asg (.nm 2) (.call "_law_all_letters" (.cons (.con (.int 3)) .nil))) (.cons (.for (.nm 3) (.rng1 (.con (.int 12))) b5_law) (.cons (.ret (.con (.bl true))) .nil))))
def f_law : Fn := ⟨1, 15, [false], c_law⟩
def tab : List (Str × Fn) := [("swapped", f_swapped), ("near", f_near), ("changed_near", f_changed_near), ("stepped", f_stepped), ("forms_on_way", f_forms_on_way), ("formed", f_formed), ("by_length", f_by_length), ("without_end", f_without_end), ("without_front", f_without_front), ("changes_back", f_changes_back), ("made_beside", f_made_beside), ("before_step", f_before_step), ("roots_of", f_roots_of), ("root_of", f_root_of), ("_law_draws", f_law_draws), ("_law_next", f_law_next), ("_law_pick", f_law_pick), ("_law_same", f_law_same), ("_law_step", f_law_step), ("_law_chain", f_law_chain), ("_law_letters", f_law_letters), ("_law_all_letters", f_law_all_letters), ("law", f_law)]
def gl : List (Str × D) := []
def T : Str → Option Fn := fun f => tab.lookup f
def G : Str → Option D := fun x => gl.lookup x
theorem io_swapped (n : Nat) : (ctxOf T G n).io "swapped" = [false, false, false] := rfl
theorem io_near (n : Nat) : (ctxOf T G n).io "near" = [false, false, false] := rfl
theorem io_changed_near (n : Nat) : (ctxOf T G n).io "changed_near" = [false, false] := rfl
theorem io_stepped (n : Nat) : (ctxOf T G n).io "stepped" = [false, false] := rfl
theorem io_forms_on_way (n : Nat) : (ctxOf T G n).io "forms_on_way" = [false, false] := rfl
theorem io_formed (n : Nat) : (ctxOf T G n).io "formed" = [false, false] := rfl
theorem io_by_length (n : Nat) : (ctxOf T G n).io "by_length" = [false] := rfl
theorem io_without_end (n : Nat) : (ctxOf T G n).io "without_end" = [false, false] := rfl
theorem io_without_front (n : Nat) : (ctxOf T G n).io "without_front" = [false, false] := rfl
theorem io_changes_back (n : Nat) : (ctxOf T G n).io "changes_back" = [false, false] := rfl
theorem io_made_beside (n : Nat) : (ctxOf T G n).io "made_beside" = [false, false, false, false] := rfl
theorem io_before_step (n : Nat) : (ctxOf T G n).io "before_step" = [false, false] := rfl
theorem io_roots_of (n : Nat) : (ctxOf T G n).io "roots_of" = [false, false] := rfl
theorem io_root_of (n : Nat) : (ctxOf T G n).io "root_of" = [false, false] := rfl
theorem io_law_draws (n : Nat) : (ctxOf T G n).io "_law_draws" = [false, false] := rfl
theorem io_law_next (n : Nat) : (ctxOf T G n).io "_law_next" = [true, false] := rfl
theorem io_law_pick (n : Nat) : (ctxOf T G n).io "_law_pick" = [true, false] := rfl
theorem io_law_same (n : Nat) : (ctxOf T G n).io "_law_same" = [false, false] := rfl
theorem io_law_step (n : Nat) : (ctxOf T G n).io "_law_step" = [true, false] := rfl
theorem io_law_chain (n : Nat) : (ctxOf T G n).io "_law_chain" = [true, false, false] := rfl
theorem io_law_letters (n : Nat) : (ctxOf T G n).io "_law_letters" = [true, false] := rfl
theorem io_law_all_letters (n : Nat) : (ctxOf T G n).io "_law_all_letters" = [false] := rfl
theorem io_law (n : Nat) : (ctxOf T G n).io "law" = [false] := rfl
end K04
end

section
set_option maxRecDepth 100000
set_option maxHeartbeats 4000000
namespace K04
open PySem L2 Fi Fi.R
local macro_rules | `(tactic| walk_at "fi") => `(tactic| simp [WB_cons, WB_nil, WS_asg, WS_par, WS_aug, WS_augIx, WS_setIx, WS_ex, WS_ret, WS_retN, WS_brk, WS_cnt, WS_pas, WS_ite, iteQ_some, iteT_t, iteT_f, cont_nx, cont_rt, cont_bk, cont_ct, Lp_nx, Lp_ct, Lp_rt, Lp_bk, Lw_nx, Lw_ct, Lw_rt, Lw_bk, WT, Done_rt, Done_nx, giveD_sh, giveD_ow, giveD_pk, finsD, rg0, rg1, rg2, rg3, rg4, rg5, rg6, evS, evE, evEs, evO, evT, evI, Env.get, Env.put, Env.vw, Env.rd, Env.tk, Env.tks, Env.free, Rs.fz, op2D, addD, subD, mulD, fdivD, modD, powD, cmpA, ordD, nlk_un, nlk_sh, nlk_ow, nlk_lk, isD, iopD, iaddD, inopD, iaddI, op1D, PR.rs, D.truth, D.len, ixD, ix, partD, cutD, revD, lenB, absB, intB, tupleB, listB, anyB, allB, isinstB, bltD, getB, mthD, mthTy, appendB, extendB, popB, mutD, mutTy, setD, kget, kput, D.key, DKey.ok, tyNames, D.tyName, tySub, lock, unlock, lkFree, seqD, puts, bindT, Tg.slots, wipeE, back, argsOf, lent, lentOk, Ar.pass, behind, dk_ss, dk_ii, dk_si, dk_is, bigLine, ownOk, mapOut, turnF, dictAt, lockVar, hide, unhide, bls, inD, D.isNon, List.lookup, ctx_call, io_swapped, io_near, io_changed_near, io_stepped, io_forms_on_way, io_formed, io_by_length, io_without_end, io_without_front, io_changes_back, io_made_beside, io_before_step, io_roots_of, io_root_of, io_law_draws, io_law_next, io_law_pick, io_law_same, io_law_step, io_law_chain, io_law_letters, io_law_all_letters, io_law, *])
theorem run_swapped (n x a b : Nat) : Fi.run T G (n + 1) "swapped" [(false, .str [x]), (false, .str [a]), (false, .str [b])] = some (.sh (.str [sw a b x]), [.sh (.str [x]), .sh (.str [a]), .sh (.str [b])]) := by
  refine run_eq (fn := f_swapped) (E0 := ⟨[.sh (.str [x]), .sh (.str [a]), .sh (.str [b])], []⟩) rfl rfl rfl ?_
  unfold f_swapped c_swapped sw
  by_cases h : x = a
  · walk_at "fi"
  · by_cases h2 : x = b
    · subst h2
      walk_at "fi"
    · walk_at "fi"
/-- a text of at most one letter -/
def ot : Option Nat → Txt
  | none => []
  | some c => [c]
def sBF (bf : Bool) : Txt := if bf then [98, 101, 102, 111, 114, 101] else [97, 102, 116, 101, 114]
def nD (bf : Bool) (a b : Nat) (g : Txt) : D := .tup [.str (sBF bf), .str [a], .str [b], .str g]
theorem cut_at {α : Type} (t : List α) (i : Nat) : cut t (some (i : Int)) (some ((i : Int) + 1)) = t[i]?.toList := by
  unfold cut cutAt
  have h1 : ¬ ((i : Int) < 0) := by omega
  have h2 : ¬ ((i : Int) + 1 < 0) := by omega
  simp only [if_neg h1, if_neg h2]
  by_cases h : i < t.length
  · rw [show min (i : Int).toNat t.length = i by omega, show min ((i : Int) + 1).toNat t.length - i = 1 by omega]
    rw [List.getElem?_eq_getElem h, List.drop_eq_getElem_cons h]; rfl
  · rw [List.getElem?_eq_none (by omega), List.drop_eq_nil_of_le (by omega)]; simp
theorem cut_to {α : Type} (t : List α) (i : Nat) : cut t none (some (i : Int)) = t.take i := by
  unfold cut cutAt
  have h1 : ¬ ((i : Int) < 0) := by omega
  simp only [if_neg h1, List.drop_zero, Nat.sub_zero]
  rw [show (i : Int).toNat = i by omega]
  by_cases h : i ≤ t.length
  · rw [Nat.min_eq_left h]
  · rw [Nat.min_eq_right (by omega), List.take_length, List.take_of_length_le (by omega)]
theorem cut_from {α : Type} (t : List α) (i : Nat) : cut t (some (i : Int)) none = t.drop i := by
  unfold cut cutAt
  have h1 : ¬ ((i : Int) < 0) := by omega
  simp only [if_neg h1]
  rw [show (i : Int).toNat = i by omega]
  by_cases h : i ≤ t.length
  · rw [Nat.min_eq_left h, List.take_of_length_le (by simp)]
  · rw [Nat.min_eq_right (by omega), List.drop_eq_nil_of_le (Nat.le_refl _), List.drop_eq_nil_of_le (by omega)]; simp
theorem run_near (n : Nat) (bf : Bool) (a b : Nat) (g t : Txt) (i : Nat) (ht : t.length ≤ 16777216) : Fi.run T G (n + 1) "near" [(false, .str t), (false, .int i), (false, nD bf a b g)] = some (.sh (.str (ot (nb bf t i))), [.sh (.str t), .sh (.int i), .sh (nD bf a b g)]) := by
  refine run_eq (fn := f_near) (E0 := ⟨[.sh (.str t), .sh (.int i), .sh (nD bf a b g)], []⟩) rfl rfl rfl ?_
  unfold f_near c_near nD nb
  cases bf with
  | true =>
    have e : ot t[i + 1]? = cut t (some ((i : Int) + 1)) (some ((i : Int) + 2)) := by
      have := cut_at t (i + 1)
      rw [show ((i + 1 : Nat) : Int) = (i : Int) + 1 by omega, show (i : Int) + 1 + 1 = (i : Int) + 2 by omega] at this
      rw [this]; cases t[i + 1]? <;> rfl
    unfold sBF
    walk_at "fi"
  | false =>
    unfold sBF
    by_cases h : 0 < i
    · have e : ot t[i - 1]? = cut t (some ((i : Int) - 1)) (some (i : Int)) := by
        have := cut_at t (i - 1)
        rw [show ((i - 1 : Nat) : Int) = (i : Int) - 1 by omega, show (i : Int) - 1 + 1 = (i : Int) by omega] at this
        rw [this]; cases t[i - 1]? <;> rfl
      walk_at "fi"
    · have : i = 0 := by omega
      subst this
      have e : ot none = [] := rfl
      walk_at "fi"
theorem run_made (n s a b : Nat) (l : Bool) : Fi.run T G (n + 1) "made_beside" [(false, .str [s]), (false, .str [a]), (false, .str [b]), (false, .bl l)] = some (.sh (.str [if l = true ∧ s = a then b else s]), [.sh (.str [s]), .sh (.str [a]), .sh (.str [b]), .sh (.bl l)]) := by
  refine run_eq (fn := f_made_beside) (E0 := ⟨[.sh (.str [s]), .sh (.str [a]), .sh (.str [b]), .sh (.bl l)], []⟩) rfl rfl rfl ?_
  unfold f_made_beside c_made_beside
  cases l with
  | false => walk_at "fi"
  | true =>
    by_cases h : s = a
    · walk_at "fi"
    · walk_at "fi"
/-- the last so many letters are these -/
theorem suf_iff {p t : Txt} : p <:+ t ↔ p.length ≤ t.length ∧ t.drop (t.length - p.length) = p := by
  constructor
  · intro h
    exact ⟨h.length_le, (List.suffix_iff_eq_drop.mp h).symm⟩
  · rintro ⟨_, h⟩
    exact List.suffix_iff_eq_drop.mpr h.symm
theorem pre_iff {p t : Txt} : p <+: t ↔ t.take p.length = p := by
  rw [List.prefix_iff_eq_take]; exact eq_comm
theorem run_wend (n : Nat) (p w : Txt) (hp : p.length ≤ 16777216) (hw : w.length ≤ 16777216) : Fi.run T G (n + 1) "without_end" [(false, .str p), (false, .str w)] = some (.ow (.lst ((if p <:+ w then [w.take (w.length - p.length)] else []).map .str)), [.sh (.str p), .sh (.str w)]) := by
  refine run_eq (fn := f_without_end) (E0 := ⟨[.sh (.str p), .sh (.str w), .un], []⟩) rfl rfl rfl ?_
  unfold f_without_end c_without_end
  by_cases h : p.length ≤ w.length
  · have e : (w.length : Int) - (p.length : Int) = ((w.length - p.length : Nat) : Int) := by omega
    have e1 := cut_to w (w.length - p.length)
    have e2 := cut_from w (w.length - p.length)
    by_cases h2 : w.drop (w.length - p.length) = p
    · have h3 : p <:+ w := suf_iff.mpr ⟨h, h2⟩
      have h5 : (0 : Int) ≤ (w.length - p.length : Nat) := by omega
      walk_at "fi"
    · have h3 : ¬ p <:+ w := fun a => h2 (suf_iff.mp a).2
      have h5 : (0 : Int) ≤ (w.length - p.length : Nat) := by omega
      walk_at "fi"
  · have h3 : ¬ p <:+ w := fun a => h (suf_iff.mp a).1
    have h4 : ¬ (0 ≤ (w.length : Int) - (p.length : Int)) := by omega
    walk_at "fi"
theorem run_wfront (n : Nat) (p w : Txt) (hp : p.length ≤ 16777216) (hw : w.length ≤ 16777216) : Fi.run T G (n + 1) "without_front" [(false, .str p), (false, .str w)] = some (.ow (.lst ((if p <+: w then [w.drop p.length] else []).map .str)), [.sh (.str p), .sh (.str w)]) := by
  refine run_eq (fn := f_without_front) (E0 := ⟨[.sh (.str p), .sh (.str w)], []⟩) rfl rfl rfl ?_
  unfold f_without_front c_without_front
  have e1 := cut_to w p.length
  have e2 := cut_from w p.length
  by_cases h2 : w.take p.length = p
  · have h3 : p <+: w := pre_iff.mpr h2
    walk_at "fi"
  · have h3 : ¬ p <+: w := fun a => h2 (pre_iff.mp a)
    walk_at "fi"
end K04
end

section
set_option maxRecDepth 100000
set_option maxHeartbeats 4000000
namespace K04
open PySem L2 Fi Fi.R
local macro_rules | `(tactic| walk_at "fi") => `(tactic| simp [WB_cons, WB_nil, WS_asg, WS_par, WS_aug, WS_augIx, WS_setIx, WS_ex, WS_ret, WS_retN, WS_brk, WS_cnt, WS_pas, WS_ite, iteQ_some, iteT_t, iteT_f, cont_nx, cont_rt, cont_bk, cont_ct, Lp_nx, Lp_ct, Lp_rt, Lp_bk, Lw_nx, Lw_ct, Lw_rt, Lw_bk, WT, Done_rt, Done_nx, giveD_sh, giveD_ow, giveD_pk, finsD, rg0, rg1, rg2, rg3, rg4, rg5, rg6, evS, evE, evEs, evO, evT, evI, Env.get, Env.put, Env.vw, Env.rd, Env.tk, Env.tks, Env.free, Rs.fz, op2D, addD, subD, mulD, fdivD, modD, powD, cmpA, ordD, nlk_un, nlk_sh, nlk_ow, nlk_lk, isD, iopD, iaddD, inopD, iaddI, op1D, PR.rs, D.truth, D.len, ixD, ix, partD, cutD, revD, lenB, absB, intB, tupleB, listB, anyB, allB, isinstB, bltD, getB, mthD, mthTy, appendB, extendB, popB, mutD, mutTy, setD, kget, kput, D.key, DKey.ok, tyNames, D.tyName, tySub, lock, unlock, lkFree, seqD, puts, bindT, Tg.slots, wipeE, back, argsOf, lent, lentOk, Ar.pass, behind, dk_ss, dk_ii, dk_si, dk_is, bigLine, ownOk, mapOut, turnF, dictAt, lockVar, hide, unhide, bls, inD, D.isNon, List.lookup, ctx_call, io_swapped, io_near, io_changed_near, io_stepped, io_forms_on_way, io_formed, io_by_length, io_without_end, io_without_front, io_changes_back, io_made_beside, io_before_step, io_roots_of, io_root_of, io_law_draws, io_law_next, io_law_pick, io_law_same, io_law_step, io_law_chain, io_law_letters, io_law_all_letters, io_law, *])
theorem txts_str : ∀ ts : List Txt, txts (ts.map .str) = some ts
  | [] => rfl
  | t :: ts => by rw [List.map_cons, txts, txts_str ts]; rfl
theorem joinT_sgl : ∀ t : Txt, joinT [] (t.map fun x => [x]) = t
  | [] => rfl
  | [x] => rfl
  | x :: y :: t => by
    rw [List.map_cons, List.map_cons, joinT, ← List.map_cons (f := fun x => [x]), joinT_sgl (y :: t)]; rfl
theorem sum_sgl : ∀ t : Txt, ((t.map fun x => [x]).map List.length).sum = t.length
  | [] => rfl
  | x :: t => by rw [List.map_cons, List.map_cons, List.sum_cons, sum_sgl t]; simp; omega
theorem join_sgl {t : Txt} (h : t.length ≤ bigLine) : joinB (.str []) [.lst (t.map fun x => .str [x])] = some (.sc (.str t)) := by
  have e : (t.map fun x => D.str [x]) = (t.map fun x => [x]).map .str := by rw [List.map_map]; rfl
  simp only [joinB, e, txts_str, Option.bind_some, sum_sgl, joinT_sgl]
  rw [if_pos (by simpa using h)]
theorem run_changed (n : Nat) (bf : Bool) (a b : Nat) (g t : Txt) (ht : t.length ≤ 1000) : Fi.run T G (n + 2) "changed_near" [(false, nD bf a b g), (false, .str t)] = some (.sh (.str (chg bf a b g t)), [.sh (nD bf a b g), .sh (.str t)]) := by
  have hb : t.length ≤ 16777216 := by omega
  refine run_eq (fn := f_changed_near) (E0 := ⟨[.sh (nD bf a b g), .sh (.str t), .un, .un, .un, .un, .un, .un, .un, .un], []⟩) rfl rfl rfl ?_
  unfold f_changed_near c_changed_near
  have hn : nD bf a b g = .tup [.str (sBF bf), .str [a], .str [b], .str g] := rfl
  walk_at "fi"
  refine ws_for (fun (i : Nat) => D.int i) (List.range t.length) (I := fun pre E' => ∃ j7 j8 j9 : Sl, E' = ⟨[.sh (nD bf a b g), .sh (.str t), .sh (.str (sBF bf)), .sh (.str [a]), .sh (.str [b]), .sh (.str g), .ow (.lst (pre.map fun i => .str [chg1 bf a b g t i])), j7, j8, j9], []⟩ ∧ j7.nlk = true ∧ j8.nlk = true ∧ j9.nlk = true)
    (evI_rng (n := t.length) (by walk_at "fi") hb) ⟨.un, .un, .un, rfl, rfl, rfl, rfl⟩ ?_ ?_
  · rintro pre i post E hx ⟨j7, j8, j9, rfl, h7, h8, h9⟩
    have hi : i < t.length := by
      have : i ∈ List.range t.length := by rw [hx]; simp
      simpa using this
    have hl : pre.length < 16777216 := by
      have := congrArg List.length hx
      simp at this; omega
    have hnr := run_near n bf a b g t i hb
    rw [hn] at hnr
    have hg : t[i]? = some t[i] := List.getElem?_eq_getElem hi
    have hd : t.getD i 0 = t[i] := by simp [List.getD_eq_getElem?_getD, hg]
    unfold b1_changed_near
    have ot0 : ot none = [] := rfl
    have ot1 : ∀ c, ot (some c) = [c] := fun _ => rfl
    cases hnb : nb bf t i with
    | none =>
      have hc : chg1 bf a b g t i = t[i] := by unfold chg1; rw [hnb, hd]; simp [lets]
      rw [hnb] at hnr
      by_cases h1 : t[i] = a
      · walk_at "fi"
        exact ⟨_, _, _, ⟨rfl, rfl, rfl⟩, rfl, rfl, rfl⟩
      · walk_at "fi"
        exact ⟨_, _, _, ⟨rfl, rfl, rfl⟩, rfl, rfl, rfl⟩
    | some c =>
      rw [hnb] at hnr
      by_cases h1 : t[i] = a
      · by_cases h2 : c ∈ g
        · have hc : chg1 bf a b g t i = b := by unfold chg1; rw [hnb, hd]; simp [lets, h1, h2]
          walk_at "fi"
          exact ⟨_, _, _, ⟨rfl, rfl, rfl⟩, rfl, rfl, rfl⟩
        · have hc : chg1 bf a b g t i = t[i] := by unfold chg1; rw [hnb, hd]; simp [lets, h2]
          walk_at "fi"
          exact ⟨_, _, _, ⟨rfl, rfl, rfl⟩, rfl, rfl, rfl⟩
      · have hc : chg1 bf a b g t i = t[i] := by unfold chg1; rw [hnb, hd]; simp [h1]
        walk_at "fi"
        exact ⟨_, _, _, ⟨rfl, rfl, rfl⟩, rfl, rfl, rfl⟩
  · rintro E' ⟨j7, j8, j9, rfl, h7, h8, h9⟩
    have hj := join_sgl (t := chg bf a b g t) (by rw [chg_length]; exact hb)
    have hm : ((List.range t.length).map fun i => D.str [chg1 bf a b g t i]) = (chg bf a b g t).map fun x => .str [x] := by
      unfold chg; rw [List.map_map]; rfl
    rw [hm]
    walk_at "fi"
/-- steps as data -/
def dSt : R.St → D
  | .fin p => .tup [.str [101, 110, 100], .str p]
  | .fro p => .tup [.str [102, 114, 111, 110, 116], .str p]
  | .cut p => .tup [.str [99, 117, 116], .str p]
  | .swp a b => .tup [.str [115, 119, 97, 112], .str [a], .str [b]]
  | .nea bf a b g => nD bf a b g
  | .dbl n => .tup [.str [100, 111, 117, 98, 108, 101], .int n]
def Sm : R.St → Prop
  | .fin p => p.length ≤ 2
  | .fro p => p.length ≤ 2
  | .cut p => p.length ≤ 2
  | .dbl n => n ≤ 2
  | _ => True
theorem stp_len {s : R.St} (h : Sm s) (t : Txt) : (stp s t).length ≤ t.length + 2 := by
  cases s with
  | fin p => simp only [stp, List.length_append]; have : p.length ≤ 2 := h; omega
  | fro p => simp only [stp, List.length_append]; have : p.length ≤ 2 := h; omega
  | cut p => simp only [stp]; split <;> simp; omega
  | swp a b => simp [stp]
  | nea bf a b g => simp only [stp, chg_length]; omega
  | dbl n => simp only [stp, List.length_append, List.length_take]; have : n ≤ 2 := h; omega
theorem formed_len : ∀ {c : List R.St}, (∀ s ∈ c, Sm s) → ∀ t : Txt, (formed c t).length ≤ t.length + 2 * c.length
  | [], _, t => by simp [formed]
  | s :: c, h, t => by
    rw [formed_cons]
    have h1 := formed_len (c := c) (fun s hs => h s (by simp [hs])) (stp s t)
    have h2 := stp_len (h s (by simp)) t
    simp only [List.length_cons]; omega
theorem run_stepped (n : Nat) (s : R.St) (t : Txt) (hs : Sm s) (ht : t.length ≤ 1000) : Fi.run T G (n + 3) "stepped" [(false, dSt s), (false, .str t)] = some (.sh (.str (stp s t)), [.sh (dSt s), .sh (.str t)]) := by
  have hb : t.length ≤ 16777216 := by omega
  refine run_eq (fn := f_stepped) (E0 := ⟨[.sh (dSt s), .sh (.str t), .un, .un, .un], []⟩) rfl rfl rfl ?_
  unfold f_stepped c_stepped
  cases s with
  | fin p =>
    have hp : p.length ≤ 2 := hs
    have h1 : t.length + p.length ≤ 16777216 := by omega
    unfold dSt stp
    walk_at "fi"
  | fro p =>
    have hp : p.length ≤ 2 := hs
    have h1 : p.length + t.length ≤ 16777216 := by omega
    unfold dSt stp
    walk_at "fi"
  | cut p =>
    have hp : p.length ≤ 2 := hs
    have hp2 : p.length ≤ 16777216 := by omega
    unfold dSt stp
    by_cases h : p.length ≤ t.length
    · have e : (t.length : Int) - (p.length : Int) = ((t.length - p.length : Nat) : Int) := by omega
      have e1 := cut_to t (t.length - p.length)
      have e2 := cut_from t (t.length - p.length)
      by_cases h2 : t.drop (t.length - p.length) = p
      · have h3 : p <:+ t := suf_iff.mpr ⟨h, h2⟩
        walk_at "fi"
      · have h3 : ¬ p <:+ t := fun a => h2 (suf_iff.mp a).2
        walk_at "fi"
    · have h3 : ¬ p <:+ t := fun a => h (suf_iff.mp a).1
      by_cases h2 : cut t (some ((t.length : Int) - (p.length : Int))) none = p
      · walk_at "fi"
      · walk_at "fi"
  | swp a b =>
    have hk : evE (ctxOf T G (n + 2)) k1_stepped ⟨[.sh (dSt (.swp a b)), .sh (.str t), .sh (.str [115, 119, 97, 112]), .un, .un], []⟩ = some (.ow (.lst (t.map fun x => D.str [sw a b x])), ⟨[.sh (dSt (.swp a b)), .sh (.str t), .sh (.str [115, 119, 97, 112]), .un, .un], []⟩) := by
      unfold k1_stepped dSt
      refine cmpV_map (fun x => D.str [x]) (fun x => D.str [sw a b x]) t (d := .str t) rfl rfl (by simp [seqD, bigLine, hb]) rfl (fun x _ => ?_) (by unfold bigLine; omega) rfl
      have hr := run_swapped (n + 1) x a b
      walk_at "fi"
    have hj := join_sgl (t := t.map (sw a b)) (by unfold bigLine; simpa using hb)
    simp only [List.map_map, Function.comp_def] at hj
    unfold dSt at hk ⊢
    unfold stp
    walk_at "fi"
  | nea bf a b g =>
    have hr := run_changed n bf a b g t ht
    have e : dSt (.nea bf a b g) = nD bf a b g := rfl
    have e1 : nD bf a b g = .tup [.str (sBF bf), .str [a], .str [b], .str g] := rfl
    unfold stp
    rw [e]
    cases bf with
    | true => have e2 : sBF true = [98, 101, 102, 111, 114, 101] := rfl; rw [e1, e2] at hr ⊢; clear e e1 e2; walk_at "fi"
    | false => have e2 : sBF false = [97, 102, 116, 101, 114] := rfl; rw [e1, e2] at hr ⊢; clear e e1 e2; walk_at "fi"
  | dbl k =>
    have hk : k ≤ 2 := hs
    have e1 := cut_to t k
    have h1 : min k t.length + t.length ≤ 16777216 := by omega
    unfold dSt stp
    walk_at "fi"
end K04
end

section
set_option maxRecDepth 100000
set_option maxHeartbeats 4000000
namespace K04
open PySem L2 Fi Fi.R
local macro_rules | `(tactic| walk_at "fi") => `(tactic| simp [WB_cons, WB_nil, WS_asg, WS_par, WS_aug, WS_augIx, WS_setIx, WS_ex, WS_ret, WS_retN, WS_brk, WS_cnt, WS_pas, WS_ite, iteQ_some, iteT_t, iteT_f, cont_nx, cont_rt, cont_bk, cont_ct, Lp_nx, Lp_ct, Lp_rt, Lp_bk, Lw_nx, Lw_ct, Lw_rt, Lw_bk, WT, Done_rt, Done_nx, giveD_sh, giveD_ow, giveD_pk, finsD, rg0, rg1, rg2, rg3, rg4, rg5, rg6, evS, evE, evEs, evO, evT, evI, Env.get, Env.put, Env.vw, Env.rd, Env.tk, Env.tks, Env.free, Rs.fz, op2D, addD, subD, mulD, fdivD, modD, powD, cmpA, ordD, nlk_un, nlk_sh, nlk_ow, nlk_lk, isD, iopD, iaddD, inopD, iaddI, op1D, PR.rs, D.truth, D.len, ixD, ix, partD, cutD, revD, lenB, absB, intB, tupleB, listB, anyB, allB, isinstB, bltD, getB, mthD, mthTy, appendB, extendB, popB, mutD, mutTy, setD, kget, kput, D.key, DKey.ok, tyNames, D.tyName, tySub, lock, unlock, lkFree, seqD, puts, bindT, Tg.slots, wipeE, back, argsOf, lent, lentOk, Ar.pass, behind, dk_ss, dk_ii, dk_si, dk_is, bigLine, ownOk, mapOut, turnF, dictAt, lockVar, hide, unhide, bls, inD, D.isNon, List.lookup, ctx_call, io_swapped, io_near, io_changed_near, io_stepped, io_forms_on_way, io_formed, io_by_length, io_without_end, io_without_front, io_changes_back, io_made_beside, io_before_step, io_roots_of, io_root_of, io_law_draws, io_law_next, io_law_pick, io_law_same, io_law_step, io_law_chain, io_law_letters, io_law_all_letters, io_law, *])
theorem ix_last (xs : List D) : ((ix xs.length (-1)).bind fun j => xs[j]?.map PR.sc) = xs.getLast?.map .sc := by
  unfold ix
  rw [if_neg (by omega)]
  cases xs with
  | nil => rfl
  | cons x xs =>
    rw [if_pos (by simp only [List.length_cons]; omega)]
    simp only [Option.bind_some, List.getLast?_eq_getElem?]
    congr 2
    simp only [List.length_cons]; omega
theorem ixD_lastL {xs : List D} {x : D} (h : xs.getLast? = some x) : ixD (.lst xs) (.int (-1)) = some (.sc x) := by
  have := ix_last xs
  rw [h] at this
  simpa [ixD] using this
theorem ixD_lastT {xs : List D} {x : D} (h : xs.getLast? = some x) : ixD (.tup xs) (.int (-1)) = some (.sc x) := by
  have := ix_last xs
  rw [h] at this
  simpa [ixD] using this
theorem way_len (c : List R.St) (t : Txt) : (way c t).length = c.length + 1 := by
  unfold way
  have : ∀ (c : List R.St) (t : Txt), (wayB c t).length = c.length := by
    intro c; induction c with
    | nil => intro t; rfl
    | cons s c ih => intro t; simp [wayB, ih]
  simp [this]
theorem way_snoc (c : List R.St) (s : R.St) (t : Txt) : way (c ++ [s]) t = way c t ++ [stp s (formed c t)] := by
  unfold way; rw [wayB_app]; rfl
theorem formed_snoc (c : List R.St) (s : R.St) (t : Txt) : formed (c ++ [s]) t = stp s (formed c t) := by rw [formed_app]; rfl
def dC (c : List R.St) : D := .tup (c.map dSt)
theorem run_way (n : Nat) (c : List R.St) (t : Txt) (hc : ∀ s ∈ c, Sm s) (hl : c.length ≤ 100) (ht : t.length ≤ 100) : Fi.run T G (n + 4) "forms_on_way" [(false, dC c), (false, .str t)] = some (.sh (.tup ((way c t).map .str)), [.sh (dC c), .sh (.str t)]) := by
  refine run_eq (fn := f_forms_on_way) (E0 := ⟨[.sh (dC c), .sh (.str t), .un, .un], []⟩) rfl rfl rfl ?_
  unfold f_forms_on_way c_forms_on_way
  walk_at "fi"
  refine ws_for dSt c (I := fun pre E' => ∃ j3 : Sl, E' = ⟨[.sh (dC c), .sh (.str t), .ow (.lst ((way pre t).map .str)), j3], []⟩ ∧ j3.nlk = true) (l := none) (E1 := ⟨[.sh (dC c), .sh (.str t), .ow (.lst [.str t]), .un], []⟩) (by unfold dC; walk_at "fi") ⟨.un, rfl, rfl⟩ ?_ ?_
  · rintro pre s post E hx ⟨j3, rfl, h3⟩
    have hm : ∀ s ∈ pre, Sm s := fun s hs => hc s (by rw [hx]; simp [hs])
    have hpl : pre.length ≤ 100 := by have := congrArg List.length hx; simp at this; omega
    have hfl : (formed pre t).length ≤ 1000 := by have := formed_len hm t; omega
    have hr := run_stepped n s (formed pre t) (hc s (by rw [hx]; simp)) hfl
    have hw := way_len pre t
    have hwl : (way pre t).length < 16777216 := by omega
    have hA : -((way pre t).length : Int) ≤ -1 := by omega
    have hB : (way pre t)[(-1 + ((way pre t).length : Int)).toNat]? = some (formed pre t) := by
      have := way_last pre t
      rw [List.getLast?_eq_getElem?] at this
      rw [← this]; congr 1; omega
    have hws := way_snoc pre s t
    clear hw
    unfold b1_forms_on_way
    walk_at "fi"
  · rintro E' ⟨j3, rfl, h3⟩
    walk_at "fi"
end K04
end

section
set_option maxRecDepth 100000
set_option maxHeartbeats 4000000
namespace K04
open PySem L2 Fi Fi.R
local macro_rules | `(tactic| walk_at "fi") => `(tactic| simp [WB_cons, WB_nil, WS_asg, WS_par, WS_aug, WS_augIx, WS_setIx, WS_ex, WS_ret, WS_retN, WS_brk, WS_cnt, WS_pas, WS_ite, iteQ_some, iteT_t, iteT_f, cont_nx, cont_rt, cont_bk, cont_ct, Lp_nx, Lp_ct, Lp_rt, Lp_bk, Lw_nx, Lw_ct, Lw_rt, Lw_bk, WT, Done_rt, Done_nx, giveD_sh, giveD_ow, giveD_pk, finsD, rg0, rg1, rg2, rg3, rg4, rg5, rg6, evS, evE, evEs, evO, evT, evI, Env.get, Env.put, Env.vw, Env.rd, Env.tk, Env.tks, Env.free, Rs.fz, op2D, addD, subD, mulD, fdivD, modD, powD, cmpA, ordD, nlk_un, nlk_sh, nlk_ow, nlk_lk, isD, iopD, iaddD, inopD, iaddI, op1D, PR.rs, D.truth, D.len, ixD, ix, partD, cutD, revD, lenB, absB, intB, tupleB, listB, anyB, allB, isinstB, bltD, getB, mthD, mthTy, appendB, extendB, popB, mutD, mutTy, setD, kget, kput, D.key, DKey.ok, tyNames, D.tyName, tySub, lock, unlock, lkFree, seqD, puts, bindT, Tg.slots, wipeE, back, argsOf, lent, lentOk, Ar.pass, behind, dk_ss, dk_ii, dk_si, dk_is, bigLine, ownOk, mapOut, turnF, dictAt, lockVar, hide, unhide, bls, inD, D.isNon, List.lookup, ctx_call, io_swapped, io_near, io_changed_near, io_stepped, io_forms_on_way, io_formed, io_by_length, io_without_end, io_without_front, io_changes_back, io_made_beside, io_before_step, io_roots_of, io_root_of, io_law_draws, io_law_next, io_law_pick, io_law_same, io_law_step, io_law_chain, io_law_letters, io_law_all_letters, io_law, *])
theorem run_formed (n : Nat) (c : List R.St) (t : Txt) (hc : ∀ s ∈ c, Sm s) (hl : c.length ≤ 100) (ht : t.length ≤ 100) : Fi.run T G (n + 5) "formed" [(false, dC c), (false, .str t)] = some (.sh (.str (formed c t)), [.sh (dC c), .sh (.str t)]) := by
  refine run_eq (fn := f_formed) (E0 := ⟨[.sh (dC c), .sh (.str t)], []⟩) rfl rfl rfl ?_
  unfold f_formed c_formed
  have hr := run_way n c t hc hl ht
  have hw := way_len c t
  have hA : -((way c t).length : Int) ≤ -1 := by omega
  have hB : (way c t)[(-1 + ((way c t).length : Int)).toNat]? = some (formed c t) := by
    have := way_last c t
    rw [List.getLast?_eq_getElem?] at this
    rw [← this]; congr 1; omega
  clear hw
  walk_at "fi"
/-! ### by_length -/
theorem pys_keys : ∀ l : List Txt, D.pys (l.map keyT) = some (l.map fun t => PyData.tuple [.int t.length, .str ⟨t.toArray⟩])
  | [] => rfl
  | t :: l => by rw [List.map_cons, D.pys, pys_keys l]; rfl
theorem sort_keys (l : List Txt) : sortC (l.map keyT) = some (.fr (.lst ((srt l).map keyT))) := by
  unfold sortC
  rw [pys_keys, Option.bind_some, if_pos, srt_keys]
  unfold sortOk
  simp only [List.all_map, Bool.and_eq_true, Bool.or_eq_true, List.all_eq_true, Function.comp]
  refine ⟨⟨fun x _ y _ => ?_, .inl fun x _ => rfl⟩, fun x _ => ?_⟩
  · simp [PySem.W.alike, PySem.W.alikeAll]
  · simp [PyData.depth, PyData.depthAll]
theorem run_len (n : Nat) (ts : List Txt) (h : ts.length + 1 < 4096) (hl : ∀ t ∈ ts, t.length ≤ 1000) : Fi.run T G (n + 1) "by_length" [(false, .lst (ts.map .str))] = some (.sh (.tup ((canon ts).map .str)), [.sh (.lst (ts.map .str))]) := by
  refine run_eq (fn := f_by_length) (E0 := ⟨[.sh (.lst (ts.map .str)), .un, .un, .un], []⟩) rfl rfl rfl ?_
  unfold f_by_length c_by_length
  have htx := txts_str ts
  have hsl : (setT ts).length ≤ 16777216 := by have := setT_len ts; omega
  have hcl : (canon ts).length ≤ 16777216 := by unfold canon srt; rw [List.length_mergeSort]; exact hsl
  have k2 : evE (ctxOf T G n) k2_by_length ⟨[.sh (.lst (ts.map .str)), .un, .un, .un], []⟩ = some (.ow (.lst ((setT ts).map keyT)), ⟨[.sh (.lst (ts.map .str)), .un, .un, .un], []⟩) := by
    unfold k2_by_length
    refine cmp_map D.str keyT (setT ts) (l := none) (E1 := ⟨[.sh (.lst (ts.map .str)), .un, .un, .un], []⟩) (by walk_at "fi") rfl (fun t ht => ?_) (by unfold bigLine; omega) rfl
    have h1 : t.length ≤ 16777216 := by have := hl t (setT_mem.mp ht); omega
    unfold keyT
    walk_at "fi"
  have hs : sortB [.lst ((setT ts).map keyT)] = some (.fr (.lst ((canon ts).map keyT))) := sort_keys _
  have k1 : evE (ctxOf T G n) k1_by_length ⟨[.sh (.lst (ts.map .str)), .ow (.lst ((canon ts).map keyT)), .un, .un], []⟩ = some (.ow (.lst ((canon ts).map .str)), ⟨[.sh (.lst (ts.map .str)), .ow (.lst ((canon ts).map keyT)), .un, .un], []⟩) := by
    unfold k1_by_length
    refine cmpV_map keyT D.str (canon ts) rfl rfl rfl rfl (fun t ht => ?_) (by unfold bigLine; omega) rfl
    unfold keyT
    walk_at "fi"
  walk_at "fi"
/-! ### changes_back -/
theorem txts_sgl (L : List Nat) : txts (L.map fun s => D.str [s]) = some (L.map fun s => [s]) := by
  have := txts_str (L.map fun s => [s])
  rw [List.map_map] at this
  exact this
theorem abl_eq (x a b : Nat) (l : Bool) : abl x a b l = [x, a].filter fun s => decide ((if l = true ∧ s = a then b else s) = x) := rfl
/-- the row of a letter beside -/
def bes (bf : Bool) (row : Txt) : Option Nat := if bf then row.head? else row.getLast?
def ext (bf : Bool) (row s : Txt) : Txt := if bf then s ++ row else row ++ s
def grow (bf : Bool) (a b : Nat) (g : Txt) (x : Nat) (row : Txt) : List Txt := (sgl (abl x a b (lets g (bes bf row)))).map (ext bf row)
theorem sgl_short (x a b : Nat) (l : Bool) : (sgl (abl x a b l)).length ≤ 2 := Nat.le_trans (sgl_len _) (abl_len x a b l)
theorem cut_head (t : Txt) : cut t none (some 1) = ot t.head? := by
  rw [show (1 : Int) = ((1 : Nat) : Int) from rfl, cut_to]
  cases t <;> rfl
theorem cut_last (t : Txt) : cut t (some (-1)) none = ot t.getLast? := by
  unfold cut cutAt
  simp only [if_pos (show (-1 : Int) < 0 by omega)]
  cases t with
  | nil => rfl
  | cons x t =>
    rw [show ((-1 : Int) + ((x :: t).length : Nat)).toNat = t.length by simp only [List.length_cons]; omega]
    rw [List.getLast?_eq_getElem?]
    simp only [List.length_cons, Nat.add_sub_cancel]
    rw [List.drop_eq_getElem_cons (by simp), List.getElem?_eq_getElem (by simp)]
    rw [show (x :: t).drop (t.length + 1) = [] from List.drop_eq_nil_of_le (by simp)]
    rw [List.take_of_length_le (by simp)]; rfl
theorem grow_turn (n : Nat) (bf : Bool) (a b : Nat) (g w : Txt) (i x : Nat) (hx : w[i]? = some x) (hw : w.length ≤ 1000) (rows pl : D) (longer : List Txt) (row : Txt) (j11 j12 j13 j14 j15 : Sl) (h11 : j11.nlk = true) (h12 : j12.nlk = true) (h13 : j13.nlk = true) (h14 : j14.nlk = true) (h15 : j15.nlk = true) (hrow : row.length ≤ 1000) (hlo : longer.length + 2 ≤ 16777216) (Q : Out → Prop)
    (fin : ∀ k11 k12 k13 k14 k15 : Sl, k11.nlk = true → k12.nlk = true → k13.nlk = true → k14.nlk = true → k15.nlk = true → Q (.nx ⟨[.sh (nD bf a b g), .sh (.str w), .sh (.str (sBF bf)), .sh (.str [a]), .sh (.str [b]), .sh (.str g), .sh rows, .sh (.bl bf), .sh pl, .sh (.int i), .ow (.lst ((longer ++ grow bf a b g x row).map .str)), k11, k12, k13, k14, k15], []⟩)) :
    WT (ctxOf T G (n + 1)) (.nm 11) b2_changes_back (.str row) ⟨[.sh (nD bf a b g), .sh (.str w), .sh (.str (sBF bf)), .sh (.str [a]), .sh (.str [b]), .sh (.str g), .sh rows, .sh (.bl bf), .sh pl, .sh (.int i), .ow (.lst (longer.map .str)), j11, j12, j13, j14, j15], []⟩ Q := by
  have hb : w.length ≤ 16777216 := by omega
  have hrb : row.length ≤ 16777216 := by omega
  have hi : i < w.length := (List.getElem?_eq_some_iff.mp hx).1
  have hxx : w[i] = x := (List.getElem?_eq_some_iff.mp hx).2
  unfold b2_changes_back
  have hk : ∀ (o : Txt) (L : Bool), evE (ctxOf T G (n + 1)) k1_changes_back ⟨[.sh (nD bf a b g), .sh (.str w), .sh (.str (sBF bf)), .sh (.str [a]), .sh (.str [b]), .sh (.str g), .sh rows, .sh (.bl bf), .sh pl, .sh (.int i), .ow (.lst (longer.map .str)), .sh (.str row), .sh (.str o), .sh (.bl L), j14, j15], []⟩ = some (.ow (.lst ((abl x a b L).map fun s => D.str [s])), ⟨[.sh (nD bf a b g), .sh (.str w), .sh (.str (sBF bf)), .sh (.str [a]), .sh (.str [b]), .sh (.str g), .sh rows, .sh (.bl bf), .sh pl, .sh (.int i), .ow (.lst (longer.map .str)), .sh (.str row), .sh (.str o), .sh (.bl L), j14, j15], []⟩) := by
    intro o L
    unfold k1_changes_back
    rw [abl_eq]
    refine cmp_filter (fun s => D.str [s]) (fun s => D.str [s]) (fun s => decide ((if L = true ∧ s = a then b else s) = x)) [x, a] (l := none) (E1 := ⟨[.sh (nD bf a b g), .sh (.str w), .sh (.str (sBF bf)), .sh (.str [a]), .sh (.str [b]), .sh (.str g), .sh rows, .sh (.bl bf), .sh pl, .sh (.int i), .ow (.lst (longer.map .str)), .sh (.str row), .sh (.str o), .sh (.bl L), j14, j15], []⟩) (by walk_at "fi") rfl (fun s _ => ?_) (by simp [bigLine]) rfl
    have hr := run_made n s a b L
    by_cases hq : (if L = true ∧ s = a then b else s) = x
    · walk_at "fi"
    · walk_at "fi"
  have main : ∀ L : Bool, lets g (bes bf row) = L → WS (ctxOf T G (n + 1)) (.for (.nm 14) (.seq (.sset (.var 15))) b1_changes_back) ⟨[.sh (nD bf a b g), .sh (.str w), .sh (.str (sBF bf)), .sh (.str [a]), .sh (.str [b]), .sh (.str g), .sh rows, .sh (.bl bf), .sh pl, .sh (.int i), .ow (.lst (longer.map .str)), .sh (.str row), .sh (.str (ot (bes bf row))), .sh (.bl L), j14, .ow (.lst ((abl x a b L).map fun s => D.str [s]))], []⟩ (cont (ctxOf T G (n + 1)) .nil Q) := by
    intro L hL
    have htx := txts_sgl (abl x a b L)
    have hal : (abl x a b L).length + 1 < 4096 := by have := abl_len x a b L; omega
    refine ws_for D.str (sgl (abl x a b L)) (I := fun pre E' => ∃ k14 : Sl, E' = ⟨[.sh (nD bf a b g), .sh (.str w), .sh (.str (sBF bf)), .sh (.str [a]), .sh (.str [b]), .sh (.str g), .sh rows, .sh (.bl bf), .sh pl, .sh (.int i), .ow (.lst ((longer ++ pre.map (ext bf row)).map .str)), .sh (.str row), .sh (.str (ot (bes bf row))), .sh (.bl L), k14, .ow (.lst ((abl x a b L).map fun s => D.str [s]))], []⟩ ∧ k14.nlk = true) (l := none)
      (E1 := ⟨[.sh (nD bf a b g), .sh (.str w), .sh (.str (sBF bf)), .sh (.str [a]), .sh (.str [b]), .sh (.str g), .sh rows, .sh (.bl bf), .sh pl, .sh (.int i), .ow (.lst (longer.map .str)), .sh (.str row), .sh (.str (ot (bes bf row))), .sh (.bl L), j14, .ow (.lst ((abl x a b L).map fun s => D.str [s]))], []⟩) (by unfold sgl; walk_at "fi") ⟨j14, by simp, h14⟩ ?_ ?_
    · rintro pre s post E hx2 ⟨k14, rfl, hk14⟩
      have hs : ∃ c, s = [c] := by
        have : s ∈ sgl (abl x a b L) := by rw [hx2]; simp
        obtain ⟨c, _, e⟩ := sgl_mem.mp this
        exact ⟨c, e⟩
      obtain ⟨c, rfl⟩ := hs
      have hpl : longer.length + pre.length < 16777216 := by
        have h1 := congrArg List.length hx2
        have h2 := sgl_short x a b L
        simp at h1; omega
      have hcl : row.length + 1 ≤ 16777216 := by omega
      have hcl2 : 1 + row.length ≤ 16777216 := by omega
      unfold b1_changes_back ext
      cases bf with
      | true => walk_at "fi"
      | false => walk_at "fi"
    · rintro E' ⟨k14, rfl, hk14⟩
      have := fin (.sh (.str row)) (.sh (.str (ot (bes bf row)))) (.sh (.bl L)) k14 (.ow (.lst ((abl x a b L).map fun s => D.str [s]))) rfl rfl rfl hk14 rfl
      unfold grow at this
      rw [hL] at this
      simp only [cont_nx, WB_nil]
      exact this
  have ot0 : ot none = [] := rfl
  have ot1 : ∀ c, ot (some c) = [c] := fun _ => rfl
  have e1 := cut_head row
  have e2 := cut_last row
  cases hq : bes bf row with
  | none =>
    have hm := main false (by rw [hq]; rfl)
    have hk := hk [] false
    rw [hq, ot0] at hm
    clear main
    cases bf with
    | true => have hq : row.head? = none := hq; rw [hq] at e1; walk_at "fi"
    | false => have hq : row.getLast? = none := hq; rw [hq] at e2; walk_at "fi"
  | some c =>
    have hm := main (decide (c ∈ g)) (by rw [hq]; rfl)
    have hk := hk [c] (decide (c ∈ g))
    rw [hq, ot1] at hm
    clear main
    cases bf with
    | true => have hq : row.head? = some c := hq; rw [hq] at e1; walk_at "fi"
    | false => have hq : row.getLast? = some c := hq; rw [hq] at e2; walk_at "fi"
end K04
end

section
set_option maxRecDepth 100000
set_option maxHeartbeats 4000000
namespace K04
open PySem L2 Fi Fi.R
local macro_rules | `(tactic| walk_at "fi") => `(tactic| simp [WB_cons, WB_nil, WS_asg, WS_par, WS_aug, WS_augIx, WS_setIx, WS_ex, WS_ret, WS_retN, WS_brk, WS_cnt, WS_pas, WS_ite, iteQ_some, iteT_t, iteT_f, cont_nx, cont_rt, cont_bk, cont_ct, Lp_nx, Lp_ct, Lp_rt, Lp_bk, Lw_nx, Lw_ct, Lw_rt, Lw_bk, WT, Done_rt, Done_nx, giveD_sh, giveD_ow, giveD_pk, finsD, rg0, rg1, rg2, rg3, rg4, rg5, rg6, evS, evE, evEs, evO, evT, evI, Env.get, Env.put, Env.vw, Env.rd, Env.tk, Env.tks, Env.free, Rs.fz, op2D, addD, subD, mulD, fdivD, modD, powD, cmpA, ordD, nlk_un, nlk_sh, nlk_ow, nlk_lk, isD, iopD, iaddD, inopD, iaddI, op1D, PR.rs, D.truth, D.len, ixD, ix, partD, cutD, revD, lenB, absB, intB, tupleB, listB, anyB, allB, isinstB, bltD, getB, mthD, mthTy, appendB, extendB, popB, mutD, mutTy, setD, kget, kput, D.key, DKey.ok, tyNames, D.tyName, tySub, lock, unlock, lkFree, seqD, puts, bindT, Tg.slots, wipeE, back, argsOf, lent, lentOk, Ar.pass, behind, dk_ss, dk_ii, dk_si, dk_is, bigLine, ownOk, mapOut, turnF, dictAt, lockVar, hide, unhide, bls, inD, D.isNon, List.lookup, ctx_call, io_swapped, io_near, io_changed_near, io_stepped, io_forms_on_way, io_formed, io_by_length, io_without_end, io_without_front, io_changes_back, io_made_beside, io_before_step, io_roots_of, io_root_of, io_law_draws, io_law_next, io_law_pick, io_law_same, io_law_step, io_law_chain, io_law_letters, io_law_all_letters, io_law, *])
theorem backB_grow (a b : Nat) (g : Txt) (x : Nat) (r : Txt) : backB a b g (x :: r) = (backB a b g r).flatMap (grow true a b g x) := rfl
theorem backA_grow (a b : Nat) (g : Txt) (x : Nat) (r : Txt) : backA a b g (r ++ [x]) = (backA a b g r).flatMap (grow false a b g x) := by
  unfold backA; rw [List.foldl_append]; rfl
theorem grow_rows {bf : Bool} {a b : Nat} {g : Txt} {x : Nat} {row r : Txt} (h : r ∈ grow bf a b g x row) : r.length = row.length + 1 := by
  unfold grow at h
  rw [List.mem_map] at h
  obtain ⟨s, hs, rfl⟩ := h
  obtain ⟨c, _, rfl⟩ := sgl_mem.mp hs
  cases bf
  · show (row ++ [c]).length = _; simp
  · show ([c] ++ row).length = _; simp
theorem grow_len (bf : Bool) (a b : Nat) (g : Txt) (x : Nat) (row : Txt) : (grow bf a b g x row).length ≤ 2 := by
  unfold grow; rw [List.length_map]; exact sgl_short _ _ _ _
theorem backB_rows (a b : Nat) (g : Txt) : ∀ (w r : Txt), r ∈ backB a b g w → r.length = w.length
  | [], r, h => by simp [backB] at h; simp [h]
  | x :: w, r, h => by
    rw [backB_grow, List.mem_flatMap] at h
    obtain ⟨row, hr, h⟩ := h
    rw [grow_rows h, backB_rows a b g w row hr]; rfl
theorem backA_rows (a b : Nat) (g : Txt) : ∀ (n : Nat) (w r : Txt), w.length = n → r ∈ backA a b g w → r.length = n
  | 0, w, r, hw, h => by
    have : w = [] := List.eq_nil_of_length_eq_zero hw
    subst this
    simp [backA] at h; simp [h]
  | n + 1, w, r, hw, h => by
    rcases List.eq_nil_or_concat w with rfl | ⟨u, x, rfl⟩
    · simp at hw
    · rw [List.concat_eq_append] at h hw
      rw [backA_grow, List.mem_flatMap] at h
      obtain ⟨row, hr, h⟩ := h
      rw [grow_rows h, backA_rows a b g n u row (by simpa using hw) hr]
/-- the rows behind so many places -/
def rowsAt (bf : Bool) (a b : Nat) (g w : Txt) (k : Nat) : List Txt := if bf then backB a b g (w.drop (w.length - k)) else backA a b g (w.take k)
theorem rowsAt_len {bf : Bool} {a b : Nat} {g w : Txt} {k : Nat} (h : k ≤ w.length) (hw : w.length ≤ 20) : (rowsAt bf a b g w k).length ≤ 1048576 := by
  have h2 : 2 ^ k ≤ 2 ^ 20 := Nat.pow_le_pow_right (by omega) (by omega)
  cases bf with
  | true =>
    show (backB a b g (w.drop (w.length - k))).length ≤ _
    have := backB_len a b g (w.drop (w.length - k))
    rw [List.length_drop, show w.length - (w.length - k) = k by omega] at this
    exact Nat.le_trans this h2
  | false =>
    show (backA a b g (w.take k)).length ≤ _
    have := backA_len a b g (w.take k)
    rw [List.length_take, Nat.min_eq_left h] at this
    exact Nat.le_trans this h2
theorem rowsAt_row {bf : Bool} {a b : Nat} {g w r : Txt} {k : Nat} (h : r ∈ rowsAt bf a b g w k) : r.length ≤ w.length := by
  cases bf with
  | true => rw [backB_rows a b g _ r h]; simp
  | false => rw [backA_rows a b g _ _ r rfl h]; simp; omega
theorem rowsAt_step {bf : Bool} {a b : Nat} {g w : Txt} {k i x : Nat} (hi : w[i]? = some x) (hk : k < w.length) (hik : i = if bf = true then w.length - 1 - k else k) : rowsAt bf a b g w (k + 1) = (rowsAt bf a b g w k).flatMap (grow bf a b g x) := by
  have hx := List.getElem?_eq_some_iff.mp hi
  obtain ⟨h1, h2⟩ := hx
  cases bf with
  | true =>
    have hik : i = w.length - 1 - k := hik
    show backB a b g (w.drop (w.length - (k + 1))) = (backB a b g (w.drop (w.length - k))).flatMap _
    rw [show w.length - (k + 1) = i by omega, List.drop_eq_getElem_cons h1, h2, show i + 1 = w.length - k by omega]
    rfl
  | false =>
    have hik : i = k := hik
    subst hik
    show backA a b g (w.take (i + 1)) = (backA a b g (w.take i)).flatMap _
    rw [List.take_succ, hi]
    exact backA_grow _ _ _ _ _
theorem places_at {bf : Bool} {n i : Nat} {pre post : List Nat} (hx : (if bf = true then (List.range n).reverse else List.range n) = pre ++ i :: post) : pre.length < n ∧ i = if bf = true then n - 1 - pre.length else pre.length := by
  have hl := congrArg List.length hx
  have hg : (pre ++ i :: post)[pre.length]? = some i := by simp
  rw [← hx] at hg
  have hn : (if bf = true then (List.range n).reverse else List.range n).length = n := by cases bf <;> simp
  rw [hn] at hl
  have hlt : pre.length < n := by simp at hl; omega
  refine ⟨hlt, ?_⟩
  cases bf with
  | true =>
    simp only [if_true] at hg ⊢
    rw [List.getElem?_reverse (by simpa using hlt), List.length_range, List.getElem?_range (by omega)] at hg
    exact (Option.some.inj hg).symm
  | false =>
    simp only [Bool.false_eq_true, if_false] at hg ⊢
    rw [List.getElem?_range hlt] at hg
    exact (Option.some.inj hg).symm
theorem run_back (n : Nat) (bf : Bool) (a b : Nat) (g w : Txt) (hw : w.length ≤ 20) : Fi.run T G (n + 2) "changes_back" [(false, nD bf a b g), (false, .str w)] = some (.sh (.lst ((backN bf a b g w).map .str)), [.sh (nD bf a b g), .sh (.str w)]) := by
  have hb : w.length ≤ 16777216 := by omega
  have hb2 : w.length ≤ 1000 := by omega
  refine run_eq (fn := f_changes_back) (E0 := ⟨[.sh (nD bf a b g), .sh (.str w), .un, .un, .un, .un, .un, .un, .un, .un, .un, .un, .un, .un, .un, .un], []⟩) rfl rfl rfl ?_
  have hn : nD bf a b g = .tup [.str (sBF bf), .str [a], .str [b], .str g] := rfl
  have hr : rngD 0 (w.length : Int) 1 = some ((List.range w.length).map fun (k : Nat) => D.int k) := rngD_nat hb
  have main : ∀ (pl : D) (Q : Out → Prop), (∀ E' : Fi.Env, (∃ j9 j10 j11 j12 j13 j14 j15 : Sl, E' = ⟨[.sh (nD bf a b g), .sh (.str w), .sh (.str (sBF bf)), .sh (.str [a]), .sh (.str [b]), .sh (.str g), .sh (.lst ((backN bf a b g w).map .str)), .sh (.bl bf), .sh pl, j9, j10, j11, j12, j13, j14, j15], []⟩) → Q (.nx E')) →
      ∀ (it : IT), evI (ctxOf T G (n + 1)) it ⟨[.sh (nD bf a b g), .sh (.str w), .sh (.str (sBF bf)), .sh (.str [a]), .sh (.str [b]), .sh (.str g), .sh (.lst [.str []]), .sh (.bl bf), .sh pl, .un, .un, .un, .un, .un, .un, .un], []⟩ = some ((if bf = true then (List.range w.length).reverse else List.range w.length).map (fun (k : Nat) => D.int k), none, ⟨[.sh (nD bf a b g), .sh (.str w), .sh (.str (sBF bf)), .sh (.str [a]), .sh (.str [b]), .sh (.str g), .sh (.lst [.str []]), .sh (.bl bf), .sh pl, .un, .un, .un, .un, .un, .un, .un], []⟩) →
      WS (ctxOf T G (n + 1)) (.for (.nm 9) it b3_changes_back) ⟨[.sh (nD bf a b g), .sh (.str w), .sh (.str (sBF bf)), .sh (.str [a]), .sh (.str [b]), .sh (.str g), .sh (.lst [.str []]), .sh (.bl bf), .sh pl, .un, .un, .un, .un, .un, .un, .un], []⟩ Q := by
    intro pl Q fin it hit
    refine ws_for (fun (k : Nat) => D.int k) (if bf = true then (List.range w.length).reverse else List.range w.length) (I := fun pre E' => ∃ j9 j10 j11 j12 j13 j14 j15 : Sl, E' = ⟨[.sh (nD bf a b g), .sh (.str w), .sh (.str (sBF bf)), .sh (.str [a]), .sh (.str [b]), .sh (.str g), .sh (.lst ((rowsAt bf a b g w pre.length).map .str)), .sh (.bl bf), .sh pl, j9, j10, j11, j12, j13, j14, j15], []⟩ ∧ j9.nlk = true ∧ j10.nlk = true ∧ j11.nlk = true ∧ j12.nlk = true ∧ j13.nlk = true ∧ j14.nlk = true ∧ j15.nlk = true) (l := none)
      hit ⟨.un, .un, .un, .un, .un, .un, .un, ?_, rfl, rfl, rfl, rfl, rfl, rfl, rfl⟩ ?_ ?_
    · have : rowsAt bf a b g w ([] : List Nat).length = [[]] := by
        cases bf <;> simp [rowsAt, backA, backB]
      rw [this]; rfl
    · rintro pre i post E hx ⟨j9, j10, j11, j12, j13, j14, j15, rfl, h9, h10, h11, h12, h13, h14, h15⟩
      obtain ⟨hk, hik⟩ := places_at hx
      have hi : i < w.length := by rw [hik]; split <;> omega
      have hxi : w[i]? = some w[i] := List.getElem?_eq_getElem hi
      have hst := rowsAt_step (a := a) (b := b) (g := g) hxi hk hik
      have hrl := rowsAt_len (bf := bf) (a := a) (b := b) (g := g) (Nat.le_of_lt hk) hw
      rw [List.length_append, List.length_singleton, hst]
      have hrow : ∀ r ∈ rowsAt bf a b g w pre.length, r.length ≤ 1000 := fun r h => by have := rowsAt_row h; omega
      generalize rowsAt bf a b g w pre.length = rows at *
      clear hik hx
      unfold b3_changes_back
      walk_at "fi"
      refine ws_for D.str rows (I := fun pre' E' => ∃ k11 k12 k13 k14 k15 : Sl, E' = ⟨[.sh (nD bf a b g), .sh (.str w), .sh (.str (sBF bf)), .sh (.str [a]), .sh (.str [b]), .sh (.str g), .sh (.lst (rows.map .str)), .sh (.bl bf), .sh pl, .sh (.int i), .ow (.lst ((pre'.flatMap (grow bf a b g w[i])).map .str)), k11, k12, k13, k14, k15], []⟩ ∧ k11.nlk = true ∧ k12.nlk = true ∧ k13.nlk = true ∧ k14.nlk = true ∧ k15.nlk = true) (l := none)
        (E1 := ⟨[.sh (nD bf a b g), .sh (.str w), .sh (.str (sBF bf)), .sh (.str [a]), .sh (.str [b]), .sh (.str g), .sh (.lst (rows.map .str)), .sh (.bl bf), .sh pl, .sh (.int i), .ow (.lst []), j11, j12, j13, j14, j15], []⟩) (by walk_at "fi") ⟨j11, j12, j13, j14, j15, rfl, h11, h12, h13, h14, h15⟩ ?_ ?_
      · rintro pre' row post' E hx' ⟨k11, k12, k13, k14, k15, rfl, q11, q12, q13, q14, q15⟩
        have hrw : row.length ≤ 1000 := hrow row (by rw [hx']; simp)
        have hpl : pre'.length ≤ 1048576 := by have := congrArg List.length hx'; simp at this; omega
        have hgl := flat_len (k := 2) (xs := pre') (f := grow bf a b g w[i]) fun r _ => grow_len bf a b g w[i] r
        refine grow_turn n bf a b g w i w[i] hxi hb2 (.lst (rows.map .str)) pl _ row k11 k12 k13 k14 k15 q11 q12 q13 q14 q15 hrw (by omega) _ fun m11 m12 m13 m14 m15 e11 e12 e13 e14 e15 => ?_
        rw [Lp_nx]
        refine ⟨m11, m12, m13, m14, m15, ?_, e11, e12, e13, e14, e15⟩
        rw [List.flatMap_append]; simp
      · rintro E' ⟨k11, k12, k13, k14, k15, rfl, q11, q12, q13, q14, q15⟩
        walk_at "fi"
        exact ⟨_, _, _, _, _, _, _, ⟨rfl, rfl, rfl, rfl, rfl, rfl, rfl⟩, rfl, rfl, q11, q12, q13, q14, q15⟩
    · rintro E' ⟨j9, j10, j11, j12, j13, j14, j15, rfl, _⟩
      refine fin _ ⟨j9, j10, j11, j12, j13, j14, j15, ?_⟩
      have hl : (if bf = true then (List.range w.length).reverse else List.range w.length).length = w.length := by cases bf <;> simp
      have : rowsAt bf a b g w w.length = backN bf a b g w := by cases bf <;> simp [rowsAt, backN]
      rw [show ∀ X, unlock X none = X from fun _ => rfl, hl, this]
  unfold f_changes_back c_changes_back
  cases bf with
  | true =>
    have e2 : sBF true = [98, 101, 102, 111, 114, 101] := rfl
    walk_at "fi"
    refine main (.lst ((List.range w.length).map fun (k : Nat) => D.int k)) _ ?_ _ ?_
    · rintro E' ⟨j9, j10, j11, j12, j13, j14, j15, rfl⟩
      walk_at "fi"
    · walk_at "fi"
  | false =>
    have e2 : sBF false = [97, 102, 116, 101, 114] := rfl
    walk_at "fi"
    refine main (.lst ((List.range w.length).map fun (k : Nat) => D.int k)) _ ?_ _ ?_
    · rintro E' ⟨j9, j10, j11, j12, j13, j14, j15, rfl⟩
      walk_at "fi"
    · walk_at "fi"
end K04
end

section
set_option maxRecDepth 100000
set_option maxHeartbeats 4000000
namespace K04
open PySem L2 Fi Fi.R
local macro_rules | `(tactic| walk_at "fi") => `(tactic| simp [WB_cons, WB_nil, WS_asg, WS_par, WS_aug, WS_augIx, WS_setIx, WS_ex, WS_ret, WS_retN, WS_brk, WS_cnt, WS_pas, WS_ite, iteQ_some, iteT_t, iteT_f, cont_nx, cont_rt, cont_bk, cont_ct, Lp_nx, Lp_ct, Lp_rt, Lp_bk, Lw_nx, Lw_ct, Lw_rt, Lw_bk, WT, Done_rt, Done_nx, giveD_sh, giveD_ow, giveD_pk, finsD, rg0, rg1, rg2, rg3, rg4, rg5, rg6, evS, evE, evEs, evO, evT, evI, Env.get, Env.put, Env.vw, Env.rd, Env.tk, Env.tks, Env.free, Rs.fz, op2D, addD, subD, mulD, fdivD, modD, powD, cmpA, ordD, nlk_un, nlk_sh, nlk_ow, nlk_lk, isD, iopD, iaddD, inopD, iaddI, op1D, PR.rs, D.truth, D.len, ixD, ix, partD, cutD, revD, lenB, absB, intB, tupleB, listB, anyB, allB, isinstB, bltD, getB, mthD, mthTy, appendB, extendB, popB, mutD, mutTy, setD, kget, kput, D.key, DKey.ok, tyNames, D.tyName, tySub, lock, unlock, lkFree, seqD, puts, bindT, Tg.slots, wipeE, back, argsOf, lent, lentOk, Ar.pass, behind, dk_ss, dk_ii, dk_si, dk_is, bigLine, ownOk, mapOut, turnF, dictAt, lockVar, hide, unhide, bls, inD, D.isNon, List.lookup, ctx_call, io_swapped, io_near, io_changed_near, io_stepped, io_forms_on_way, io_formed, io_by_length, io_without_end, io_without_front, io_changes_back, io_made_beside, io_before_step, io_roots_of, io_root_of, io_law_draws, io_law_next, io_law_pick, io_law_same, io_law_step, io_law_chain, io_law_letters, io_law_all_letters, io_law, *])
theorem k1_bef (n : Nat) (s : R.St) (w : Txt) (hs : Sm s) (xs : List Txt) (hx : ∀ t ∈ xs, t.length ≤ 1000) (hl : xs.length ≤ 16777216) (kd : D) (j4 j5 : Sl) (ow : Bool) :
    evE (ctxOf T G (n + 4)) k1_before_step ⟨[.sh (dSt s), .sh (.str w), .sh kd, if ow then .ow (.lst (xs.map .str)) else .sh (.lst (xs.map .str)), j4, j5, .un], []⟩ = some (.ow (.lst ((xs.filter fun t => decide (stp s t = w)).map .str)), ⟨[.sh (dSt s), .sh (.str w), .sh kd, if ow then .ow (.lst (xs.map .str)) else .sh (.lst (xs.map .str)), j4, j5, .un], []⟩) := by
  unfold k1_before_step
  cases ow with
  | true =>
    refine cmpV_filter D.str D.str (fun t => decide (stp s t = w)) xs rfl rfl rfl rfl (fun t ht => ?_) (by unfold bigLine; exact hl) rfl
    have hr := run_stepped (n + 1) s t hs (hx t ht)
    by_cases h : stp s t = w
    · walk_at "fi"
    · walk_at "fi"
  | false =>
    refine cmpV_filter D.str D.str (fun t => decide (stp s t = w)) xs rfl rfl rfl rfl (fun t ht => ?_) (by unfold bigLine; exact hl) rfl
    have hr := run_stepped (n + 1) s t hs (hx t ht)
    by_cases h : stp s t = w
    · walk_at "fi"
    · walk_at "fi"
theorem candAll_len {s : R.St} {w : Txt} (hs : Sm s) (hw : w.length ≤ 11) : (candAll s w).length + 1 < 4096 := by
  cases s with
  | fin p => simp only [candAll]; split <;> simp
  | fro p => simp only [candAll]; split <;> simp
  | cut p => exact Nat.lt_of_le_of_lt (Nat.add_le_add_right (List.length_filter_le _ _) 1) (by simp)
  | swp a b => exact Nat.lt_of_le_of_lt (Nat.add_le_add_right (List.length_filter_le _ _) 1) (by simp)
  | dbl k => have hs : k ≤ 2 := hs; exact Nat.lt_of_le_of_lt (Nat.add_le_add_right (List.length_filter_le _ _) 1) (by simp; omega)
  | nea bf a b g =>
    refine Nat.lt_of_le_of_lt (Nat.add_le_add_right (List.length_filter_le _ _) 1) ?_
    have h2 : 2 ^ w.length ≤ 2 ^ 11 := Nat.pow_le_pow_right (by omega) hw
    have : (backN bf a b g w).length ≤ 2 ^ w.length := by
      cases bf
      · exact backA_len _ _ _ _
      · exact backB_len _ _ _ _
    omega
theorem stp_short {s : R.St} (hs : Sm s) (t : Txt) : t.length ≤ (stp s t).length + 2 := by
  cases s with
  | fin p => simp only [stp, List.length_append]; omega
  | fro p => simp only [stp, List.length_append]; omega
  | cut p => simp only [stp]; split <;> simp; have : p.length ≤ 2 := hs; omega
  | swp a b => simp [stp]
  | nea bf a b g => simp only [stp, chg_length]; omega
  | dbl n => simp only [stp, List.length_append, List.length_take]; omega
theorem run_bef_fin (n : Nat) (p : Txt) (w : Txt) (hs : Sm (.fin p)) (hw : w.length ≤ 11) : Fi.run T G (n + 5) "before_step" [(false, dSt (.fin p)), (false, .str w)] = some (.sh (.tup ((bef (.fin p) w).map .str)), [.sh (dSt (.fin p)), .sh (.str w)]) := by
  have hb : w.length ≤ 16777216 := by omega
  have hcl := candAll_len hs hw
  have hcm : ∀ t ∈ candAll (.fin p) w, t.length ≤ 1000 := fun t ht => by
    have := stp_short hs t
    rw [(cand_mem (.fin p) w t).mp ht] at this; omega
  have hby := run_len (n + 3) (candAll (.fin p) w) hcl hcm
  have hbe : canon (candAll (.fin p) w) = bef (.fin p) w := rfl
  rw [hbe] at hby
  refine run_eq (fn := f_before_step) (E0 := ⟨[.sh (dSt (.fin p)), .sh (.str w), .un, .un, .un, .un, .un], []⟩) rfl rfl rfl ?_
  unfold f_before_step c_before_step
  have hp : p.length ≤ 2 := hs
  have hr := run_wend (n + 3) p w (by omega) hb
  simp only [candAll] at hby
  simp only [dSt]
  clear hcl hcm hbe
  generalize bef (St.fin p) w = R at *
  walk_at "fi"
theorem run_bef_fro (n : Nat) (p : Txt) (w : Txt) (hs : Sm (.fro p)) (hw : w.length ≤ 11) : Fi.run T G (n + 5) "before_step" [(false, dSt (.fro p)), (false, .str w)] = some (.sh (.tup ((bef (.fro p) w).map .str)), [.sh (dSt (.fro p)), .sh (.str w)]) := by
  have hb : w.length ≤ 16777216 := by omega
  have hcl := candAll_len hs hw
  have hcm : ∀ t ∈ candAll (.fro p) w, t.length ≤ 1000 := fun t ht => by
    have := stp_short hs t
    rw [(cand_mem (.fro p) w t).mp ht] at this; omega
  have hby := run_len (n + 3) (candAll (.fro p) w) hcl hcm
  have hbe : canon (candAll (.fro p) w) = bef (.fro p) w := rfl
  rw [hbe] at hby
  refine run_eq (fn := f_before_step) (E0 := ⟨[.sh (dSt (.fro p)), .sh (.str w), .un, .un, .un, .un, .un], []⟩) rfl rfl rfl ?_
  unfold f_before_step c_before_step
  have hp : p.length ≤ 2 := hs
  have hr := run_wfront (n + 3) p w (by omega) hb
  simp only [candAll] at hby
  simp only [dSt]
  clear hcl hcm hbe
  generalize bef (St.fro p) w = R at *
  walk_at "fi"
theorem run_bef_cut (n : Nat) (p : Txt) (w : Txt) (hs : Sm (.cut p)) (hw : w.length ≤ 11) : Fi.run T G (n + 5) "before_step" [(false, dSt (.cut p)), (false, .str w)] = some (.sh (.tup ((bef (.cut p) w).map .str)), [.sh (dSt (.cut p)), .sh (.str w)]) := by
  have hb : w.length ≤ 16777216 := by omega
  have hcl := candAll_len hs hw
  have hcm : ∀ t ∈ candAll (.cut p) w, t.length ≤ 1000 := fun t ht => by
    have := stp_short hs t
    rw [(cand_mem (.cut p) w t).mp ht] at this; omega
  have hby := run_len (n + 3) (candAll (.cut p) w) hcl hcm
  have hbe : canon (candAll (.cut p) w) = bef (.cut p) w := rfl
  rw [hbe] at hby
  refine run_eq (fn := f_before_step) (E0 := ⟨[.sh (dSt (.cut p)), .sh (.str w), .un, .un, .un, .un, .un], []⟩) rfl rfl rfl ?_
  unfold f_before_step c_before_step
  have hp : p.length ≤ 2 := hs
  have h1 : w.length + p.length ≤ 16777216 := by omega
  have hk := k1_bef n (.cut p) w hs [w, w ++ p] (by simp; omega) (by simp) (.str [99, 117, 116]) .un .un true
  simp only [dSt] at hk ⊢
  simp only [candAll] at hby
  clear hcl hcm hbe
  generalize bef (St.cut p) w = R at *
  generalize List.filter (fun t => decide (stp (St.cut p) t = w)) [w, w ++ p] = F at *
  simp only [List.map_cons, List.map_nil, if_true] at hk
  walk_at "fi"
theorem run_bef_swp (n : Nat) (a b : Nat) (w : Txt) (hs : Sm (.swp a b)) (hw : w.length ≤ 11) : Fi.run T G (n + 5) "before_step" [(false, dSt (.swp a b)), (false, .str w)] = some (.sh (.tup ((bef (.swp a b) w).map .str)), [.sh (dSt (.swp a b)), .sh (.str w)]) := by
  have hb : w.length ≤ 16777216 := by omega
  have hcl := candAll_len hs hw
  have hcm : ∀ t ∈ candAll (.swp a b) w, t.length ≤ 1000 := fun t ht => by
    have := stp_short hs t
    rw [(cand_mem (.swp a b) w t).mp ht] at this; omega
  have hby := run_len (n + 3) (candAll (.swp a b) w) hcl hcm
  have hbe : canon (candAll (.swp a b) w) = bef (.swp a b) w := rfl
  rw [hbe] at hby
  refine run_eq (fn := f_before_step) (E0 := ⟨[.sh (dSt (.swp a b)), .sh (.str w), .un, .un, .un, .un, .un], []⟩) rfl rfl rfl ?_
  unfold f_before_step c_before_step
  have hk2 : evE (ctxOf T G (n + 4)) k2_before_step ⟨[.sh (dSt (.swp a b)), .sh (.str w), .sh (.str [115, 119, 97, 112]), .un, .un, .un, .un], []⟩ = some (.ow (.lst (w.map fun x => D.str [sw a b x])), ⟨[.sh (dSt (.swp a b)), .sh (.str w), .sh (.str [115, 119, 97, 112]), .un, .un, .un, .un], []⟩) := by
    unfold k2_before_step; simp only [dSt]
    refine cmpV_map (fun x => D.str [x]) (fun x => D.str [sw a b x]) w (d := .str w) rfl rfl (by simp [seqD, bigLine, hb]) rfl (fun x _ => ?_) (by unfold bigLine; omega) rfl
    have hr := run_swapped (n + 3) x a b
    walk_at "fi"
  have hj := join_sgl (t := w.map (sw a b)) (by unfold bigLine; simpa using hb)
  simp only [List.map_map, Function.comp_def] at hj
  have hk := k1_bef n (.swp a b) w hs [w.map (sw a b)] (by simp; omega) (by simp) (.str [115, 119, 97, 112]) .un .un true
  simp only [dSt] at hk hk2 ⊢
  simp only [candAll] at hby
  clear hcl hcm hbe
  generalize bef (St.swp a b) w = R at *
  generalize List.filter (fun t => decide (stp (St.swp a b) t = w)) [w.map (sw a b)] = F at *
  generalize w.map (sw a b) = u at *
  simp only [List.map_cons, List.map_nil, if_true] at hk
  walk_at "fi"
  unfold o2_before_step
  walk_at "fi"
theorem run_bef_nea (n : Nat) (bf : Bool) (a b : Nat) (g : Txt) (w : Txt) (hs : Sm (.nea bf a b g)) (hw : w.length ≤ 11) : Fi.run T G (n + 5) "before_step" [(false, dSt (.nea bf a b g)), (false, .str w)] = some (.sh (.tup ((bef (.nea bf a b g) w).map .str)), [.sh (dSt (.nea bf a b g)), .sh (.str w)]) := by
  have hb : w.length ≤ 16777216 := by omega
  have hcl := candAll_len hs hw
  have hcm : ∀ t ∈ candAll (.nea bf a b g) w, t.length ≤ 1000 := fun t ht => by
    have := stp_short hs t
    rw [(cand_mem (.nea bf a b g) w t).mp ht] at this; omega
  have hby := run_len (n + 3) (candAll (.nea bf a b g) w) hcl hcm
  have hbe : canon (candAll (.nea bf a b g) w) = bef (.nea bf a b g) w := rfl
  rw [hbe] at hby
  refine run_eq (fn := f_before_step) (E0 := ⟨[.sh (dSt (.nea bf a b g)), .sh (.str w), .un, .un, .un, .un, .un], []⟩) rfl rfl rfl ?_
  unfold f_before_step c_before_step
  have hr := run_back (n + 2) bf a b g w (by omega)
  have hbl : (backN bf a b g w).length ≤ 16777216 := by
    have h2 : 2 ^ w.length ≤ 2 ^ 11 := Nat.pow_le_pow_right (by omega) hw
    have : (backN bf a b g w).length ≤ 2 ^ w.length := by
      cases bf
      · exact backA_len _ _ _ _
      · exact backB_len _ _ _ _
    omega
  have hbr : ∀ t ∈ backN bf a b g w, t.length ≤ 1000 := fun t ht => by
    cases bf with
    | true => rw [backB_rows a b g w t ht]; omega
    | false => rw [backA_rows a b g _ w t rfl ht]; omega
  have hk := k1_bef n (.nea bf a b g) w hs (backN bf a b g w) hbr hbl (.str (sBF bf)) .un .un false
  have e : dSt (.nea bf a b g) = .tup [.str (sBF bf), .str [a], .str [b], .str g] := rfl
  have e1 : nD bf a b g = .tup [.str (sBF bf), .str [a], .str [b], .str g] := rfl
  rw [e] at hk ⊢
  rw [e1] at hr
  simp only [candAll] at hby
  clear hcl hcm hbe e e1 hbr
  generalize bef (St.nea bf a b g) w = R at *
  generalize List.filter (fun t => decide (stp (St.nea bf a b g) t = w)) (backN bf a b g w) = F at *
  generalize backN bf a b g w = B at *
  simp only [Bool.false_eq_true, if_false] at hk
  cases bf with
  | true =>
    have e2 : sBF true = [98, 101, 102, 111, 114, 101] := rfl
    rw [e2] at hk hr ⊢
    walk_at "fi"
    unfold o2_before_step
    walk_at "fi"
    unfold o1_before_step
    walk_at "fi"
  | false =>
    have e2 : sBF false = [97, 102, 116, 101, 114] := rfl
    rw [e2] at hk hr ⊢
    walk_at "fi"
    unfold o2_before_step
    walk_at "fi"
    unfold o1_before_step
    walk_at "fi"
theorem run_bef_dbl (n : Nat) (k : Nat) (w : Txt) (hs : Sm (.dbl k)) (hw : w.length ≤ 11) : Fi.run T G (n + 5) "before_step" [(false, dSt (.dbl k)), (false, .str w)] = some (.sh (.tup ((bef (.dbl k) w).map .str)), [.sh (dSt (.dbl k)), .sh (.str w)]) := by
  have hb : w.length ≤ 16777216 := by omega
  have hcl := candAll_len hs hw
  have hcm : ∀ t ∈ candAll (.dbl k) w, t.length ≤ 1000 := fun t ht => by
    have := stp_short hs t
    rw [(cand_mem (.dbl k) w t).mp ht] at this; omega
  have hby := run_len (n + 3) (candAll (.dbl k) w) hcl hcm
  have hbe : canon (candAll (.dbl k) w) = bef (.dbl k) w := rfl
  rw [hbe] at hby
  refine run_eq (fn := f_before_step) (E0 := ⟨[.sh (dSt (.dbl k)), .sh (.str w), .un, .un, .un, .un, .un], []⟩) rfl rfl rfl ?_
  unfold f_before_step c_before_step
  have hkk : k ≤ 2 := hs
  have hk3 : evE (ctxOf T G (n + 4)) k3_before_step ⟨[.sh (dSt (.dbl k)), .sh (.str w), .sh (.str [100, 111, 117, 98, 108, 101]), .un, .un, .un, .un], []⟩ = some (.ow (.lst (((List.range (k + 1)).map fun j => w.drop j).map .str)), ⟨[.sh (dSt (.dbl k)), .sh (.str w), .sh (.str [100, 111, 117, 98, 108, 101]), .un, .un, .un, .un], []⟩) := by
    unfold k3_before_step; simp only [dSt]
    rw [List.map_map]
    refine cmp_map (fun (j : Nat) => D.int j) (fun j => D.str (w.drop j)) (List.range (k + 1)) (l := none) (E1 := ⟨[.sh (dSt (.dbl k)), .sh (.str w), .sh (.str [100, 111, 117, 98, 108, 101]), .un, .un, .un, .un], []⟩) (evI_rng (n := k + 1) (by simp only [dSt]; walk_at "fi") (by omega)) rfl (fun j _ => ?_) (by rw [List.length_range]; unfold bigLine; omega) rfl
    have e1 := cut_from w j
    simp only [dSt]
    walk_at "fi"
  have hk := k1_bef n (.dbl k) w hs ((List.range (k + 1)).map fun j => w.drop j) (by simp; omega) (by rw [List.length_map, List.length_range]; omega) (.str [100, 111, 117, 98, 108, 101]) .un .un true
  simp only [dSt] at hk hk3 ⊢
  simp only [candAll] at hby
  clear hcl hcm hbe
  generalize bef (St.dbl k) w = R at *
  generalize List.filter (fun t => decide (stp (St.dbl k) t = w)) ((List.range (k + 1)).map fun j => w.drop j) = F at *
  generalize ((List.range (k + 1)).map fun j => w.drop j) = u at *
  simp only [if_true] at hk
  walk_at "fi"
  unfold o2_before_step
  walk_at "fi"
  unfold o1_before_step
  have e0 : evE (ctxOf T G (n + 4)) (.op2 .eq (.var 2) (.con (.str [100, 111, 117, 98, 108, 101]))) ⟨[.sh (.tup [.str [100, 111, 117, 98, 108, 101], .int k]), .sh (.str w), .sh (.str [100, 111, 117, 98, 108, 101]), .un, .un, .un, .un], []⟩ = some (.sh (.bl true), ⟨[.sh (.tup [.str [100, 111, 117, 98, 108, 101], .int k]), .sh (.str w), .sh (.str [100, 111, 117, 98, 108, 101]), .un, .un, .un, .un], []⟩) := by walk_at "fi"
  rw [WB_cons, WS_ite, e0, iteQ_some]
  show WB _ _ _ _
  clear e0
  rw [WB_cons, WS_asg, evS, hk3]
  walk_at "fi"
theorem run_bef (n : Nat) (s : R.St) (w : Txt) (hs : Sm s) (hw : w.length ≤ 11) : Fi.run T G (n + 5) "before_step" [(false, dSt s), (false, .str w)] = some (.sh (.tup ((bef s w).map .str)), [.sh (dSt s), .sh (.str w)]) := by
  cases s with
  | fin p => exact run_bef_fin n p w hs hw
  | fro p => exact run_bef_fro n p w hs hw
  | cut p => exact run_bef_cut n p w hs hw
  | swp a b => exact run_bef_swp n a b w hs hw
  | nea bf a b g => exact run_bef_nea n bf a b g w hs hw
  | dbl k => exact run_bef_dbl n k w hs hw
/-! ### roots_of -/
theorem rev_chain (c : List R.St) : (c.map dSt).reverse = c.reverse.map dSt := List.map_reverse.symm
theorem run_roots (n : Nat) (c : List R.St) (w : Txt) (hc : ∀ s ∈ c, Sm s) (hl : c.length ≤ 4) (hw : w.length + 2 * c.length ≤ 13) (hcnt : ∀ pre s post, c = pre ++ s :: post → Cnt (fun t => formed (s :: post) t = w) 4094) :
    Fi.run T G (n + 6) "roots_of" [(false, dC c), (false, .str w)] = some (.sh (.tup ((rootsB c w).map .str)), [.sh (dC c), .sh (.str w)]) := by
  refine run_eq (fn := f_roots_of) (E0 := ⟨[.sh (dC c), .sh (.str w), .un, .un, .un, .un], []⟩) rfl rfl rfl ?_
  unfold f_roots_of c_roots_of
  walk_at "fi"
  refine ws_for dSt c.reverse (I := fun pre E' => ∃ s2 j3 : Sl, E' = ⟨[.sh (dC c), .sh (.str w), s2, j3, .un, .un], []⟩ ∧ (s2 = .ow (.lst ((rootsB pre.reverse w).map .str)) ∨ s2 = .sh (.tup ((rootsB pre.reverse w).map .str))) ∧ j3.nlk = true) (l := none)
    (E1 := ⟨[.sh (dC c), .sh (.str w), .ow (.lst [.str w]), .un, .un, .un], []⟩) (by unfold dC; walk_at "fi") ⟨_, _, rfl, .inl rfl, rfl⟩ ?_ ?_
  · rintro pre s post E hx ⟨s2, j3, rfl, h2, h3⟩
    have hx' : c = post.reverse ++ s :: pre.reverse := by
      have := congrArg List.reverse hx
      rw [List.reverse_reverse] at this
      rw [this]; simp
    have hs : Sm s := hc s (by rw [hx']; simp)
    have hfl := flat_cnt (hcnt _ _ _ hx')
    have hpl : pre.length + 1 ≤ c.length := by rw [hx']; simp
    have hrl : ∀ r ∈ rootsB pre.reverse w, r.length ≤ 11 := fun r hr => by
      have hm : ∀ s ∈ pre.reverse, Sm s := fun s hs => hc s (by rw [hx']; simp at hs; simp [hs])
      have key : ∀ (c : List R.St) (t : Txt), (∀ s ∈ c, Sm s) → t.length ≤ (formed c t).length + 2 * c.length := by
        intro c
        induction c with
        | nil => intro t _; simp [formed]
        | cons s c ih =>
          intro t h
          rw [formed_cons]
          have h1 := ih (stp s t) fun s hs => h s (by simp [hs])
          have h2 := stp_short (h s (by simp)) t
          simp only [List.length_cons]; omega
      have := key pre.reverse r hm
      rw [roots_mem.mp hr] at this
      simp at this; omega
    have hby := run_len (n + 4) ((rootsB pre.reverse w).flatMap (bef s)) (by omega) (fun t ht => by
      rw [List.mem_flatMap] at ht
      obtain ⟨r, hr, ht⟩ := ht
      rw [bef_mem] at ht
      have h1 := stp_short hs t
      have h2 := hrl r hr
      rw [ht] at h1; omega)
    have hcan : canon ((rootsB pre.reverse w).flatMap (bef s)) = rootsB (pre ++ [s]).reverse w := by rw [List.reverse_append]; rfl
    rw [hcan] at hby
    generalize hrs : rootsB pre.reverse w = rows at *
    generalize rootsB (pre ++ [s]).reverse w = rows2 at *
    have hk : evE (ctxOf T G (n + 5)) k1_roots_of ⟨[.sh (dC c), .sh (.str w), s2, .sh (dSt s), .un, .un], []⟩ = some (.ow (.lst ((rows.flatMap (bef s)).map .str)), ⟨[.sh (dC c), .sh (.str w), s2, .sh (dSt s), .un, .un], []⟩) := by
      unfold k1_roots_of
      have h2c : ∀ (l : Option (Nat × Bool)) (E1 : Fi.Env) (s2' : Sl), E1 = ⟨[.sh (dC c), .sh (.str w), s2', .sh (dSt s), .un, .un], []⟩ → ∀ x ∈ rows, ∃ E2 E4, bindT (.nm 4) (.str x) (wipeE E1 [4, 5]) = some E2 ∧ evI (ctxOf T G (n + 5)) (.seq (.call "before_step" (.cons (.var 3) (.cons (.var 4) .nil)))) E2 = some ((bef s x).map .str, none, E4) ∧
          (∀ y ∈ bef s x, turnF (.nm 5) (evT (ctxOf T G (n + 5)) .nil) (evE (ctxOf T G (n + 5)) (.var 5)) (Tg.nm 5).slots (.str y) (wipeE E4 (Tg.nm 5).slots) = some (some (.str y), wipeE E4 (Tg.nm 5).slots)) ∧ wipeE (wipeE E4 (Tg.nm 5).slots) [4, 5] = wipeE E1 [4, 5] := by
        intro l E1 s2' e x hx
        subst e
        have hb := run_bef n s x hs (hrl x hx)
        refine ⟨⟨[.sh (dC c), .sh (.str w), s2', .sh (dSt s), .sh (.str x), .un], []⟩, ⟨[.sh (dC c), .sh (.str w), s2', .sh (dSt s), .sh (.str x), .un], []⟩, rfl, ?_, fun y _ => ?_, rfl⟩
        · walk_at "fi"
        · walk_at "fi"
      rcases h2 with h2 | h2
      · subst h2
        exact cmp2_flat D.str (bef s) D.str D.str rows (E1 := ⟨[.sh (dC c), .sh (.str w), .lk (.lst (rows.map .str)), .sh (dSt s), .un, .un], []⟩) (l := some (2, true)) (by walk_at "fi") rfl (h2c none _ _ rfl) (by unfold bigLine; omega) rfl
      · subst h2
        exact cmp2_flat D.str (bef s) D.str D.str rows (E1 := ⟨[.sh (dC c), .sh (.str w), .sh (.tup (rows.map .str)), .sh (dSt s), .un, .un], []⟩) (l := none) (by walk_at "fi") rfl (h2c none _ _ rfl) (by unfold bigLine; omega) rfl
    have hn2 : s2.nlk = true := by rcases h2 with h2 | h2 <;> subst h2 <;> rfl
    unfold b1_roots_of
    clear h2 hx' hcan hx hrs
    walk_at "fi"
    exact ⟨_, _, ⟨rfl, rfl⟩, .inr rfl, rfl⟩
  · rintro E' ⟨s2, j3, rfl, h2, h3⟩
    rw [List.reverse_reverse] at h2
    rcases h2 with h2 | h2
    · subst h2; walk_at "fi"
    · subst h2; walk_at "fi"
end K04
end

section
set_option maxRecDepth 100000
set_option maxHeartbeats 4000000
namespace K04
open PySem L2 Fi Fi.R
local macro_rules | `(tactic| walk_at "fi") => `(tactic| simp [WB_cons, WB_nil, WS_asg, WS_par, WS_aug, WS_augIx, WS_setIx, WS_ex, WS_ret, WS_retN, WS_brk, WS_cnt, WS_pas, WS_ite, iteQ_some, iteT_t, iteT_f, cont_nx, cont_rt, cont_bk, cont_ct, Lp_nx, Lp_ct, Lp_rt, Lp_bk, Lw_nx, Lw_ct, Lw_rt, Lw_bk, WT, Done_rt, Done_nx, giveD_sh, giveD_ow, giveD_pk, finsD, rg0, rg1, rg2, rg3, rg4, rg5, rg6, evS, evE, evEs, evO, evT, evI, Env.get, Env.put, Env.vw, Env.rd, Env.tk, Env.tks, Env.free, Rs.fz, op2D, addD, subD, mulD, fdivD, modD, powD, cmpA, ordD, nlk_un, nlk_sh, nlk_ow, nlk_lk, isD, iopD, iaddD, inopD, iaddI, op1D, PR.rs, D.truth, D.len, ixD, ix, partD, cutD, revD, lenB, absB, intB, tupleB, listB, anyB, allB, isinstB, bltD, getB, mthD, mthTy, appendB, extendB, popB, mutD, mutTy, setD, D.key, DKey.ok, tyNames, D.tyName, tySub, lock, unlock, lkFree, seqD, puts, bindT, Tg.slots, wipeE, back, argsOf, lent, lentOk, Ar.pass, behind, dk_ss, dk_ii, dk_si, dk_is, bigLine, ownOk, mapOut, turnF, dictAt, lockVar, hide, unhide, bls, inD, D.isNon, List.lookup, ctx_call, io_swapped, io_near, io_changed_near, io_stepped, io_forms_on_way, io_formed, io_by_length, io_without_end, io_without_front, io_changes_back, io_made_beside, io_before_step, io_roots_of, io_root_of, io_law_draws, io_law_next, io_law_pick, io_law_same, io_law_step, io_law_chain, io_law_letters, io_law_all_letters, io_law, *])
theorem eqv_nilT {xs : List D} (h : Gds xs = true) : D.eqv (.tup xs) (.tup []) = some xs.isEmpty := by
  obtain ⟨ps, hp⟩ := pys_gd h
  have hl : xs.isEmpty = ps.isEmpty := by
    cases xs with
    | nil => cases hp; rfl
    | cons x xs =>
      unfold D.pys at hp
      split at hp
      · cases hp; rfl
      · cases hp
  unfold D.eqv
  simp only [D.py, hp, D.pys, Option.map_some]
  have : min (PyData.depth (.tuple ps)) (PyData.depth (.tuple [])) ≤ 64 := by
    have : PyData.depth (.tuple []) ≤ 64 := by simp [PyData.depth, PyData.depthAll]
    omega
  rw [if_pos this, hl]
  cases ps <;> simp [PyData.eqv, PyData.eqvAll]
theorem gds_str : ∀ ts : List Txt, Gds (ts.map .str) = true
  | [] => rfl
  | t :: ts => by rw [List.map_cons, Gds, gds_str ts]; rfl
/-- the first root, or None -/
def rootD : List Txt → D
  | [] => .non
  | t :: _ => .str t
theorem run_root (n : Nat) (c : List R.St) (w : Txt) (hr : Fi.run T G (n + 6) "roots_of" [(false, dC c), (false, .str w)] = some (.sh (.tup ((rootsB c w).map .str)), [.sh (dC c), .sh (.str w)])) :
    Fi.run T G (n + 7) "root_of" [(false, dC c), (false, .str w)] = some (.sh (rootD (rootsB c w)), [.sh (dC c), .sh (.str w)]) := by
  refine run_eq (fn := f_root_of) (E0 := ⟨[.sh (dC c), .sh (.str w), .un], []⟩) rfl rfl rfl ?_
  unfold f_root_of c_root_of
  generalize rootsB c w = rows at *
  have hq := eqv_nilT (gds_str rows)
  cases rows with
  | nil => unfold rootD; simp only [List.map_nil] at hr hq; walk_at "fi"
  | cons t rows => unfold rootD; simp only [List.map_cons] at hr hq; walk_at "fi"
/-! ### the law's draws -/
def kParts : List Txt := [[97], [98], [97, 98], [98, 97], [99]]
theorem ok0 : OkRest [] := ⟨by simp, by simp⟩
theorem pick_str (n : Nat) (ds : List Int) (i : Nat) (ps : List Txt) (h : ps ≠ []) : ∃ p ∈ ps, Fi.run T G (n + 2) "_law_pick" [(true, Wd ds i []), (false, .lst (ps.map .str))] = some (.sh (.str p), [.ow (Wd ds (i + 1) []), .sh (.lst (ps.map .str))]) := by
  obtain ⟨x, hx, hr⟩ := run_pick (G := G) (T := T) rfl rfl n ds i ok0 (ps.map .str) (by simpa using h)
  have := List.mem_of_getElem? hx
  obtain ⟨p, hp, rfl⟩ := List.mem_map.mp this
  exact ⟨p, hp, hr⟩
def Out1 (s : R.St) : Prop := LawSt s ∧ Sm s
theorem ls_part {p : Txt} (hp : p ∈ kParts) : Out1 (.fin p) ∧ Out1 (.fro p) ∧ Out1 (.cut p) := by
  have h2 : p.length ≤ 2 := by
    revert p; decide
  have hc : ∃ q : List L3, Cd.cut q ∈ lawCds ∧ p = q.map L3.n := by
    simp only [kParts, List.mem_cons, List.not_mem_nil, or_false] at hp
    rcases hp with rfl | rfl | rfl | rfl | rfl
    · exact ⟨[.a], by decide, rfl⟩
    · exact ⟨[.b], by decide, rfl⟩
    · exact ⟨[.a, .b], by decide, rfl⟩
    · exact ⟨[.b, .a], by decide, rfl⟩
    · exact ⟨[.c], by decide, rfl⟩
  obtain ⟨q, hq, e⟩ := hc
  refine ⟨⟨⟨⟨.skip, by decide, trivial⟩, fun _ _ _ _ e => by cases e⟩, h2⟩, ⟨⟨⟨.skip, by decide, trivial⟩, fun _ _ _ _ e => by cases e⟩, h2⟩, ⟨⟨⟨.cut q, hq, e⟩, fun _ _ _ _ e => by cases e⟩, h2⟩⟩
def kPairs : List (Nat × Nat) := [(97, 98), (98, 99), (99, 97), (97, 99)]
theorem ls_pair {a b : Nat} (h : (a, b) ∈ kPairs) : ∃ x y : L3, a = x.n ∧ b = y.n ∧ x ≠ y ∧ Cd.near x y ∈ lawCds ∧ Cd.swp x y ∈ lawCds := by
  simp only [kPairs, List.mem_cons, List.not_mem_nil, or_false, Prod.mk.injEq] at h
  rcases h with ⟨rfl, rfl⟩ | ⟨rfl, rfl⟩ | ⟨rfl, rfl⟩ | ⟨rfl, rfl⟩
  · exact ⟨.a, .b, rfl, rfl, by decide, by decide, by decide⟩
  · exact ⟨.b, .c, rfl, rfl, by decide, by decide, by decide⟩
  · exact ⟨.c, .a, rfl, rfl, by decide, by decide, by decide⟩
  · exact ⟨.a, .c, rfl, rfl, by decide, by decide, by decide⟩
theorem ls_swp {a b : Nat} (h : (a, b) ∈ kPairs) : Out1 (.swp a b) := by
  obtain ⟨x, y, e1, e2, hne, _, hs⟩ := ls_pair h
  exact ⟨⟨⟨_, hs, e1, e2, hne⟩, fun _ _ _ _ e => by cases e⟩, trivial⟩
theorem ls_nea {a b : Nat} (h : (a, b) ∈ kPairs) (bf : Bool) {g : Txt} (hg : g ∈ sigs) : Out1 (.nea bf a b g) := by
  obtain ⟨x, y, e1, e2, hne, hs, _⟩ := ls_pair h
  exact ⟨⟨⟨_, hs, e1, e2, hne⟩, fun _ _ _ _ e => by cases e; exact hg⟩, trivial⟩
theorem ls_dbl {n : Nat} (h : n = 1 ∨ n = 2) : Out1 (.dbl n) :=
  ⟨⟨⟨.dbl, by decide, h⟩, fun _ _ _ _ e => by cases e⟩, by show n ≤ 2; omega⟩
def dPair (p : Nat × Nat) : D := .tup [.str [p.1], .str [p.2]]
theorem pick_pair (n : Nat) (ds : List Int) (i : Nat) : ∃ p ∈ kPairs, Fi.run T G (n + 2) "_law_pick" [(true, Wd ds i []), (false, .lst (kPairs.map dPair))] = some (.sh (dPair p), [.ow (Wd ds (i + 1) []), .sh (.lst (kPairs.map dPair))]) := by
  obtain ⟨x, hx, hr⟩ := run_pick (G := G) (T := T) rfl rfl n ds i ok0 (kPairs.map dPair) (by simp [kPairs])
  have := List.mem_of_getElem? hx
  obtain ⟨p, hp, rfl⟩ := List.mem_map.mp this
  exact ⟨p, hp, hr⟩
theorem nx7 (ds : List Int) (i : Nat) : nxt ds i 7 = 0 ∨ nxt ds i 7 = 1 ∨ nxt ds i 7 = 2 ∨ nxt ds i 7 = 3 ∨ nxt ds i 7 = 4 ∨ nxt ds i 7 = 5 ∨ nxt ds i 7 = 6 := by
  have := nxt_le (ds := ds) (i := i) (m := 7) (by omega); omega
def StepP (ds : List Int) (r : Rs) (ss : List Sl) : Prop := ∃ (s : R.St) (j : Nat), Out1 s ∧ r = .sh (dSt s) ∧ ss = [.ow (Wd ds j []), .sh (.int 2)]
theorem run_step (n : Nat) (ds : List Int) (i : Nat) : ∃ (s : R.St) (j : Nat), Out1 s ∧ Fi.run T G (n + 4) "_law_step" [(true, Wd ds i []), (false, .int 2)] = some (.sh (dSt s), [.ow (Wd ds j []), .sh (.int 2)]) := by
  have key : ∃ r ss, Fi.run T G (n + 4) "_law_step" [(true, Wd ds i []), (false, .int 2)] = some (r, ss) ∧ StepP ds r ss := by
    refine run_wb (fn := f_law_step) (E0 := ⟨[.ow (Wd ds i []), .sh (.int 2), .un, .un, .un], [0]⟩) (P := StepP ds) rfl rfl rfl ?_
    unfold f_law_step c_law_step
    have hn := run_next (T := T) (G := G) rfl (n + 2) ds i ok0 7 (by omega)
    obtain ⟨p, hp, hr⟩ := pick_str (n + 1) ds (i + 1) kParts (by decide)
    obtain ⟨⟨a, b⟩, hab, hr2⟩ := pick_pair (n + 1) ds (i + 1)
    obtain ⟨g, hg, hr3⟩ := pick_str (n + 1) ds (i + 2) sigs (by decide)
    have hd := nxt_le (ds := ds) (i := i + 2) (m := 2) (by omega)
    have hn2 := run_next (T := T) (G := G) rfl (n + 2) ds (i + 2) ok0 2 (by omega)
    obtain ⟨o1, o2, o3⟩ := ls_part hp
    have o4 := ls_swp hab
    simp only [kParts, kPairs, sigs, dPair, List.map_cons, List.map_nil] at hr hr2 hr3
    rcases nx7 ds i with hk | hk | hk | hk | hk | hk | hk
    · clear hr2 hr3 hn2
      walk_at "fi"
      exact ⟨.fin p, i + 1 + 1, o1, rfl, rfl⟩
    · clear hr2 hr3 hn2
      walk_at "fi"
      exact ⟨.fro p, i + 1 + 1, o2, rfl, rfl⟩
    · clear hr2 hr3 hn2
      walk_at "fi"
      exact ⟨.cut p, i + 1 + 1, o3, rfl, rfl⟩
    · clear hr hr3 hn2
      walk_at "fi"
      exact ⟨.swp a b, i + 1 + 1, o4, rfl, rfl⟩
    · clear hr hn2
      have hf : Int.fmod 4 2 = 0 := rfl
      walk_at "fi"
      exact ⟨.nea true a b g, i + 2 + 1, ls_nea hab true hg, rfl, rfl⟩
    · clear hr hn2
      have hf : Int.fmod 5 2 = 1 := rfl
      walk_at "fi"
      exact ⟨.nea false a b g, i + 2 + 1, ls_nea hab false hg, rfl, rfl⟩
    · clear hr hr3
      walk_at "fi"
      have hdd : 1 + nxt ds (i + 2) 2 = ((1 + (nxt ds (i + 2) 2).toNat : Nat) : Int) := by omega
      exact ⟨.dbl (1 + (nxt ds (i + 2) 2).toNat), i + 2 + 1, ls_dbl (by omega), by rw [dSt, ← hdd], rfl⟩
  obtain ⟨r, ss, h, s, j, o, rfl, rfl⟩ := key
  exact ⟨s, j, o, h⟩
theorem list_of {α β : Type} {f : α → β} {P : α → Prop} : ∀ {out : List β}, (∀ d ∈ out, ∃ s, d = f s ∧ P s) → ∃ c : List α, out = c.map f ∧ ∀ s ∈ c, P s
  | [], _ => ⟨[], rfl, by simp⟩
  | d :: out, h => by
    obtain ⟨c, e, hc⟩ := list_of (out := out) fun x hx => h x (by simp [hx])
    obtain ⟨s, e', hs⟩ := h d (by simp)
    exact ⟨s :: c, by rw [List.map_cons, e, e'], fun x hx => (List.mem_cons.mp hx).elim (fun z => z ▸ hs) (hc x)⟩
theorem run_chain (n : Nat) (ds : List Int) (i : Nat) : ∃ (c : List R.St) (j : Nat), (∀ s ∈ c, Out1 s) ∧ c.length ≤ 2 ∧ Fi.run T G (n + 5) "_law_chain" [(true, Wd ds i []), (false, .int 2), (false, .int 2)] = some (.sh (dC c), [.ow (Wd ds j []), .sh (.int 2), .sh (.int 2)]) := by
  have hn := run_next (T := T) (G := G) rfl (n + 3) ds i ok0 3 (by omega)
  have hb := nxt_le (ds := ds) (i := i) (m := 3) (by omega)
  have hk : nxt ds i 3 = ((pickAt ds i 3 : Nat) : Int) := by show nxt ds i 3 = (((nxt ds i 3).toNat : Nat) : Int); omega
  have hk2 : pickAt ds i 3 ≤ 2 := by have := pickAt_lt (ds := ds) (i := i) (n := 3) (by omega); omega
  rw [hk] at hn
  obtain ⟨out, E3, h1, ⟨j, rfl⟩, h3, h4⟩ := cmp_inv (C := ctxOf T G (n + 4)) (own := [3]) (t := .nm 3) (cs := .nil) (e := .call "_law_step" (.cons (.var 0) (.cons (.var 2) .nil))) (it := .rng1 (.call "_law_next" (.cons (.var 0) (.cons (.op2 .add (.var 1) (.con (.int 1))) .nil))))
    (E := ⟨[.ow (Wd ds i []), .sh (.int 2), .sh (.int 2), .un], [0]⟩) (l := none) (E1 := ⟨[.ow (Wd ds (i + 1) []), .sh (.int 2), .sh (.int 2), .un], [0]⟩) (fun (k : Nat) => D.int k) (List.range (pickAt ds i 3)) (I := fun E' => ∃ j, E' = ⟨[.ow (Wd ds j []), .sh (.int 2), .sh (.int 2), .un], [0]⟩) (R := fun d => ∃ s, d = dSt s ∧ Out1 s)
    (evI_rng (n := pickAt ds i 3) (by walk_at "fi") (by omega)) rfl ⟨i + 1, rfl⟩ (by
      rintro k _ E2 ⟨j, rfl⟩
      obtain ⟨s, j', o, hs⟩ := run_step n ds j
      refine ⟨dSt s, ⟨[.ow (Wd ds j' []), .sh (.int 2), .sh (.int 2), .un], [0]⟩, ?_, ⟨j', rfl⟩, s, rfl, o⟩
      walk_at "fi") (by rw [List.length_range]; unfold bigLine; omega)
  obtain ⟨c, rfl, hc⟩ := list_of h3
  rw [List.length_map, List.length_range] at h4
  refine ⟨c, j, hc, by omega, ?_⟩
  refine run_eq (fn := f_law_chain) (E0 := ⟨[.ow (Wd ds i []), .sh (.int 2), .sh (.int 2), .un], [0]⟩) rfl rfl rfl ?_
  have h1 : evE (ctxOf T G (n + 4)) k1_law_chain _ = _ := h1
  simp only [back, unlock, Env.put, Env.get] at h1
  unfold f_law_chain c_law_chain dC
  generalize k1_law_chain = kk at *
  walk_at "fi"
theorem run_letters (n : Nat) (ds : List Int) (i m : Nat) (hm : m ≤ 100) : ∃ (t : Txt) (j : Nat), t.length ≤ m ∧ Fi.run T G (n + 4) "_law_letters" [(true, Wd ds i []), (false, .int m)] = some (.sh (.str t), [.ow (Wd ds j []), .sh (.int m)]) := by
  have hn := run_next (T := T) (G := G) rfl (n + 2) ds i ok0 ((m : Int) + 1) (by omega)
  have hb := nxt_le (ds := ds) (i := i) (m := (m : Int) + 1) (by omega)
  have hk : nxt ds i ((m : Int) + 1) = ((pickAt ds i (m + 1) : Nat) : Int) := by unfold pickAt; rw [show ((m + 1 : Nat) : Int) = (m : Int) + 1 by omega]; omega
  have hk2 : pickAt ds i (m + 1) ≤ m := by have := pickAt_lt (ds := ds) (i := i) (n := m + 1) (by omega); omega
  rw [hk] at hn
  obtain ⟨out, E3, h1, ⟨j, rfl⟩, h3, h4⟩ := cmp_inv (C := ctxOf T G (n + 3)) (own := [2]) (t := .nm 2) (cs := .nil) (e := .call "_law_pick" (.cons (.var 0) (.cons (.lst (.cons (.con (.str [97])) (.cons (.con (.str [98])) (.cons (.con (.str [99])) (.cons (.con (.str [100])) .nil))))) .nil))) (it := .rng1 (.call "_law_next" (.cons (.var 0) (.cons (.op2 .add (.var 1) (.con (.int 1))) .nil))))
    (E := ⟨[.ow (Wd ds i []), .sh (.int m), .un], [0]⟩) (l := none) (E1 := ⟨[.ow (Wd ds (i + 1) []), .sh (.int m), .un], [0]⟩) (fun (k : Nat) => D.int k) (List.range (pickAt ds i (m + 1))) (I := fun E' => ∃ j, E' = ⟨[.ow (Wd ds j []), .sh (.int m), .un], [0]⟩) (R := fun d => ∃ x : Nat, d = .str [x] ∧ True)
    (evI_rng (n := pickAt ds i (m + 1)) (by walk_at "fi") (by omega)) rfl ⟨i + 1, rfl⟩ (by
      rintro k _ E2 ⟨j, rfl⟩
      obtain ⟨p, hp, hr⟩ := pick_str (n + 1) ds j [[97], [98], [99], [100]] (by decide)
      have hx : ∃ x : Nat, p = [x] := by
        simp only [List.mem_cons, List.not_mem_nil, or_false] at hp
        rcases hp with rfl | rfl | rfl | rfl <;> exact ⟨_, rfl⟩
      obtain ⟨x, rfl⟩ := hx
      simp only [List.map_cons, List.map_nil] at hr
      refine ⟨.str [x], ⟨[.ow (Wd ds (j + 1) []), .sh (.int m), .un], [0]⟩, ?_, ⟨_, rfl⟩, x, rfl, trivial⟩
      walk_at "fi") (by rw [List.length_range]; unfold bigLine; omega)
  obtain ⟨t, rfl, _⟩ := list_of h3
  rw [List.length_map, List.length_range] at h4
  refine ⟨t, j, by omega, ?_⟩
  refine run_eq (fn := f_law_letters) (E0 := ⟨[.ow (Wd ds i []), .sh (.int m), .un], [0]⟩) rfl rfl rfl ?_
  have h1 : evE (ctxOf T G (n + 3)) k1_law_letters _ = _ := h1
  simp only [back, unlock, Env.put, Env.get] at h1
  have hj := join_sgl (t := t) (by unfold bigLine; omega)
  unfold f_law_letters c_law_letters
  generalize k1_law_letters = kk at *
  walk_at "fi"
end K04
end

section
set_option maxRecDepth 100000
set_option maxHeartbeats 4000000
namespace K04
open PySem L2 Fi Fi.R
local macro_rules | `(tactic| walk_at "fi") => `(tactic| simp [WB_cons, WB_nil, WS_asg, WS_par, WS_aug, WS_augIx, WS_setIx, WS_ex, WS_ret, WS_retN, WS_brk, WS_cnt, WS_pas, WS_ite, iteQ_some, iteT_t, iteT_f, cont_nx, cont_rt, cont_bk, cont_ct, Lp_nx, Lp_ct, Lp_rt, Lp_bk, Lw_nx, Lw_ct, Lw_rt, Lw_bk, WT, Done_rt, Done_nx, giveD_sh, giveD_ow, giveD_pk, finsD, rg0, rg1, rg2, rg3, rg4, rg5, rg6, evS, evE, evEs, evO, evT, evI, Env.get, Env.put, Env.vw, Env.rd, Env.tk, Env.tks, Env.free, Rs.fz, op2D, addD, subD, mulD, fdivD, modD, powD, cmpA, ordD, nlk_un, nlk_sh, nlk_ow, nlk_lk, isD, iopD, iaddD, inopD, iaddI, op1D, PR.rs, D.truth, D.len, ixD, ix, partD, cutD, revD, lenB, absB, intB, tupleB, listB, anyB, allB, isinstB, bltD, getB, mthD, mthTy, appendB, extendB, popB, mutD, mutTy, setD, D.key, DKey.ok, tyNames, D.tyName, tySub, lock, unlock, lkFree, seqD, puts, bindT, Tg.slots, wipeE, back, argsOf, lent, lentOk, Ar.pass, behind, dk_ss, dk_ii, dk_si, dk_is, bigLine, ownOk, mapOut, turnF, dictAt, lockVar, hide, unhide, bls, inD, D.isNon, List.lookup, ctx_call, io_swapped, io_near, io_changed_near, io_stepped, io_forms_on_way, io_formed, io_by_length, io_without_end, io_without_front, io_changes_back, io_made_beside, io_before_step, io_roots_of, io_root_of, io_law_draws, io_law_next, io_law_pick, io_law_same, io_law_step, io_law_chain, io_law_letters, io_law_all_letters, io_law, *])
def Keep (p : Prop) : Prop := p
theorem run_all (n : Nat) : ∃ ts : List Txt, (∀ t ∈ ts, t.length ≤ 3) ∧ ts.length ≤ 1000 ∧ Fi.run T G (n + 1) "_law_all_letters" [(false, .int 3)] = some (.sh (.lst (ts.map .str)), [.sh (.int 3)]) := by
  have key : ∃ r ss, Fi.run T G (n + 1) "_law_all_letters" [(false, .int 3)] = some (r, ss) ∧ ((∃ ts : List Txt, (∀ t ∈ ts, t.length ≤ 3) ∧ ts.length ≤ 1000 ∧ r = .sh (.lst (ts.map .str))) ∧ ss = [.sh (.int 3)]) := by
    refine run_wb (fn := f_law_all_letters) (E0 := ⟨[.sh (.int 3), .un, .un, .un, .un, .un, .un], []⟩) (P := fun r ss => (∃ ts : List Txt, (∀ t ∈ ts, t.length ≤ 3) ∧ ts.length ≤ 1000 ∧ r = .sh (.lst (ts.map .str))) ∧ ss = [.sh (.int 3)]) rfl rfl rfl ?_
    unfold f_law_all_letters c_law_all_letters
    walk_at "fi"
    refine ws_for (fun (k : Nat) => D.int k) (List.range 3) (I := fun pre E' => ∃ (F L : List Txt) (j3 j4 j5 j6 : Sl), E' = ⟨[.sh (.int 3), .sh (.lst (F.map .str)), .sh (.lst (L.map .str)), j3, j4, j5, j6], []⟩ ∧ (∀ t ∈ F, t.length ≤ pre.length) ∧ (∀ t ∈ L, t.length ≤ pre.length) ∧ L.length ≤ 3 ^ pre.length ∧ F.length ≤ 1 + 27 * pre.length ∧ j3.nlk = true ∧ j4.nlk = true ∧ j5.nlk = true ∧ j6.nlk = true) (l := none)
      (evI_rng (n := 3) (by walk_at "fi") (by omega)) ⟨[[]], [[]], .un, .un, .un, .un, rfl, by simp, by simp, by simp, by simp, rfl, rfl, rfl, rfl⟩ ?_ ?_
    · rintro pre k post E hx ⟨F, L, j3, j4, j5, j6, rfl, hF, hL, hLl, hFl, h3, h4, h5, h6⟩
      have hpl : pre.length ≤ 2 := by have := congrArg List.length hx; simp at this; omega
      have hp9 : L.length ≤ 9 := by
        have : 3 ^ pre.length ≤ 3 ^ 2 := Nat.pow_le_pow_right (by omega) hpl
        omega
      unfold b2_law_all_letters
      walk_at "fi"
      refine ws_for D.str L (I := fun pre' E' => ∃ (M : List Txt) (j5 j6 : Sl), E' = ⟨[.sh (.int 3), .sh (.lst (F.map .str)), .sh (.lst (L.map .str)), .sh (.int k), .ow (.lst (M.map .str)), j5, j6], []⟩ ∧ (∀ t ∈ M, t.length ≤ pre.length + 1) ∧ M.length = 3 * pre'.length ∧ j5.nlk = true ∧ j6.nlk = true) (l := none) (E1 := ⟨[.sh (.int 3), .sh (.lst (F.map .str)), .sh (.lst (L.map .str)), .sh (.int k), .ow (.lst []), j5, j6], []⟩)
        (by walk_at "fi") ⟨[], j5, j6, rfl, by simp, by simp, h5, h6⟩ ?_ ?_
      · rintro pre' t post' E hx' ⟨M, j5, j6, rfl, hM, hMl, h5, h6⟩
        have htl : t.length ≤ pre.length := hL t (by rw [hx']; simp)
        have hpl' : pre'.length < 9 := by have := congrArg List.length hx'; simp at this; omega
        have hk : evE (ctxOf T G n) k1_law_all_letters ⟨[.sh (.int 3), .sh (.lst (F.map .str)), .sh (.lst (L.map .str)), .sh (.int k), .ow (.lst (M.map .str)), .sh (.str t), j6], []⟩ = some (.ow (.lst [.str (t ++ [97]), .str (t ++ [98]), .str (t ++ [99])]), ⟨[.sh (.int 3), .sh (.lst (F.map .str)), .sh (.lst (L.map .str)), .sh (.int k), .ow (.lst (M.map .str)), .sh (.str t), j6], []⟩) := by
          unfold k1_law_all_letters
          have htl2 : t.length + 1 ≤ 16777216 := by omega
          exact cmp_map (fun x : Nat => D.str [x]) (fun x => D.str (t ++ [x])) [97, 98, 99] (l := none) (E1 := ⟨[.sh (.int 3), .sh (.lst (F.map .str)), .sh (.lst (L.map .str)), .sh (.int k), .ow (.lst (M.map .str)), .sh (.str t), j6], []⟩) (by walk_at "fi") rfl (fun x _ => by walk_at "fi") (by simp [bigLine]) rfl
        have hs : M.length + 3 ≤ 16777216 := by omega
        have kp : Keep (M.length = 3 * pre'.length) := hMl
        have kq : Keep (pre'.length < 9) := hpl'
        clear hMl hpl' hpl hp9 hx hx'
        unfold b1_law_all_letters
        generalize k1_law_all_letters = kk at *
        walk_at "fi"
        refine ⟨M ++ [t ++ [97], t ++ [98], t ++ [99]], _, _, ⟨by simp, rfl, rfl⟩, ?_, by have : M.length = 3 * pre'.length := kp; simp; omega, rfl, h6⟩
        intro u hu
        rw [List.mem_append] at hu
        rcases hu with hu | hu
        · exact hM u hu
        · simp only [List.mem_cons, List.not_mem_nil, or_false] at hu
          rcases hu with rfl | rfl | rfl <;> simp <;> exact htl
      · rintro E' ⟨M, j5, j6, rfl, hM, hMl, h5, h6⟩
        have hs : F.length + M.length ≤ 16777216 := by omega
        have hs2 : M.length ≤ 27 := by omega
        have kp : Keep (M.length = 3 * L.length) := hMl
        have kq : Keep (L.length ≤ 3 ^ pre.length) := hLl
        have kr : Keep (F.length ≤ 1 + 27 * pre.length) := hFl
        have ks : Keep (∀ t ∈ F, t.length ≤ pre.length) := hF
        have kt : Keep (∀ t ∈ M, t.length ≤ pre.length + 1) := hM
        have ku : Keep (M.length ≤ 27) := hs2
        clear hMl hLl hFl hF hM hx hpl hp9 hL hs2
        walk_at "fi"
        have kp : M.length = 3 * L.length := kp
        have kq : L.length ≤ 3 ^ pre.length := kq
        have kr : F.length ≤ 1 + 27 * pre.length := kr
        have ks : ∀ t ∈ F, t.length ≤ pre.length := ks
        have kt : ∀ t ∈ M, t.length ≤ pre.length + 1 := kt
        have ku : M.length ≤ 27 := ku
        refine ⟨F ++ M, M, _, _, _, _, ⟨by simp, rfl, rfl, rfl, rfl, rfl⟩, fun t ht => ?_, kt, by rw [Nat.pow_succ]; omega, by simp; omega, rfl, rfl, h5, h6⟩
        rcases List.mem_append.mp ht with ht | ht
        · have := ks t ht; omega
        · exact kt t ht
    · rintro E' ⟨F, L, j3, j4, j5, j6, rfl, hF, hL, hLl, hFl, h3, h4, h5, h6⟩
      walk_at "fi"
      exact ⟨F, by simpa using hF, by simp at hFl; omega, rfl⟩
  obtain ⟨r, ss, h, ⟨ts, h1, h2, rfl⟩, rfl⟩ := key
  exact ⟨ts, h1, h2, h⟩
end K04
end

section
set_option maxRecDepth 100000
set_option maxHeartbeats 4000000
namespace K04
open PySem L2 Fi Fi.R
local macro_rules | `(tactic| walk_at "fi") => `(tactic| simp [WB_cons, WB_nil, WS_asg, WS_par, WS_aug, WS_augIx, WS_setIx, WS_ex, WS_ret, WS_retN, WS_brk, WS_cnt, WS_pas, WS_ite, iteQ_some, iteT_t, iteT_f, cont_nx, cont_rt, cont_bk, cont_ct, Lp_nx, Lp_ct, Lp_rt, Lp_bk, Lw_nx, Lw_ct, Lw_rt, Lw_bk, WT, Done_rt, Done_nx, giveD_sh, giveD_ow, giveD_pk, finsD, rg0, rg1, rg2, rg3, rg4, rg5, rg6, evS, evE, evEs, evO, evT, evI, Env.get, Env.put, Env.vw, Env.rd, Env.tk, Env.tks, Env.free, Rs.fz, op2D, addD, subD, mulD, fdivD, modD, powD, cmpA, ordD, nlk_un, nlk_sh, nlk_ow, nlk_lk, isD, iopD, iaddD, inopD, iaddI, op1D, PR.rs, D.truth, D.len, ixD, ix, partD, cutD, revD, lenB, absB, intB, tupleB, listB, anyB, allB, isinstB, bltD, getB, mthD, mthTy, appendB, extendB, popB, mutD, mutTy, setD, D.key, DKey.ok, tyNames, D.tyName, tySub, lock, unlock, lkFree, seqD, puts, bindT, Tg.slots, wipeE, back, argsOf, lent, lentOk, Ar.pass, behind, dk_ss, dk_ii, dk_si, dk_is, bigLine, ownOk, mapOut, turnF, dictAt, lockVar, hide, unhide, bls, inD, D.isNon, List.lookup, ctx_call, io_swapped, io_near, io_changed_near, io_stepped, io_forms_on_way, io_formed, io_by_length, io_without_end, io_without_front, io_changes_back, io_made_beside, io_before_step, io_roots_of, io_root_of, io_law_draws, io_law_next, io_law_pick, io_law_same, io_law_step, io_law_chain, io_law_letters, io_law_all_letters, io_law, *])
theorem eqvs_str {a b : Txt} : PyData.eqv (.str ⟨a.toArray⟩) (.str ⟨b.toArray⟩) = decide (a = b) := by
  have := eqv_str a b
  unfold D.eqv at this
  simp only [D.py] at this
  split at this
  · exact Option.some.inj this
  · cases this
theorem in_strs (t : Txt) (ts : List Txt) : inListD (.str t) (ts.map .str) = some (decide (t ∈ ts)) := by
  have hp : ∀ ts : List Txt, D.pys (ts.map .str) = some (ts.map fun t => PyData.str ⟨t.toArray⟩) := by
    intro ts; induction ts with
    | nil => rfl
    | cons x ts ih => rw [List.map_cons, D.pys, ih]; rfl
  unfold inListD
  rw [hp]
  simp only [D.py]
  rw [if_pos (by simp [PyData.depth])]
  congr 1
  rw [List.any_map, Bool.eq_iff_iff, decide_eq_true_eq, List.any_eq_true]
  constructor
  · rintro ⟨x, hx, h⟩
    simp only [Function.comp, eqvs_str, decide_eq_true_eq] at h
    rw [← h]; exact hx
  · intro h
    exact ⟨t, h, by simp only [Function.comp, eqvs_str, decide_true]⟩
/-- keys of texts -/
def kT (ks : List Txt) : List (DKey × D) := ks.map fun t => (DKey.s t, D.bl true)
theorem kput_keys (ks : List Txt) (t : Txt) : kput (.s t) (.bl true) (kT ks) = kT (putT ks t) := by
  unfold kput putT kT
  by_cases h : t ∈ ks
  · rw [if_pos h, if_pos (by simp only [List.any_map, List.any_eq_true]; exact ⟨t, h, by simp⟩), List.map_map]
    refine List.map_congr_left fun u _ => ?_
    simp only [Function.comp]
    split <;> rfl
  · rw [if_neg h, if_neg, List.map_append]
    · rfl
    · simp only [List.any_map, List.any_eq_true]
      rintro ⟨u, hu, e⟩
      simp at e
      exact h (e ▸ hu)
section
variable {c d : List R.St} {word : Txt}
theorem lawSuf (hc : ∀ s ∈ c, Out1 s) (hd : ∀ s ∈ d, Out1 s) (hcl : c.length ≤ 2) (hdl : d.length ≤ 2) : (∀ s ∈ c ++ d, Out1 s) ∧ (c ++ d).length ≤ 4 :=
  ⟨fun s hs => (List.mem_append.mp hs).elim (hc s) (hd s), by simp; omega⟩
theorem cntSuf {c : List R.St} (hc : ∀ s ∈ c, Out1 s) (hl : c.length ≤ 4) (hw : word.length ≤ 5) : ∀ pre s post, c = pre ++ s :: post → Cnt (fun t => formed (s :: post) t = word) 4094 := fun pre s post e =>
  bound (fun u hu => (hc u (by rw [e]; exact List.mem_append_right _ hu)).1) (by rw [e] at hl; simp at hl ⊢; omega) hw
theorem cntPart (hc : ∀ s ∈ c, Out1 s) (hd : ∀ s ∈ d, Out1 s) (hcl : c.length ≤ 2) (hdl : d.length ≤ 2) (hw : word.length ≤ 5) {u : Txt} (hu : formed d u = word) : ∀ pre s post, c = pre ++ s :: post → Cnt (fun t => formed (s :: post) t = u) 4094 := fun pre s post e =>
  (bound (c := (s :: post) ++ d) (w := word) (fun x hx => by
    rcases List.mem_append.mp hx with hx | hx
    · exact (hc x (by rw [e]; exact List.mem_append_right _ hx)).1
    · exact (hd x hx).1) (by rw [e] at hcl; simp at hcl ⊢; omega) hw).mono (fun t ht => by rw [formed_app, ht, hu]) (Nat.le_refl _)
theorem part_len (hd : ∀ s ∈ d, Out1 s) {u : Txt} (hu : formed d u = word) : u.length ≤ word.length + 2 * d.length := by
  have key : ∀ (c : List R.St) (t : Txt), (∀ s ∈ c, Sm s) → t.length ≤ (formed c t).length + 2 * c.length := by
    intro c
    induction c with
    | nil => intro t _; simp [formed]
    | cons s c ih =>
      intro t h
      rw [formed_cons]
      have h1 := ih (stp s t) fun s hs => h s (by simp [hs])
      have h2 := stp_short (h s (by simp)) t
      simp only [List.length_cons]; omega
  have := key d u fun s hs => (hd s hs).2
  rw [hu] at this; exact this
/-- what the word's turn leaves as it was -/
def Keep2 (s0 W few j3 s4 s5 s6 s7 : Sl) (Q : Out → Prop) : Prop := ∀ j8 j9 j10 j11 j12 j13 j14 : Sl, j8.nlk = true → j9.nlk = true → j10.nlk = true → j11.nlk = true → j12.nlk = true → j13.nlk = true → j14.nlk = true →
  Q (.nx ⟨[s0, W, few, j3, s4, s5, s6, s7, j8, j9, j10, j11, j12, j13, j14], []⟩) ∧ Q (.ct ⟨[s0, W, few, j3, s4, s5, s6, s7, j8, j9, j10, j11, j12, j13, j14], []⟩)
theorem dC_app (c d : List R.St) : dC (c ++ d) = .tup (c.map dSt ++ d.map dSt) := by unfold dC; rw [List.map_append]
theorem gd_keys (ts : List Txt) : Gd (.tup (ts.map .str)) = true := gds_str ts
theorem sz_keys (ts : List Txt) : Fi.sz (.tup (ts.map .str)) = 1 + ts.length := by
  have : ∀ ts : List Txt, szs (ts.map .str) = ts.length := by
    intro ts; induction ts with
    | nil => rfl
    | cons t ts ih => rw [List.map_cons, szs, ih, show Fi.sz (.str t) = 1 from rfl, List.length_cons]; omega
  rw [Fi.sz, this]
/-- some state of these, what is about by it -/
def ExI {α : Type} (P : α → Prop) (mk : α → Fi.Env) (E' : Fi.Env) : Prop := ∃ a, P a ∧ E' = mk a
/-- the due dict is made -/
theorem due_loop (n : Nat) (hc : ∀ s ∈ c, Out1 s) (hd : ∀ s ∈ d, Out1 s) (hcl : c.length ≤ 2) (hdl : d.length ≤ 2) (hw : word.length ≤ 5) (s0 W few j3 s6 s7 j10 j11 j12 j13 j14 : Sl) (h10 : j10.nlk = true) (h11 : j11.nlk = true) (Q : Out → Prop)
    (fin : ∀ (ks : List Txt) (j10 j11 : Sl), ks.Nodup → (∀ t, t ∈ ks ↔ ∃ u ∈ rootsB d word, t ∈ rootsB c u) → ks.length ≤ 4094 → j10.nlk = true → j11.nlk = true → Q (.nx ⟨[s0, W, few, j3, .sh (dC c), .sh (dC d), s6, s7, .sh (.str word), .ow (.dct false (kT ks)), j10, j11, j12, j13, j14], []⟩)) :
    WS (ctxOf T G (n + 7)) (.for (.nm 10) (.seq (.call "roots_of" (.cons (.var 5) (.cons (.var 8) .nil)))) b3_law) ⟨[s0, W, few, j3, .sh (dC c), .sh (dC d), s6, s7, .sh (.str word), .ow (.dct false []), j10, j11, j12, j13, j14], []⟩ Q := by
  have hr := run_roots (n + 1) d word (fun s hs => (hd s hs).2) (by omega) (by omega) (cntSuf hd (by omega) hw)
  obtain ⟨hcd, hcdl⟩ := lawSuf hc hd hcl hdl
  have hall : ∀ ks : List Txt, ks.Nodup → (∀ t ∈ ks, ∃ u ∈ rootsB d word, t ∈ rootsB c u) → ks.length ≤ 4094 := fun ks h1 h2 =>
    bound (fun s hs => (hcd s hs).1) hcdl hw ks h1 fun t ht => by
      obtain ⟨u, hu, ht⟩ := h2 t ht
      rw [roots_mem] at hu ht
      rw [formed_app, ht, hu]
  refine ws_for D.str (rootsB d word) (I := fun pre E' => ∃ (ks : List Txt) (j10 j11 : Sl), E' = ⟨[s0, W, few, j3, .sh (dC c), .sh (dC d), s6, s7, .sh (.str word), .ow (.dct false (kT ks)), j10, j11, j12, j13, j14], []⟩ ∧ ks.Nodup ∧ (∀ t, t ∈ ks ↔ ∃ u ∈ pre, t ∈ rootsB c u) ∧ j10.nlk = true ∧ j11.nlk = true) (l := none)
    (E1 := ⟨[s0, W, few, j3, .sh (dC c), .sh (dC d), s6, s7, .sh (.str word), .ow (.dct false []), j10, j11, j12, j13, j14], []⟩) (by walk_at "fi") ⟨[], j10, j11, rfl, by simp, by simp, h10, h11⟩ ?_ ?_
  · rintro pre u post E hx ⟨ks, j10, j11, rfl, hn, hm, h10, h11⟩
    have hu : u ∈ rootsB d word := by rw [hx]; simp
    have hfu := roots_mem.mp hu
    have hul := part_len hd hfu
    have hr2 := run_roots (n + 1) c u (fun s hs => (hc s hs).2) (by omega) (by omega) (cntPart hc hd hcl hdl hw hfu)
    have hpre : ∀ x ∈ pre, x ∈ rootsB d word := fun x hx' => by rw [hx]; simp [hx']
    unfold b3_law
    simp only [WT, bindT, Env.free, Env.get, Env.put, List.getD_cons_succ, List.getD_cons_zero, h10, List.contains_nil, Bool.not_false, Bool.and_true, Bool.true_and, List.length_cons, List.length_nil, decide_true, if_true, List.set_cons_succ, List.set_cons_zero, WB_cons, WB_nil]
    refine ws_for D.str (rootsB c u) (I := fun pre' => ExI (fun a : List Txt × Sl => a.1.Nodup ∧ (∀ t, t ∈ a.1 ↔ t ∈ ks ∨ t ∈ pre') ∧ a.2.nlk = true) (fun a => ⟨[s0, W, few, j3, .sh (dC c), .sh (dC d), s6, s7, .sh (.str word), .ow (.dct false (kT a.1)), .sh (.str u), a.2, j12, j13, j14], []⟩)) (l := none)
      (E1 := ⟨[s0, W, few, j3, .sh (dC c), .sh (dC d), s6, s7, .sh (.str word), .ow (.dct false (kT ks)), .sh (.str u), j11, j12, j13, j14], []⟩) (by clear hr; walk_at "fi") ⟨(ks, j11), ⟨hn, by simp, h11⟩, rfl⟩ ?_ ?_
    · rintro pre' t post' E hx' ⟨⟨ks', j11⟩, ⟨hn', hm', h11⟩, rfl⟩
      have hkl : ks'.length ≤ 4094 := hall ks' hn' fun t ht => by
        rcases (hm' t).mp ht with h | h
        · obtain ⟨v, hv, ht⟩ := (hm t).mp h
          exact ⟨v, hpre v hv, ht⟩
        · exact ⟨u, hu, by rw [hx']; simp [h]⟩
      have hkp := kput_keys ks' t
      have hkl2 : (kT ks').length < 16777216 := by unfold kT; rw [List.length_map]; omega
      have hQ : ExI (fun a : List Txt × Sl => a.1.Nodup ∧ (∀ t_1, t_1 ∈ a.1 ↔ t_1 ∈ ks ∨ t_1 ∈ pre' ++ [t]) ∧ a.2.nlk = true) (fun a => ⟨[s0, W, few, j3, .sh (dC c), .sh (dC d), s6, s7, .sh (.str word), .ow (.dct false (kT a.1)), .sh (.str u), a.2, j12, j13, j14], []⟩) ⟨[s0, W, few, j3, .sh (dC c), .sh (dC d), s6, s7, .sh (.str word), .ow (.dct false (kT (putT ks' t))), .sh (.str u), .sh (.str t), j12, j13, j14], []⟩ :=
        ⟨(putT ks' t, .sh (.str t)), ⟨putT_nodup hn', fun v => by rw [putT_mem]; simp only [hm', List.mem_append, List.mem_singleton, or_assoc], rfl⟩, rfl⟩
      clear hm hm' hall hr hr2 hx hx' hkl
      unfold b2_law
      generalize ExI _ _ = J at *
      walk_at "fi"
    · rintro E' ⟨⟨ks', j11⟩, ⟨hn', hm', h11⟩, rfl⟩
      rw [show ∀ X, unlock X none = X from fun _ => rfl]
      simp only [cont_nx, WB_nil, Lp_nx]
      refine ⟨ks', .sh (.str u), j11, rfl, hn', fun t => ?_, rfl, h11⟩
      rw [hm' t, hm t]
      constructor
      · rintro (⟨v, hv, h⟩ | h)
        · exact ⟨v, by simp [hv], h⟩
        · exact ⟨u, by simp, h⟩
      · rintro ⟨v, hv, h⟩
        rcases List.mem_append.mp hv with hv | hv
        · exact .inl ⟨v, hv, h⟩
        · simp at hv; subst hv; exact .inr h
  · rintro E' ⟨ks, j10, j11, rfl, hn, hm, h10, h11⟩
    exact fin ks j10 j11 hn hm (hall ks hn fun t ht => (hm t).mp ht) h10 h11
end
end K04
end

section
set_option maxRecDepth 100000
set_option maxHeartbeats 4000000
namespace K04
open PySem L2 Fi Fi.R
local macro_rules | `(tactic| walk_at "fi") => `(tactic| simp [WB_cons, WB_nil, WS_asg, WS_par, WS_aug, WS_augIx, WS_setIx, WS_ex, WS_ret, WS_retN, WS_brk, WS_cnt, WS_pas, WS_ite, iteQ_some, iteT_t, iteT_f, cont_nx, cont_rt, cont_bk, cont_ct, Lp_nx, Lp_ct, Lp_rt, Lp_bk, Lw_nx, Lw_ct, Lw_rt, Lw_bk, WT, Done_rt, Done_nx, giveD_sh, giveD_ow, giveD_pk, finsD, rg0, rg1, rg2, rg3, rg4, rg5, rg6, evS, evE, evEs, evO, evT, evI, Env.get, Env.put, Env.vw, Env.rd, Env.tk, Env.tks, Env.free, Rs.fz, op2D, addD, subD, mulD, fdivD, modD, powD, cmpA, ordD, nlk_un, nlk_sh, nlk_ow, nlk_lk, isD, iopD, iaddD, inopD, iaddI, op1D, PR.rs, D.truth, D.len, ixD, ix, partD, cutD, revD, lenB, absB, intB, tupleB, listB, anyB, allB, isinstB, bltD, getB, mthD, mthTy, appendB, extendB, popB, mutD, mutTy, setD, D.key, DKey.ok, tyNames, D.tyName, tySub, lock, unlock, lkFree, seqD, puts, bindT, Tg.slots, wipeE, back, argsOf, lent, lentOk, Ar.pass, behind, dk_ss, dk_ii, dk_si, dk_is, bigLine, ownOk, mapOut, turnF, dictAt, lockVar, hide, unhide, bls, inD, D.isNon, List.lookup, ctx_call, io_swapped, io_near, io_changed_near, io_stepped, io_forms_on_way, io_formed, io_by_length, io_without_end, io_without_front, io_changes_back, io_made_beside, io_before_step, io_roots_of, io_root_of, io_law_draws, io_law_next, io_law_pick, io_law_same, io_law_step, io_law_chain, io_law_letters, io_law_all_letters, io_law, *])
theorem wb_skip {C : Fi.Ctx} {c : CE} {a r : CB} {E E' : Fi.Env} {Q : Out → Prop} (h : evE C c E = some (.sh (.bl false), E')) (h2 : WB C r E' Q) : WB C (.cons (.ite c a .nil) r) E Q := by
  rw [WB_cons, WS_ite, h, iteQ_some]
  show WB _ _ _ _
  rw [WB_nil, cont_nx]; exact h2
theorem eqv_lnil : D.eqv (.lst []) (.lst []) = some true := rfl
section
variable {c d : List R.St} {word : Txt}
/-- the roots by both are those that are due -/
theorem cond1 (n : Nat) (hc : ∀ s ∈ c, Out1 s) (hd : ∀ s ∈ d, Out1 s) (hcl : c.length ≤ 2) (hdl : d.length ≤ 2) (hw : word.length ≤ 5) (s0 W few j3 s6 s7 j10 j11 j12 j13 j14 : Sl) :
    evE (ctxOf T G (n + 7)) (.or (.not (.call "_law_same" (.cons (.call "roots_of" (.cons (.op2 .add (.var 4) (.var 5)) (.cons (.var 8) .nil))) (.cons (.var 9) .nil)))) (.not (.call "_law_same" (.cons (.call "root_of" (.cons (.op2 .add (.var 4) (.var 5)) (.cons (.var 8) .nil))) (.cons (.ifx (.op2 .ne (.var 9) (.tup .nil)) (.idx (.var 9) (.con (.int 0))) (.con .non)) .nil))))) ⟨[s0, W, few, j3, .sh (dC c), .sh (dC d), s6, s7, .sh (.str word), .sh (.tup ((rootsB (c ++ d) word).map .str)), j10, j11, j12, j13, j14], []⟩
      = some (.sh (.bl false), ⟨[s0, W, few, j3, .sh (dC c), .sh (dC d), s6, s7, .sh (.str word), .sh (.tup ((rootsB (c ++ d) word).map .str)), j10, j11, j12, j13, j14], []⟩) := by
  obtain ⟨hcd, hcdl⟩ := lawSuf hc hd hcl hdl
  have hr := run_roots (n + 1) (c ++ d) word (fun s hs => (hcd s hs).2) hcdl (by omega) (cntSuf hcd hcdl hw)
  have hr0 := run_root n (c ++ d) word (run_roots n (c ++ d) word (fun s hs => (hcd s hs).2) hcdl (by omega) (cntSuf hcd hcdl hw))
  have hlen : (rootsB (c ++ d) word).length ≤ 4094 := bound (fun s hs => (hcd s hs).1) hcdl hw _ (roots_nodup _ _) fun t ht => roots_mem.mp ht
  rw [dC_app] at hr hr0
  have hl2 : c.length + d.length ≤ 16777216 := by omega
  unfold dC
  generalize rootsB (c ++ d) word = R at *
  have hs1 := run_same (T := T) (G := G) rfl (n + 6) (.tup (R.map .str)) (gd_keys R) (by rw [sz_keys]; omega)
  have hs2 := run_same (T := T) (G := G) rfl (n + 6) (rootD R) (by cases R <;> rfl) (by cases R <;> simp [rootD, Fi.sz])
  have hq := eqv_nilT (gds_str R)
  clear hc hd hcd hcdl hlen hcl hdl
  cases R with
  | nil =>
    unfold rootD at hs2 hr0
    simp only [List.map_nil] at *
    walk_at "fi"
  | cons t R =>
    unfold rootD at hs2 hr0
    simp only [List.map_cons] at *
    walk_at "fi"
/-- each root makes the word again; what makes it is a root -/
theorem cond2 (n : Nat) (hc : ∀ s ∈ c, Out1 s) (hd : ∀ s ∈ d, Out1 s) (hcl : c.length ≤ 2) (hdl : d.length ≤ 2) (hw : word.length ≤ 5) (few : List Txt) (hfew : ∀ t ∈ few, t.length ≤ 3) (hfl : few.length ≤ 1000) (s0 W j3 s6 s7 j10 j11 j12 j13 j14 : Sl) :
    evE (ctxOf T G (n + 7)) (.or (.op2 .ne k2_law (.lst .nil)) (.op2 .ne k1_law (.lst .nil))) ⟨[s0, W, .sh (.lst (few.map .str)), j3, .sh (dC c), .sh (dC d), s6, s7, .sh (.str word), .sh (.tup ((rootsB (c ++ d) word).map .str)), j10, j11, j12, j13, j14], []⟩
      = some (.sh (.bl false), ⟨[s0, W, .sh (.lst (few.map .str)), j3, .sh (dC c), .sh (dC d), s6, s7, .sh (.str word), .sh (.tup ((rootsB (c ++ d) word).map .str)), j10, j11, j12, j13, j14], []⟩) := by
  obtain ⟨hcd, hcdl⟩ := lawSuf hc hd hcl hdl
  have hlen : (rootsB (c ++ d) word).length ≤ 4094 := bound (fun s hs => (hcd s hs).1) hcdl hw _ (roots_nodup _ _) fun t ht => roots_mem.mp ht
  have hmem : ∀ t, t ∈ rootsB (c ++ d) word ↔ formed (c ++ d) t = word := fun t => roots_mem
  have hF : ∀ t : Txt, t.length ≤ 100 → Fi.run T G (n + 2 + 5) "formed" [(false, dC (c ++ d)), (false, .str t)] = some (.sh (.str (formed (c ++ d) t)), [.sh (dC (c ++ d)), .sh (.str t)]) := fun t ht => run_formed (n + 2) (c ++ d) t (fun s hs => (hcd s hs).2) (by omega) ht
  have hl2 : c.length + d.length ≤ 16777216 := by omega
  have hpl : ∀ t, formed (c ++ d) t = word → t.length ≤ 100 := fun t ht => by have := part_len hcd ht; omega
  rw [dC_app] at hF
  unfold dC
  generalize formed (c ++ d) = F at *
  generalize rootsB (c ++ d) word = R at *
  have hk2 : evE (ctxOf T G (n + 7)) k2_law ⟨[s0, W, .sh (.lst (few.map .str)), j3, .sh (.tup (c.map dSt)), .sh (.tup (d.map dSt)), s6, s7, .sh (.str word), .sh (.tup (R.map .str)), j10, j11, j12, j13, j14], []⟩ = some (.ow (.lst []), ⟨[s0, W, .sh (.lst (few.map .str)), j3, .sh (.tup (c.map dSt)), .sh (.tup (d.map dSt)), s6, s7, .sh (.str word), .sh (.tup (R.map .str)), j10, j11, j12, j13, j14], []⟩) := by
    unfold k2_law
    have e : ([] : List D) = (R.filter fun t => !decide (F t = word)).map .str := by
      rw [List.filter_eq_nil_iff.mpr fun t ht => by simp [(hmem t).mp ht]]; rfl
    rw [e]
    refine cmpV_filter D.str D.str (fun t => !decide (F t = word)) R rfl rfl rfl rfl (fun t ht => ?_) (by unfold bigLine; omega) rfl
    have h1 := (hmem t).mp ht
    have h2 := hF t (hpl t h1)
    rw [h1] at h2
    clear hmem hF hpl
    walk_at "fi"
  have hk1 : evE (ctxOf T G (n + 7)) k1_law ⟨[s0, W, .sh (.lst (few.map .str)), j3, .sh (.tup (c.map dSt)), .sh (.tup (d.map dSt)), s6, s7, .sh (.str word), .sh (.tup (R.map .str)), j10, j11, j12, j13, j14], []⟩ = some (.ow (.lst []), ⟨[s0, W, .sh (.lst (few.map .str)), j3, .sh (.tup (c.map dSt)), .sh (.tup (d.map dSt)), s6, s7, .sh (.str word), .sh (.tup (R.map .str)), j10, j11, j12, j13, j14], []⟩) := by
    unfold k1_law
    have e : ([] : List D) = (few.filter fun t => decide (F t = word) && !decide (t ∈ R)).map .str := by
      rw [List.filter_eq_nil_iff.mpr fun t ht => by simp only [hmem]; simp]; rfl
    rw [e]
    refine cmpV_filter D.str D.str (fun t => decide (F t = word) && !decide (t ∈ R)) few rfl rfl rfl rfl (fun t ht => ?_) (by unfold bigLine; omega) rfl
    have h2 := hF t (by have := hfew t ht; omega)
    have h3 := in_strs t R
    clear hmem hF hpl
    by_cases h1 : F t = word
    · by_cases h4 : t ∈ R
      · walk_at "fi"
      · walk_at "fi"
    · walk_at "fi"
  have h0 := eqv_lnil
  clear hmem hF hpl hc hd hcd hfew
  generalize k1_law = kk1 at *
  generalize k2_law = kk2 at *
  walk_at "fi"
/-- one word's turn -/
theorem word_ok (n : Nat) (hc : ∀ s ∈ c, Out1 s) (hd : ∀ s ∈ d, Out1 s) (hcl : c.length ≤ 2) (hdl : d.length ≤ 2) (hwl : word.length ≤ 1000) (few : List Txt) (hfew : ∀ t ∈ few, t.length ≤ 3) (hfl : few.length ≤ 1000) (s0 W j3 s6 s7 j8 j9 j10 j11 j12 j13 j14 : Sl) (h8 : j8.nlk = true) (h9 : j9.nlk = true) (h10 : j10.nlk = true) (h11 : j11.nlk = true) (h12 : j12.nlk = true) (h13 : j13.nlk = true) (h14 : j14.nlk = true) (Q : Out → Prop)
    (fin : Keep2 s0 W (.sh (.lst (few.map .str))) j3 (.sh (dC c)) (.sh (dC d)) s6 s7 Q) :
    WT (ctxOf T G (n + 7)) (.nm 8) b4_law (.str word) ⟨[s0, W, .sh (.lst (few.map .str)), j3, .sh (dC c), .sh (dC d), s6, s7, j8, j9, j10, j11, j12, j13, j14], []⟩ Q := by
  have hwl2 : word.length ≤ 16777216 := by omega
  unfold b4_law
  by_cases hw : word.length ≤ 5
  · have h5 : ¬ ((5 : Int) < word.length) := by omega
    simp only [WT, bindT, Env.free, Env.get, Env.put, List.getD_cons_succ, List.getD_cons_zero, h8, List.contains_nil, Bool.not_false, Bool.and_true, Bool.true_and, List.length_cons, List.length_nil, decide_true, if_true, List.set_cons_succ, List.set_cons_zero]
    refine wb_skip (E' := ⟨[s0, W, .sh (.lst (few.map .str)), j3, .sh (dC c), .sh (dC d), s6, s7, .sh (.str word), j9, j10, j11, j12, j13, j14], []⟩) (by walk_at "fi") ?_
    rw [WB_cons, WS_asg]
    refine ⟨.nx ⟨[s0, W, .sh (.lst (few.map .str)), j3, .sh (dC c), .sh (dC d), s6, s7, .sh (.str word), .ow (.dct false []), j10, j11, j12, j13, j14], []⟩, by walk_at "fi", ?_⟩
    rw [cont_nx, WB_cons]
    refine due_loop n hc hd hcl hdl hw _ _ _ _ _ _ _ _ _ _ _ h10 h11 _ ?_
    intro ks j10 j11 hn hm hkl h10 h11
    have hR := roots_due hn hm
    have hk3 : evE (ctxOf T G (n + 7)) k3_law ⟨[s0, W, .sh (.lst (few.map .str)), j3, .sh (dC c), .sh (dC d), s6, s7, .sh (.str word), .ow (.dct false (kT ks)), j10, j11, j12, j13, j14], []⟩ = some (.ow (.lst (ks.map keyT)), ⟨[s0, W, .sh (.lst (few.map .str)), j3, .sh (dC c), .sh (dC d), s6, s7, .sh (.str word), .ow (.dct false (kT ks)), j10, j11, j12, j13, j14], []⟩) := by
      unfold k3_law
      have e : ks.map keyT = (kT ks).map (fun kv => match kv.1 with | .s t => keyT t | _ => .non) := by unfold kT; rw [List.map_map]; rfl
      rw [e]
      refine cmpD_map _ rfl rfl (fun x hx => ?_) (by unfold bigLine kT; rw [List.length_map]; omega) rfl
      unfold kT at hx
      rw [List.mem_map] at hx
      obtain ⟨t, ht, rfl⟩ := hx
      obtain ⟨u, hu, ht⟩ := (hm t).mp ht
      have htl : t.length ≤ 16777216 := by
        have h1 := part_len hd (roots_mem.mp hu)
        have h2 := part_len hc (roots_mem.mp ht)
        omega
      have hd' : DKey.d (.s t) = .str t := rfl
      clear fin hR hm
      unfold keyT
      walk_at "fi"
    have hs4 : sortB [.lst (ks.map keyT)] = some (.fr (.lst ((rootsB (c ++ d) word).map keyT))) := by
      show sortC _ = _
      rw [sort_keys, hR]
    have hrl : (rootsB (c ++ d) word).length ≤ 4094 := by rw [← hR]; unfold srt; rw [List.length_mergeSort]; exact hkl
    have hk4 : evE (ctxOf T G (n + 7)) k4_law ⟨[s0, W, .sh (.lst (few.map .str)), j3, .sh (dC c), .sh (dC d), s6, s7, .sh (.str word), .ow (.dct false (kT ks)), j10, j11, j12, j13, j14], []⟩ = some (.ow (.lst ((rootsB (c ++ d) word).map .str)), ⟨[s0, W, .sh (.lst (few.map .str)), j3, .sh (dC c), .sh (dC d), s6, s7, .sh (.str word), .ow (.dct false (kT ks)), j10, j11, j12, j13, j14], []⟩) := by
      unfold k4_law
      refine cmp_map keyT D.str (rootsB (c ++ d) word) (l := none) (E1 := ⟨[s0, W, .sh (.lst (few.map .str)), j3, .sh (dC c), .sh (dC d), s6, s7, .sh (.str word), .ow (.dct false (kT ks)), j10, j11, j12, j13, j14], []⟩) ?_ rfl (fun t _ => ?_) (by unfold bigLine; omega) rfl
      · clear fin hR hm
        generalize k3_law = kk at *
        walk_at "fi"
      · unfold keyT
        clear fin hR hm
        walk_at "fi"
    rw [cont_nx, WB_cons, WS_asg]
    refine ⟨.nx ⟨[s0, W, .sh (.lst (few.map .str)), j3, .sh (dC c), .sh (dC d), s6, s7, .sh (.str word), .sh (.tup ((rootsB (c ++ d) word).map .str)), j10, j11, j12, j13, j14], []⟩, ?_, ?_⟩
    · clear fin hR hm
      generalize k4_law = kk at *
      walk_at "fi"
    rw [cont_nx]
    refine wb_skip (cond1 n hc hd hcl hdl hw _ _ _ _ _ _ _ _ _ _ _) ?_
    refine wb_skip (cond2 n hc hd hcl hdl hw few hfew hfl _ _ _ _ _ _ _ _ _ _) ?_
    rw [WB_cons]
    refine ws_for dSt (c ++ d) (I := fun pre E' => ∃ j12 : Sl, E' = ⟨[s0, W, .sh (.lst (few.map .str)), j3, .sh (dC c), .sh (dC d), s6, s7, .sh (.str word), .sh (.tup ((rootsB (c ++ d) word).map .str)), j10, j11, j12, j13, j14], []⟩ ∧ j12.nlk = true) (l := none)
      (E1 := ⟨[s0, W, .sh (.lst (few.map .str)), j3, .sh (dC c), .sh (dC d), s6, s7, .sh (.str word), .sh (.tup ((rootsB (c ++ d) word).map .str)), j10, j11, j12, j13, j14], []⟩) ?_ ⟨j12, rfl, h12⟩ ?_ ?_
    · have hl2 : c.length + d.length ≤ 16777216 := by omega
      unfold dC
      clear fin hR hm hk3 hk4 hs4
      walk_at "fi"
    · rintro pre s post E hx ⟨j12, rfl, h12⟩
      have hs : Out1 s := (lawSuf hc hd hcl hdl).1 s (by rw [hx]; simp)
      have hb := run_bef (n + 2) s word hs.2 (by omega)
      have hr := run_roots (n + 1) [s] word (fun x hx => by simp at hx; rw [hx]; exact hs.2) (by simp) (by simp; omega) (cntSuf (fun x hx => by simp at hx; rw [hx]; exact hs) (by simp) hw)
      rw [roots_one] at hr
      have hlb : (bef s word).length ≤ 4094 := bound (c := [s]) (fun x hx => by simp at hx; rw [hx]; exact hs.1) (by simp) hw _ (bef_nodup _ _) fun t ht => bef_mem.mp ht
      have e1 : dC [s] = .tup [dSt s] := rfl
      rw [e1] at hr
      generalize bef s word = B at *
      have hsm := run_same (T := T) (G := G) rfl (n + 6) (.tup (B.map .str)) (gd_keys B) (by rw [sz_keys]; omega)
      unfold b1_law
      clear fin hR hm hc hd hx hfew hk3 hk4 hs4
      walk_at "fi"
    · rintro E' ⟨j12, rfl, h12⟩
      rw [cont_nx, WB_nil]
      exact (fin _ _ _ _ _ _ _ rfl rfl h10 h11 h12 h13 h14).1
  · have h5 : (5 : Int) < word.length := by omega
    have hf := (fin (.sh (.str word)) j9 j10 j11 j12 j13 j14 rfl h9 h10 h11 h12 h13 h14).2
    clear fin
    walk_at "fi"
end
end K04
end

section
set_option maxRecDepth 100000
set_option maxHeartbeats 4000000
namespace K04
open PySem L2 Fi Fi.R
local macro_rules | `(tactic| walk_at "fi") => `(tactic| simp [WB_cons, WB_nil, WS_asg, WS_par, WS_aug, WS_augIx, WS_setIx, WS_ex, WS_ret, WS_retN, WS_brk, WS_cnt, WS_pas, WS_ite, iteQ_some, iteT_t, iteT_f, cont_nx, cont_rt, cont_bk, cont_ct, Lp_nx, Lp_ct, Lp_rt, Lp_bk, Lw_nx, Lw_ct, Lw_rt, Lw_bk, WT, Done_rt, Done_nx, giveD_sh, giveD_ow, giveD_pk, finsD, rg0, rg1, rg2, rg3, rg4, rg5, rg6, evS, evE, evEs, evO, evT, evI, Env.get, Env.put, Env.vw, Env.rd, Env.tk, Env.tks, Env.free, Rs.fz, op2D, addD, subD, mulD, fdivD, modD, powD, cmpA, ordD, nlk_un, nlk_sh, nlk_ow, nlk_lk, isD, iopD, iaddD, inopD, iaddI, op1D, PR.rs, D.truth, D.len, ixD, ix, partD, cutD, revD, lenB, absB, intB, tupleB, listB, anyB, allB, isinstB, bltD, getB, mthD, mthTy, appendB, extendB, popB, mutD, mutTy, setD, D.key, DKey.ok, tyNames, D.tyName, tySub, lock, unlock, lkFree, seqD, puts, bindT, Tg.slots, wipeE, back, argsOf, lent, lentOk, Ar.pass, behind, dk_ss, dk_ii, dk_si, dk_is, bigLine, ownOk, mapOut, turnF, dictAt, lockVar, hide, unhide, bls, inD, D.isNon, List.lookup, ctx_call, io_swapped, io_near, io_changed_near, io_stepped, io_forms_on_way, io_formed, io_by_length, io_without_end, io_without_front, io_changes_back, io_made_beside, io_before_step, io_roots_of, io_root_of, io_law_draws, io_law_next, io_law_pick, io_law_same, io_law_step, io_law_chain, io_law_letters, io_law_all_letters, io_law, *])
theorem kput0 (x : D) : kput (.s [97, 116]) (.int 0) (kput (.s [100, 114, 97, 119, 115]) x []) = [(kDraws, x), (kAt, .int 0)] := rfl
theorem way_tail (c : List R.St) (t : Txt) : cut ((way c t).map D.str) (some 1) none = (wayB c t).map .str := by
  rw [show (1 : Int) = ((1 : Nat) : Int) from rfl, cut_from]; rfl
theorem law_first (T' : Str → Option Fn) (n : Nat) (ns ds : List Int) (few : List Txt) (hds : Fi.run T' G (n + 6 + 1) "_law_draws" [(false, .scr ns), (false, .int 3000)] = some (.ow (.lst (ds.map .int)), [.sh (.scr ns), .sh (.int 3000)])) (i1 : ∀ n, (ctxOf T' G n).io "_law_draws" = [false, false]) (i2 : ∀ n, (ctxOf T' G n).io "_law_all_letters" = [false])  (hal : Fi.run T' G (n + 6 + 1) "_law_all_letters" [(false, .int 3)] = some (.sh (.lst (few.map .str)), [.sh (.int 3)])) (hk0 : ∀ x : D, kput (.s [97, 116]) (.int 0) (kput (.s [100, 114, 97, 119, 115]) x []) = [(kDraws, x), (kAt, .int 0)]) (rest : CB) (Q : Out → Prop) (hQ : WB (ctxOf T' G (n + 7)) rest ⟨[.sh (.scr ns), .ow (.dct false [(kDraws, .lst (ds.map .int)), (kAt, .int 0)]), .sh (.lst (few.map .str)), .un, .un, .un, .un, .un, .un, .un, .un, .un, .un, .un, .un], []⟩ Q) : WB (ctxOf T' G (n + 7)) (.cons (.asg (.nm 1) (.dsp [.s [100, 114, 97, 119, 115], .s [97, 116]] (.cons (.call "_law_draws" (.cons (.var 0) (.cons (.con (.int 3000)) .nil))) (.cons (.con (.int 0)) .nil)))) (.cons (.asg (.nm 2) (.call "_law_all_letters" (.cons (.con (.int 3)) .nil))) rest)) ⟨[.sh (.scr ns), .un, .un, .un, .un, .un, .un, .un, .un, .un, .un, .un, .un, .un, .un], []⟩ Q := by
  walk_at "fi"
section
variable {c d : List R.St}
theorem cond3 (n : Nat) (hc : ∀ s ∈ c, Out1 s) (hd : ∀ s ∈ d, Out1 s) (hcl : c.length ≤ 2) (hdl : d.length ≤ 2) (t : Txt) (ht : t.length ≤ 4) (s0 W few j3 s7 j8 j9 j10 j11 j12 j13 j14 : Sl) :
    evE (ctxOf T G (n + 7)) (.ifx (.op2 .lt (.blt .len (.cons (.call "formed" (.cons (.op2 .add (.var 4) (.var 5)) (.cons (.var 6) .nil))) .nil)) (.con (.int 6))) (.op2 .nin (.var 6) (.call "roots_of" (.cons (.op2 .add (.var 4) (.var 5)) (.cons (.call "formed" (.cons (.op2 .add (.var 4) (.var 5)) (.cons (.var 6) .nil))) .nil)))) (.con (.bl false))) ⟨[s0, W, few, j3, .sh (dC c), .sh (dC d), .sh (.str t), s7, j8, j9, j10, j11, j12, j13, j14], []⟩
      = some (.sh (.bl false), ⟨[s0, W, few, j3, .sh (dC c), .sh (dC d), .sh (.str t), s7, j8, j9, j10, j11, j12, j13, j14], []⟩) := by
  obtain ⟨hcd, hcdl⟩ := lawSuf hc hd hcl hdl
  have hF := run_formed (n + 2) (c ++ d) t (fun s hs => (hcd s hs).2) (by omega) (by omega)
  have hl2 : c.length + d.length ≤ 16777216 := by omega
  have hfl : (formed (c ++ d) t).length ≤ 16777216 := by have := formed_len (c := c ++ d) (fun s hs => (hcd s hs).2) t; omega
  rw [dC_app] at hF
  have i1 := io_formed
  have i2 := io_roots_of
  by_cases hw : (formed (c ++ d) t).length < 6
  · have hr := run_roots (n + 1) (c ++ d) (formed (c ++ d) t) (fun s hs => (hcd s hs).2) hcdl (by omega) (cntSuf hcd hcdl (by omega))
    rw [dC_app] at hr
    have hm : t ∈ rootsB (c ++ d) (formed (c ++ d) t) := roots_mem.mpr rfl
    have h3 := in_strs t (rootsB (c ++ d) (formed (c ++ d) t))
    rw [decide_eq_true hm] at h3
    have h6 : ((formed (c ++ d) t).length : Int) < 6 := by omega
    unfold dC
    clear hm hc hd hcd
    generalize rootsB (c ++ d) (formed (c ++ d) t) = R at *
    generalize formed (c ++ d) t = w at *
    generalize T = T' at *
    walk_at "fi"
  · have h6 : ¬ ((formed (c ++ d) t).length : Int) < 6 := by omega
    unfold dC
    clear hc hd hcd hw
    generalize formed (c ++ d) t = w at *
    generalize T = T' at *
    walk_at "fi"
theorem turn_ok (n : Nat) (ns : List Int) (ds : List Int) (few : List Txt) (hfew : ∀ t ∈ few, t.length ≤ 3) (hfl : few.length ≤ 1000) (k i : Nat) (j3 j4 j5 j6 j7 j8 j9 j10 j11 j12 j13 j14 : Sl) (h3 : j3.nlk = true) (h4 : j4.nlk = true) (h5 : j5.nlk = true) (h6 : j6.nlk = true) (h7 : j7.nlk = true) (h8 : j8.nlk = true) (h9 : j9.nlk = true) (h10 : j10.nlk = true) (h11 : j11.nlk = true) (h12 : j12.nlk = true) (h13 : j13.nlk = true) (h14 : j14.nlk = true) (Q : Out → Prop)
    (fin : ∀ (i : Nat) (j3 j4 j5 j6 j7 j8 j9 j10 j11 j12 j13 j14 : Sl), j3.nlk = true → j4.nlk = true → j5.nlk = true → j6.nlk = true → j7.nlk = true → j8.nlk = true → j9.nlk = true → j10.nlk = true → j11.nlk = true → j12.nlk = true → j13.nlk = true → j14.nlk = true → Q (.nx ⟨[.sh (.scr ns), .ow (Wd ds i []), .sh (.lst (few.map .str)), j3, j4, j5, j6, j7, j8, j9, j10, j11, j12, j13, j14], []⟩)) :
    WT (ctxOf T G (n + 7)) (.nm 3) b5_law (.int k) ⟨[.sh (.scr ns), .ow (Wd ds i []), .sh (.lst (few.map .str)), j3, j4, j5, j6, j7, j8, j9, j10, j11, j12, j13, j14], []⟩ Q := by
  obtain ⟨c, ia, hc, hcl, hrc⟩ := run_chain (n + 2) ds i
  obtain ⟨d, ib, hd, hdl, hrd⟩ := run_chain (n + 2) ds ia
  obtain ⟨t, ic, ht, hrt⟩ := run_letters (n + 3) ds ib 4 (by omega)
  obtain ⟨t2, id, ht2, hrt2⟩ := run_letters (n + 3) ds ic 5 (by omega)
  obtain ⟨hcd, hcdl⟩ := lawSuf hc hd hcl hdl
  have hF1 := run_formed (n + 2) c t (fun s hs => (hc s hs).2) (by omega) (by omega)
  have hml : (formed c t).length ≤ 8 := by have := formed_len (c := c) (fun s hs => (hc s hs).2) t; omega
  have hF2 := run_formed (n + 2) (c ++ d) t (fun s hs => (hcd s hs).2) (by omega) (by omega)
  have hF3 := run_formed (n + 2) d (formed c t) (fun s hs => (hd s hs).2) (by omega) (by omega)
  have hwl : (formed d (formed c t)).length ≤ 1000 := by have := formed_len (c := d) (fun s hs => (hd s hs).2) (formed c t); omega
  have hW1 := run_way (n + 3) c t (fun s hs => (hc s hs).2) (by omega) (by omega)
  have hW2 := run_way (n + 3) (c ++ d) t (fun s hs => (hcd s hs).2) (by omega) (by omega)
  have hW3 := run_way (n + 3) d (formed c t) (fun s hs => (hd s hs).2) (by omega) (by omega)
  have hcut := way_tail d (formed c t)
  have hwa : way (c ++ d) t = way c t ++ wayB d (formed c t) := by unfold way; rw [wayB_app]; rfl
  have hA := way_len c t
  have hB : (wayB d (formed c t)).length = d.length := by have := way_len d (formed c t); unfold way at this; simpa using this
  rw [dC_app, formed_app] at hF2
  rw [dC_app, hwa, List.map_append] at hW2
  have hl2 : c.length + d.length ≤ 16777216 := by omega
  have hs1 := run_same (T := T) (G := G) rfl (n + 6) (.str (formed d (formed c t))) rfl (by simp [Fi.sz])
  have hs2 := run_same (T := T) (G := G) rfl (n + 6) (.tup ((way c t).map D.str ++ (wayB d (formed c t)).map D.str)) (by rw [← List.map_append]; exact gd_keys _) (by rw [← List.map_append, sz_keys, List.length_append]; omega)
  have i1 := io_law_chain
  have i2 := io_law_letters
  have i3 := io_formed
  have i4 := io_forms_on_way
  have i5 := io_law_same
  -- up to the words
  have part1 : ∀ Q : Out → Prop, WB (ctxOf T G (n + 7)) (.cons (.for (.nm 8) (.seq (.tup (.cons (.call "formed" (.cons (.var 5) (.cons (.var 7) .nil))) (.cons (.call "_law_letters" (.cons (.var 1) (.cons (.con (.int 5)) .nil))) .nil)))) b4_law) (.cons (.ite (.ifx (.op2 .lt (.blt .len (.cons (.call "formed" (.cons (.op2 .add (.var 4) (.var 5)) (.cons (.var 6) .nil))) .nil)) (.con (.int 6))) (.op2 .nin (.var 6) (.call "roots_of" (.cons (.op2 .add (.var 4) (.var 5)) (.cons (.call "formed" (.cons (.op2 .add (.var 4) (.var 5)) (.cons (.var 6) .nil))) .nil)))) (.con (.bl false))) (.cons (.ret (.con (.bl false))) .nil) .nil) .nil)) ⟨[.sh (.scr ns), .ow (Wd ds ic []), .sh (.lst (few.map .str)), .sh (.int k), .sh (dC c), .sh (dC d), .sh (.str t), .sh (.str (formed c t)), j8, j9, j10, j11, j12, j13, j14], []⟩ Q →
      WT (ctxOf T G (n + 7)) (.nm 3) b5_law (.int k) ⟨[.sh (.scr ns), .ow (Wd ds i []), .sh (.lst (few.map .str)), j3, j4, j5, j6, j7, j8, j9, j10, j11, j12, j13, j14], []⟩ Q := by
    intro Q hQ
    rw [show ((4 : Nat) : Int) = 4 from rfl] at hrt
    unfold b5_law
    generalize hr : (CB.cons (.for (.nm 8) (.seq (.tup (.cons (.call "formed" (.cons (.var 5) (.cons (.var 7) .nil))) (.cons (.call "_law_letters" (.cons (.var 1) (.cons (.con (.int 5)) .nil))) .nil)))) b4_law) _) = rest at *
    have hAB : ((way c t).map D.str).length + ((wayB d (formed c t)).map D.str).length ≤ 16777216 := by rw [List.length_map, List.length_map]; omega
    unfold dC at *
    clear hr hc hd hcd hA hB hwa fin hrt2 hwl hml
    generalize (way c t).map D.str = A at *
    generalize (wayB d (formed c t)).map D.str = B at *
    generalize (way d (formed c t)).map D.str = C2 at *
    generalize formed d (formed c t) = w at *
    generalize formed c t = m at *
    generalize T = T' at *
    walk_at "fi"
  refine part1 Q ?_
  clear part1 hW1 hW2 hW3 hs2 hcut hF1 hF2 hs1 hwa hA hB hrc hrd hrt
  rw [WB_cons]
  refine ws_for D.str [formed d (formed c t), t2] (I := fun pre => ExI (fun a : Sl × Sl × Sl × Sl × Sl × Sl × Sl => a.1.nlk = true ∧ a.2.1.nlk = true ∧ a.2.2.1.nlk = true ∧ a.2.2.2.1.nlk = true ∧ a.2.2.2.2.1.nlk = true ∧ a.2.2.2.2.2.1.nlk = true ∧ a.2.2.2.2.2.2.nlk = true)
    (fun a => ⟨[.sh (.scr ns), .ow (Wd ds id []), .sh (.lst (few.map .str)), .sh (.int k), .sh (dC c), .sh (dC d), .sh (.str t), .sh (.str (formed c t)), a.1, a.2.1, a.2.2.1, a.2.2.2.1, a.2.2.2.2.1, a.2.2.2.2.2.1, a.2.2.2.2.2.2], []⟩)) (l := none)
    (E1 := ⟨[.sh (.scr ns), .ow (Wd ds id []), .sh (.lst (few.map .str)), .sh (.int k), .sh (dC c), .sh (dC d), .sh (.str t), .sh (.str (formed c t)), j8, j9, j10, j11, j12, j13, j14], []⟩) ?_ ⟨(j8, j9, j10, j11, j12, j13, j14), ⟨h8, h9, h10, h11, h12, h13, h14⟩, rfl⟩ ?_ ?_
  · rw [show ((5 : Nat) : Int) = 5 from rfl] at hrt2
    clear fin hc hd hcd hml hwl hfew
    generalize formed d (formed c t) = w at *
    generalize formed c t = m at *
    generalize T = T' at *
    walk_at "fi"
  · rintro pre w post E hx ⟨⟨k8, k9, k10, k11, k12, k13, k14⟩, ⟨g8, g9, g10, g11, g12, g13, g14⟩, rfl⟩
    have hww : w.length ≤ 1000 := by
      have hw : w ∈ [formed d (formed c t), t2] := by rw [hx]; simp
      simp only [List.mem_cons, List.not_mem_nil, or_false] at hw
      rcases hw with rfl | rfl
      · exact hwl
      · omega
    refine word_ok n hc hd hcl hdl hww few hfew hfl _ _ _ _ _ k8 k9 k10 k11 k12 k13 k14 g8 g9 g10 g11 g12 g13 g14 _ fun m8 m9 m10 m11 m12 m13 m14 e8 e9 e10 e11 e12 e13 e14 => ⟨?_, ?_⟩
    · rw [Lp_nx]; exact ⟨(m8, m9, m10, m11, m12, m13, m14), ⟨e8, e9, e10, e11, e12, e13, e14⟩, rfl⟩
    · rw [Lp_ct]; exact ⟨(m8, m9, m10, m11, m12, m13, m14), ⟨e8, e9, e10, e11, e12, e13, e14⟩, rfl⟩
  · rintro E' ⟨⟨k8, k9, k10, k11, k12, k13, k14⟩, ⟨g8, g9, g10, g11, g12, g13, g14⟩, rfl⟩
    rw [show ∀ X, unlock X none = X from fun _ => rfl, cont_nx]
    refine wb_skip (cond3 n hc hd hcl hdl t ht _ _ _ _ _ _ _ _ _ _ _ _) ?_
    rw [WB_nil]
    exact fin _ _ _ _ _ _ _ _ _ _ _ _ _ rfl rfl rfl rfl rfl g8 g9 g10 g11 g12 g13 g14
end
theorem law_runs0 (n : Nat) (ns : List Int) (hns : ns.length ≤ 63) : ∃ ss, Fi.run T G (n + 8) "law" [(false, .scr ns)] = some (.sh (.bl true), ss) := by
  have key : ∃ r ss, Fi.run T G (n + 8) "law" [(false, .scr ns)] = some (r, ss) ∧ r = .sh (.bl true) := by
    refine run_wb (fn := f_law) (E0 := ⟨[.sh (.scr ns), .un, .un, .un, .un, .un, .un, .un, .un, .un, .un, .un, .un, .un, .un], []⟩) (P := fun r ss => r = .sh (.bl true)) rfl rfl rfl ?_
    obtain ⟨ds, hds⟩ := run_draws (T := T) (G := G) rfl (n + 6) ns 3000 hns (by omega)
    obtain ⟨few, hfew, hfl, hal⟩ := run_all (n + 6)
    rw [show ((3000 : Nat) : Int) = 3000 from rfl] at hds
    have i1 := io_law_draws
    have i2 := io_law_all_letters
    show WB _ c_law _ _
    have first : ∀ Q : Out → Prop, WS (ctxOf T G (n + 7)) (.for (.nm 3) (.rng1 (.con (.int 12))) b5_law) ⟨[.sh (.scr ns), .ow (Wd ds 0 []), .sh (.lst (few.map .str)), .un, .un, .un, .un, .un, .un, .un, .un, .un, .un, .un, .un], []⟩ (cont (ctxOf T G (n + 7)) (.cons (.ret (.con (.bl true))) .nil) Q) → WB (ctxOf T G (n + 7)) c_law ⟨[.sh (.scr ns), .un, .un, .un, .un, .un, .un, .un, .un, .un, .un, .un, .un, .un, .un], []⟩ Q := by
      intro Q hQ
      exact law_first T n ns ds few hds i1 i2 hal kput0 _ Q (by rw [WB_cons]; exact hQ)
    refine first _ ?_
    refine ws_for (fun (k : Nat) => D.int k) (List.range 12) (I := fun pre => ExI (fun a : Nat × (Sl × Sl × Sl × Sl × Sl × Sl) × (Sl × Sl × Sl × Sl × Sl × Sl) => a.2.1.1.nlk = true ∧ a.2.1.2.1.nlk = true ∧ a.2.1.2.2.1.nlk = true ∧ a.2.1.2.2.2.1.nlk = true ∧ a.2.1.2.2.2.2.1.nlk = true ∧ a.2.1.2.2.2.2.2.nlk = true ∧ a.2.2.1.nlk = true ∧ a.2.2.2.1.nlk = true ∧ a.2.2.2.2.1.nlk = true ∧ a.2.2.2.2.2.1.nlk = true ∧ a.2.2.2.2.2.2.1.nlk = true ∧ a.2.2.2.2.2.2.2.nlk = true)
        (fun a => ⟨[.sh (.scr ns), .ow (Wd ds a.1 []), .sh (.lst (few.map .str)), a.2.1.1, a.2.1.2.1, a.2.1.2.2.1, a.2.1.2.2.2.1, a.2.1.2.2.2.2.1, a.2.1.2.2.2.2.2, a.2.2.1, a.2.2.2.1, a.2.2.2.2.1, a.2.2.2.2.2.1, a.2.2.2.2.2.2.1, a.2.2.2.2.2.2.2], []⟩)) (l := none) (E1 := ⟨[.sh (.scr ns), .ow (Wd ds 0 []), .sh (.lst (few.map .str)), .un, .un, .un, .un, .un, .un, .un, .un, .un, .un, .un, .un], []⟩)
      (evI_rng (n := 12) (by rw [evE]; rfl) (by omega)) ⟨(0, (.un, .un, .un, .un, .un, .un), (.un, .un, .un, .un, .un, .un)), ⟨rfl, rfl, rfl, rfl, rfl, rfl, rfl, rfl, rfl, rfl, rfl, rfl⟩, rfl⟩ ?_ ?_
    · rintro pre k post E hx ⟨⟨i, ⟨j3, j4, j5, j6, j7, j8⟩, ⟨j9, j10, j11, j12, j13, j14⟩⟩, ⟨h3, h4, h5, h6, h7, h8, h9, h10, h11, h12, h13, h14⟩, rfl⟩
      exact turn_ok n ns ds few hfew hfl k i j3 j4 j5 j6 j7 j8 j9 j10 j11 j12 j13 j14 h3 h4 h5 h6 h7 h8 h9 h10 h11 h12 h13 h14 _ fun i j3 j4 j5 j6 j7 j8 j9 j10 j11 j12 j13 j14 h3 h4 h5 h6 h7 h8 h9 h10 h11 h12 h13 h14 => ⟨(i, (j3, j4, j5, j6, j7, j8), (j9, j10, j11, j12, j13, j14)), ⟨h3, h4, h5, h6, h7, h8, h9, h10, h11, h12, h13, h14⟩, rfl⟩
    · rintro E' ⟨⟨i, ⟨j3, j4, j5, j6, j7, j8⟩, ⟨j9, j10, j11, j12, j13, j14⟩⟩, _, rfl⟩
      rw [show ∀ X, unlock X none = X from fun _ => rfl, cont_nx]
      clear hfew hds hal i1 i2 first
      walk_at "fi"
  obtain ⟨r, ss, h, rfl⟩ := key
  exact ⟨ss, h⟩
end K04
end

section
namespace K04
open PySem PySem.Spec L2 Fi
def at_ (i : Nat) : Stmt := PySem.Challenge.pw_meaningsled_k04_whole_roots_by_halves.main.body.getD i (.Pass ⟨0, 0, 0, 0⟩)
def fs : List (Str × Nat) := [("swapped", 3), ("near", 3), ("changed_near", 2), ("stepped", 2), ("forms_on_way", 2), ("formed", 2), ("by_length", 1), ("without_end", 2), ("without_front", 2), ("changes_back", 2), ("made_beside", 4), ("before_step", 2), ("roots_of", 2), ("root_of", 2), ("_law_draws", 2), ("_law_next", 2), ("_law_pick", 2), ("_law_same", 2), ("_law_step", 2), ("_law_chain", 3), ("_law_letters", 2), ("_law_all_letters", 1), ("law", 1)]
def n_swapped : List Str := ["sign", "one", "other"]
def p_swapped : List Str := ["sign", "one", "other"]
theorem s_swapped : FnScope n_swapped p_swapped (defScope (at_ 1)) := ⟨rfl, rfl, rfl, by decide +kernel, rfl, by decide +kernel, by decide +kernel⟩
theorem t_swapped : trB n_swapped fs (defScope (at_ 1)).names (defScope (at_ 1)).names 60 (defBody (at_ 1)) = some c_swapped := by kernel_rfl
def n_near : List Str := ["text", "place", "step"]
def p_near : List Str := ["text", "place", "step"]
theorem s_near : FnScope n_near p_near (defScope (at_ 2)) := ⟨rfl, rfl, rfl, by decide +kernel, rfl, by decide +kernel, by decide +kernel⟩
theorem t_near : trB n_near fs (defScope (at_ 2)).names (defScope (at_ 2)).names 60 (defBody (at_ 2)) = some c_near := by kernel_rfl
def n_changed_near : List Str := ["step", "text", "_", "one", "other", "signs", "found", "place", "beside", "is_so"]
def p_changed_near : List Str := ["step", "text"]
theorem s_changed_near : FnScope n_changed_near p_changed_near (defScope (at_ 3)) := ⟨rfl, rfl, rfl, by decide +kernel, rfl, by decide +kernel, by decide +kernel⟩
theorem t_changed_near : trB n_changed_near fs (defScope (at_ 3)).names (defScope (at_ 3)).names 60 (defBody (at_ 3)) = some c_changed_near := by kernel_rfl
def n_stepped : List Str := ["step", "text", "word", "many", "sign"]
def p_stepped : List Str := ["step", "text"]
theorem s_stepped : FnScope n_stepped p_stepped (defScope (at_ 4)) := ⟨rfl, rfl, rfl, by decide +kernel, rfl, by decide +kernel, by decide +kernel⟩
theorem t_stepped : trB n_stepped fs (defScope (at_ 4)).names (defScope (at_ 4)).names 60 (defBody (at_ 4)) = some c_stepped := by kernel_rfl
def n_forms_on_way : List Str := ["chain", "text", "found", "step"]
def p_forms_on_way : List Str := ["chain", "text"]
theorem s_forms_on_way : FnScope n_forms_on_way p_forms_on_way (defScope (at_ 5)) := ⟨rfl, rfl, rfl, by decide +kernel, rfl, by decide +kernel, by decide +kernel⟩
theorem t_forms_on_way : trB n_forms_on_way fs (defScope (at_ 5)).names (defScope (at_ 5)).names 60 (defBody (at_ 5)) = some c_forms_on_way := by kernel_rfl
def n_formed : List Str := ["chain", "text"]
def p_formed : List Str := ["chain", "text"]
theorem s_formed : FnScope n_formed p_formed (defScope (at_ 6)) := ⟨rfl, rfl, rfl, by decide +kernel, rfl, by decide +kernel, by decide +kernel⟩
theorem t_formed : trB n_formed fs (defScope (at_ 6)).names (defScope (at_ 6)).names 60 (defBody (at_ 6)) = some c_formed := by kernel_rfl
def n_by_length : List Str := ["texts", "rows", "text", "_"]
def p_by_length : List Str := ["texts"]
theorem s_by_length : FnScope n_by_length p_by_length (defScope (at_ 8)) := ⟨rfl, rfl, rfl, by decide +kernel, rfl, by decide +kernel, by decide +kernel⟩
theorem t_by_length : trB n_by_length fs (defScope (at_ 8)).names (defScope (at_ 8)).names 60 (defBody (at_ 8)) = some c_by_length := by kernel_rfl
def n_without_end : List Str := ["part", "word", "many"]
def p_without_end : List Str := ["part", "word"]
theorem s_without_end : FnScope n_without_end p_without_end (defScope (at_ 9)) := ⟨rfl, rfl, rfl, by decide +kernel, rfl, by decide +kernel, by decide +kernel⟩
theorem t_without_end : trB n_without_end fs (defScope (at_ 9)).names (defScope (at_ 9)).names 60 (defBody (at_ 9)) = some c_without_end := by kernel_rfl
def n_without_front : List Str := ["part", "word"]
def p_without_front : List Str := ["part", "word"]
theorem s_without_front : FnScope n_without_front p_without_front (defScope (at_ 10)) := ⟨rfl, rfl, rfl, by decide +kernel, rfl, by decide +kernel, by decide +kernel⟩
theorem t_without_front : trB n_without_front fs (defScope (at_ 10)).names (defScope (at_ 10)).names 60 (defBody (at_ 10)) = some c_without_front := by kernel_rfl
def n_changes_back : List Str := ["step", "word", "_", "one", "other", "signs", "rows", "is_before", "places", "place", "longer", "row", "beside", "lets", "sign", "able"]
def p_changes_back : List Str := ["step", "word"]
theorem s_changes_back : FnScope n_changes_back p_changes_back (defScope (at_ 11)) := ⟨rfl, rfl, rfl, by decide +kernel, rfl, by decide +kernel, by decide +kernel⟩
theorem t_changes_back : trB n_changes_back fs (defScope (at_ 11)).names (defScope (at_ 11)).names 60 (defBody (at_ 11)) = some c_changes_back := by kernel_rfl
def n_made_beside : List Str := ["sign", "one", "other", "lets"]
def p_made_beside : List Str := ["sign", "one", "other", "lets"]
theorem s_made_beside : FnScope n_made_beside p_made_beside (defScope (at_ 12)) := ⟨rfl, rfl, rfl, by decide +kernel, rfl, by decide +kernel, by decide +kernel⟩
theorem t_made_beside : trB n_made_beside fs (defScope (at_ 12)).names (defScope (at_ 12)).names 60 (defBody (at_ 12)) = some c_made_beside := by kernel_rfl
def n_before_step : List Str := ["step", "word", "kind", "able", "sign", "many", "text"]
def p_before_step : List Str := ["step", "word"]
theorem s_before_step : FnScope n_before_step p_before_step (defScope (at_ 13)) := ⟨rfl, rfl, rfl, by decide +kernel, rfl, by decide +kernel, by decide +kernel⟩
theorem t_before_step : trB n_before_step fs (defScope (at_ 13)).names (defScope (at_ 13)).names 60 (defBody (at_ 13)) = some c_before_step := by kernel_rfl
def n_roots_of : List Str := ["chain", "word", "rows", "step", "row", "text"]
def p_roots_of : List Str := ["chain", "word"]
theorem s_roots_of : FnScope n_roots_of p_roots_of (defScope (at_ 14)) := ⟨rfl, rfl, rfl, by decide +kernel, rfl, by decide +kernel, by decide +kernel⟩
theorem t_roots_of : trB n_roots_of fs (defScope (at_ 14)).names (defScope (at_ 14)).names 60 (defBody (at_ 14)) = some c_roots_of := by kernel_rfl
def n_root_of : List Str := ["chain", "word", "rows"]
def p_root_of : List Str := ["chain", "word"]
theorem s_root_of : FnScope n_root_of p_root_of (defScope (at_ 15)) := ⟨rfl, rfl, rfl, by decide +kernel, rfl, by decide +kernel, by decide +kernel⟩
theorem t_root_of : trB n_root_of fs (defScope (at_ 15)).names (defScope (at_ 15)).names 60 (defBody (at_ 15)) = some c_root_of := by kernel_rfl
def n_law_draws : List Str := ["script", "many", "draws", "mixed", "k", "cell", "rest", "turn"]
def p_law_draws : List Str := ["script", "many"]
theorem s_law_draws : FnScope n_law_draws p_law_draws (defScope (at_ 17)) := ⟨rfl, rfl, rfl, by decide +kernel, rfl, by decide +kernel, by decide +kernel⟩
theorem t_law_draws : trB n_law_draws fs (defScope (at_ 17)).names (defScope (at_ 17)).names 60 (defBody (at_ 17)) = some c_law_draws := by kernel_rfl
def n_law_next : List Str := ["w", "many"]
def p_law_next : List Str := ["w", "many"]
theorem s_law_next : FnScope n_law_next p_law_next (defScope (at_ 18)) := ⟨rfl, rfl, rfl, by decide +kernel, rfl, by decide +kernel, by decide +kernel⟩
theorem t_law_next : trB n_law_next fs (defScope (at_ 18)).names (defScope (at_ 18)).names 60 (defBody (at_ 18)) = some c_law_next := by kernel_rfl
def n_law_pick : List Str := ["w", "rows"]
def p_law_pick : List Str := ["w", "rows"]
theorem s_law_pick : FnScope n_law_pick p_law_pick (defScope (at_ 19)) := ⟨rfl, rfl, rfl, by decide +kernel, rfl, by decide +kernel, by decide +kernel⟩
theorem t_law_pick : trB n_law_pick fs (defScope (at_ 19)).names (defScope (at_ 19)).names 60 (defBody (at_ 19)) = some c_law_pick := by kernel_rfl
def n_law_same : List Str := ["seen", "due", "waiting", "one", "other", "keys", "key", "k"]
def p_law_same : List Str := ["seen", "due"]
theorem s_law_same : FnScope n_law_same p_law_same (defScope (at_ 20)) := ⟨rfl, rfl, rfl, by decide +kernel, rfl, by decide +kernel, by decide +kernel⟩
theorem t_law_same : trB n_law_same fs (defScope (at_ 20)).names (defScope (at_ 20)).names 60 (defBody (at_ 20)) = some c_law_same := by kernel_rfl
def n_law_step : List Str := ["w", "doubles", "kind", "a", "b"]
def p_law_step : List Str := ["w", "doubles"]
theorem s_law_step : FnScope n_law_step p_law_step (defScope (at_ 21)) := ⟨rfl, rfl, rfl, by decide +kernel, rfl, by decide +kernel, by decide +kernel⟩
theorem t_law_step : trB n_law_step fs (defScope (at_ 21)).names (defScope (at_ 21)).names 60 (defBody (at_ 21)) = some c_law_step := by kernel_rfl
def n_law_chain : List Str := ["w", "most", "doubles", "k"]
def p_law_chain : List Str := ["w", "most", "doubles"]
theorem s_law_chain : FnScope n_law_chain p_law_chain (defScope (at_ 22)) := ⟨rfl, rfl, rfl, by decide +kernel, rfl, by decide +kernel, by decide +kernel⟩
theorem t_law_chain : trB n_law_chain fs (defScope (at_ 22)).names (defScope (at_ 22)).names 60 (defBody (at_ 22)) = some c_law_chain := by kernel_rfl
def n_law_letters : List Str := ["w", "most", "k"]
def p_law_letters : List Str := ["w", "most"]
theorem s_law_letters : FnScope n_law_letters p_law_letters (defScope (at_ 23)) := ⟨rfl, rfl, rfl, by decide +kernel, rfl, by decide +kernel, by decide +kernel⟩
theorem t_law_letters : trB n_law_letters fs (defScope (at_ 23)).names (defScope (at_ 23)).names 60 (defBody (at_ 23)) = some c_law_letters := by kernel_rfl
def n_law_all_letters : List Str := ["size", "found", "last", "turn", "longer", "own", "sign"]
def p_law_all_letters : List Str := ["size"]
theorem s_law_all_letters : FnScope n_law_all_letters p_law_all_letters (defScope (at_ 24)) := ⟨rfl, rfl, rfl, by decide +kernel, rfl, by decide +kernel, by decide +kernel⟩
theorem t_law_all_letters : trB n_law_all_letters fs (defScope (at_ 24)).names (defScope (at_ 24)).names 60 (defBody (at_ 24)) = some c_law_all_letters := by kernel_rfl
def n_law : List Str := ["script", "w", "few", "time", "one", "other", "text", "middle", "word", "due", "part", "root", "step", "many", "own"]
def p_law : List Str := ["script"]
theorem s_law : FnScope n_law p_law (defScope (at_ 25)) := ⟨rfl, rfl, rfl, by decide +kernel, rfl, by decide +kernel, by decide +kernel⟩
theorem t_law : trB n_law fs (defScope (at_ 25)).names (defScope (at_ 25)).names 60 (defBody (at_ 25)) = some c_law := by kernel_rfl
def pp : List (List Str) := [p_swapped, p_near, p_changed_near, p_stepped, p_forms_on_way, p_formed, p_by_length, p_without_end, p_without_front, p_changes_back, p_made_beside, p_before_step, p_roots_of, p_root_of, p_law_draws, p_law_next, p_law_pick, p_law_same, p_law_step, p_law_chain, p_law_letters, p_law_all_letters, p_law]
section
variable {K : PySem.W.Frag} {h : Heap} {mg : Str → Option Value}
theorem d_swapped (X : K.In h) (G : h.Ns mainGlobals mg) (s : Stand K "swapped" (at_ 1)) : ∃ d, DefIs K mg fs "swapped" f_swapped d ∧ d.2.2 = p_swapped := s.is X G s_swapped (fun _ _ _ _ _ _ us hl => match us, hl with | [_, _, _], _ => rfl) t_swapped rfl rfl
theorem d_near (X : K.In h) (G : h.Ns mainGlobals mg) (s : Stand K "near" (at_ 2)) : ∃ d, DefIs K mg fs "near" f_near d ∧ d.2.2 = p_near := s.is X G s_near (fun _ _ _ _ _ _ us hl => match us, hl with | [_, _, _], _ => rfl) t_near rfl rfl
theorem d_changed_near (X : K.In h) (G : h.Ns mainGlobals mg) (s : Stand K "changed_near" (at_ 3)) : ∃ d, DefIs K mg fs "changed_near" f_changed_near d ∧ d.2.2 = p_changed_near := s.is X G s_changed_near (fun _ _ _ _ _ _ us hl => match us, hl with | [_, _], _ => rfl) t_changed_near rfl rfl
theorem d_stepped (X : K.In h) (G : h.Ns mainGlobals mg) (s : Stand K "stepped" (at_ 4)) : ∃ d, DefIs K mg fs "stepped" f_stepped d ∧ d.2.2 = p_stepped := s.is X G s_stepped (fun _ _ _ _ _ _ us hl => match us, hl with | [_, _], _ => rfl) t_stepped rfl rfl
theorem d_forms_on_way (X : K.In h) (G : h.Ns mainGlobals mg) (s : Stand K "forms_on_way" (at_ 5)) : ∃ d, DefIs K mg fs "forms_on_way" f_forms_on_way d ∧ d.2.2 = p_forms_on_way := s.is X G s_forms_on_way (fun _ _ _ _ _ _ us hl => match us, hl with | [_, _], _ => rfl) t_forms_on_way rfl rfl
theorem d_formed (X : K.In h) (G : h.Ns mainGlobals mg) (s : Stand K "formed" (at_ 6)) : ∃ d, DefIs K mg fs "formed" f_formed d ∧ d.2.2 = p_formed := s.is X G s_formed (fun _ _ _ _ _ _ us hl => match us, hl with | [_, _], _ => rfl) t_formed rfl rfl
theorem d_by_length (X : K.In h) (G : h.Ns mainGlobals mg) (s : Stand K "by_length" (at_ 8)) : ∃ d, DefIs K mg fs "by_length" f_by_length d ∧ d.2.2 = p_by_length := s.is X G s_by_length (fun _ _ _ _ _ _ us hl => match us, hl with | [_], _ => rfl) t_by_length rfl rfl
theorem d_without_end (X : K.In h) (G : h.Ns mainGlobals mg) (s : Stand K "without_end" (at_ 9)) : ∃ d, DefIs K mg fs "without_end" f_without_end d ∧ d.2.2 = p_without_end := s.is X G s_without_end (fun _ _ _ _ _ _ us hl => match us, hl with | [_, _], _ => rfl) t_without_end rfl rfl
theorem d_without_front (X : K.In h) (G : h.Ns mainGlobals mg) (s : Stand K "without_front" (at_ 10)) : ∃ d, DefIs K mg fs "without_front" f_without_front d ∧ d.2.2 = p_without_front := s.is X G s_without_front (fun _ _ _ _ _ _ us hl => match us, hl with | [_, _], _ => rfl) t_without_front rfl rfl
theorem d_changes_back (X : K.In h) (G : h.Ns mainGlobals mg) (s : Stand K "changes_back" (at_ 11)) : ∃ d, DefIs K mg fs "changes_back" f_changes_back d ∧ d.2.2 = p_changes_back := s.is X G s_changes_back (fun _ _ _ _ _ _ us hl => match us, hl with | [_, _], _ => rfl) t_changes_back rfl rfl
theorem d_made_beside (X : K.In h) (G : h.Ns mainGlobals mg) (s : Stand K "made_beside" (at_ 12)) : ∃ d, DefIs K mg fs "made_beside" f_made_beside d ∧ d.2.2 = p_made_beside := s.is X G s_made_beside (fun _ _ _ _ _ _ us hl => match us, hl with | [_, _, _, _], _ => rfl) t_made_beside rfl rfl
theorem d_before_step (X : K.In h) (G : h.Ns mainGlobals mg) (s : Stand K "before_step" (at_ 13)) : ∃ d, DefIs K mg fs "before_step" f_before_step d ∧ d.2.2 = p_before_step := s.is X G s_before_step (fun _ _ _ _ _ _ us hl => match us, hl with | [_, _], _ => rfl) t_before_step rfl rfl
theorem d_roots_of (X : K.In h) (G : h.Ns mainGlobals mg) (s : Stand K "roots_of" (at_ 14)) : ∃ d, DefIs K mg fs "roots_of" f_roots_of d ∧ d.2.2 = p_roots_of := s.is X G s_roots_of (fun _ _ _ _ _ _ us hl => match us, hl with | [_, _], _ => rfl) t_roots_of rfl rfl
theorem d_root_of (X : K.In h) (G : h.Ns mainGlobals mg) (s : Stand K "root_of" (at_ 15)) : ∃ d, DefIs K mg fs "root_of" f_root_of d ∧ d.2.2 = p_root_of := s.is X G s_root_of (fun _ _ _ _ _ _ us hl => match us, hl with | [_, _], _ => rfl) t_root_of rfl rfl
theorem d_law_draws (X : K.In h) (G : h.Ns mainGlobals mg) (s : Stand K "_law_draws" (at_ 17)) : ∃ d, DefIs K mg fs "_law_draws" f_law_draws d ∧ d.2.2 = p_law_draws := s.is X G s_law_draws (fun _ _ _ _ _ _ us hl => match us, hl with | [_, _], _ => rfl) t_law_draws rfl rfl
theorem d_law_next (X : K.In h) (G : h.Ns mainGlobals mg) (s : Stand K "_law_next" (at_ 18)) : ∃ d, DefIs K mg fs "_law_next" f_law_next d ∧ d.2.2 = p_law_next := s.is X G s_law_next (fun _ _ _ _ _ _ us hl => match us, hl with | [_, _], _ => rfl) t_law_next rfl rfl
theorem d_law_pick (X : K.In h) (G : h.Ns mainGlobals mg) (s : Stand K "_law_pick" (at_ 19)) : ∃ d, DefIs K mg fs "_law_pick" f_law_pick d ∧ d.2.2 = p_law_pick := s.is X G s_law_pick (fun _ _ _ _ _ _ us hl => match us, hl with | [_, _], _ => rfl) t_law_pick rfl rfl
theorem d_law_same (X : K.In h) (G : h.Ns mainGlobals mg) (s : Stand K "_law_same" (at_ 20)) : ∃ d, DefIs K mg fs "_law_same" f_law_same d ∧ d.2.2 = p_law_same := s.is X G s_law_same (fun _ _ _ _ _ _ us hl => match us, hl with | [_, _], _ => rfl) t_law_same rfl rfl
theorem d_law_step (X : K.In h) (G : h.Ns mainGlobals mg) (s : Stand K "_law_step" (at_ 21)) : ∃ d, DefIs K mg fs "_law_step" f_law_step d ∧ d.2.2 = p_law_step := s.is X G s_law_step (fun _ _ _ _ _ _ us hl => match us, hl with | [_, _], _ => rfl) t_law_step rfl rfl
theorem d_law_chain (X : K.In h) (G : h.Ns mainGlobals mg) (s : Stand K "_law_chain" (at_ 22)) : ∃ d, DefIs K mg fs "_law_chain" f_law_chain d ∧ d.2.2 = p_law_chain := s.is X G s_law_chain (fun _ _ _ _ _ _ us hl => match us, hl with | [_, _, _], _ => rfl) t_law_chain rfl rfl
theorem d_law_letters (X : K.In h) (G : h.Ns mainGlobals mg) (s : Stand K "_law_letters" (at_ 23)) : ∃ d, DefIs K mg fs "_law_letters" f_law_letters d ∧ d.2.2 = p_law_letters := s.is X G s_law_letters (fun _ _ _ _ _ _ us hl => match us, hl with | [_, _], _ => rfl) t_law_letters rfl rfl
theorem d_law_all_letters (X : K.In h) (G : h.Ns mainGlobals mg) (s : Stand K "_law_all_letters" (at_ 24)) : ∃ d, DefIs K mg fs "_law_all_letters" f_law_all_letters d ∧ d.2.2 = p_law_all_letters := s.is X G s_law_all_letters (fun _ _ _ _ _ _ us hl => match us, hl with | [_], _ => rfl) t_law_all_letters rfl rfl
theorem d_law (X : K.In h) (G : h.Ns mainGlobals mg) (s : Stand K "law" (at_ 25)) : ∃ d, DefIs K mg fs "law" f_law d ∧ d.2.2 = p_law := s.is X G s_law (fun _ _ _ _ _ _ us hl => match us, hl with | [_], _ => rfl) t_law rfl rfl
theorem defs_are (X : K.In h) (G : h.Ns mainGlobals mg) (s0 : Stand K "swapped" (at_ 1)) (s1 : Stand K "near" (at_ 2)) (s2 : Stand K "changed_near" (at_ 3)) (s3 : Stand K "stepped" (at_ 4)) (s4 : Stand K "forms_on_way" (at_ 5)) (s5 : Stand K "formed" (at_ 6)) (s6 : Stand K "by_length" (at_ 8)) (s7 : Stand K "without_end" (at_ 9)) (s8 : Stand K "without_front" (at_ 10)) (s9 : Stand K "changes_back" (at_ 11)) (s10 : Stand K "made_beside" (at_ 12)) (s11 : Stand K "before_step" (at_ 13)) (s12 : Stand K "roots_of" (at_ 14)) (s13 : Stand K "root_of" (at_ 15)) (s14 : Stand K "_law_draws" (at_ 17)) (s15 : Stand K "_law_next" (at_ 18)) (s16 : Stand K "_law_pick" (at_ 19)) (s17 : Stand K "_law_same" (at_ 20)) (s18 : Stand K "_law_step" (at_ 21)) (s19 : Stand K "_law_chain" (at_ 22)) (s20 : Stand K "_law_letters" (at_ 23)) (s21 : Stand K "_law_all_letters" (at_ 24)) (s22 : Stand K "law" (at_ 25)) : DefsAre K mg fs tab pp :=
  .cons (d_swapped X G s0) (.cons (d_near X G s1) (.cons (d_changed_near X G s2) (.cons (d_stepped X G s3) (.cons (d_forms_on_way X G s4) (.cons (d_formed X G s5) (.cons (d_by_length X G s6) (.cons (d_without_end X G s7) (.cons (d_without_front X G s8) (.cons (d_changes_back X G s9) (.cons (d_made_beside X G s10) (.cons (d_before_step X G s11) (.cons (d_roots_of X G s12) (.cons (d_root_of X G s13) (.cons (d_law_draws X G s14) (.cons (d_law_next X G s15) (.cons (d_law_pick X G s16) (.cons (d_law_same X G s17) (.cons (d_law_step X G s18) (.cons (d_law_chain X G s19) (.cons (d_law_letters X G s20) (.cons (d_law_all_letters X G s21) (.cons (d_law X G s22) (.nil)))))))))))))))))))))))
theorem blts_are (X : K.In h) (G : h.Ns mainGlobals mg) (z0 : PySem.W.nsIn K mainGlobals "len" = some none) (z1 : PySem.W.nsIn K mainGlobals "abs" = some none) (z2 : PySem.W.nsIn K mainGlobals "int" = some none) (z3 : PySem.W.nsIn K mainGlobals "tuple" = some none) (z4 : PySem.W.nsIn K mainGlobals "list" = some none) (z5 : PySem.W.nsIn K mainGlobals "any" = some none) (z6 : PySem.W.nsIn K mainGlobals "all" = some none) (z7 : PySem.W.nsIn K mainGlobals "isinstance" = some none) (z8 : PySem.W.nsIn K mainGlobals "range" = some none) (z9 : PySem.W.nsIn K mainGlobals "sorted" = some none) (z10 : PySem.W.nsIn K mainGlobals "set" = some none) (z11 : PySem.W.nsIn K mainGlobals "str" = some none) (z12 : PySem.W.nsIn K mainGlobals "dict" = some none) (z13 : PySem.W.nsIn K mainGlobals "enumerate" = some none) (z14 : PySem.W.nsIn K mainGlobals "zip" = some none) (z15 : PySem.W.nsIn K mainGlobals "max" = some none) (z16 : PySem.W.nsIn K mainGlobals "min" = some none) (z17 : PySem.W.nsIn K mainGlobals "sum" = some none) (z18 : PySem.W.nsIn K mainGlobals "bool" = some none) : ∀ x ∈ blts, mg x = none := by
  intro x hx
  simp only [blts, List.mem_cons, List.not_mem_nil, or_false] at hx
  rcases hx with rfl | rfl | rfl | rfl | rfl | rfl | rfl | rfl | rfl | rfl | rfl | rfl | rfl | rfl | rfl | rfl | rfl | rfl | rfl
  · exact PySem.W.mg_none_of X G z0
  · exact PySem.W.mg_none_of X G z1
  · exact PySem.W.mg_none_of X G z2
  · exact PySem.W.mg_none_of X G z3
  · exact PySem.W.mg_none_of X G z4
  · exact PySem.W.mg_none_of X G z5
  · exact PySem.W.mg_none_of X G z6
  · exact PySem.W.mg_none_of X G z7
  · exact PySem.W.mg_none_of X G z8
  · exact PySem.W.mg_none_of X G z9
  · exact PySem.W.mg_none_of X G z10
  · exact PySem.W.mg_none_of X G z11
  · exact PySem.W.mg_none_of X G z12
  · exact PySem.W.mg_none_of X G z13
  · exact PySem.W.mg_none_of X G z14
  · exact PySem.W.mg_none_of X G z15
  · exact PySem.W.mg_none_of X G z16
  · exact PySem.W.mg_none_of X G z17
  · exact PySem.W.mg_none_of X G z18
theorem glo_are : ∀ x d, gl.lookup x = some d → ∃ v u, mg x = some u ∧ RelV v u ∧ Rep K (fun _ => none) d v := fun x d h => by cases h
end
end K04
end

theorem K04.law_runs : ∀ ns : List Int, ns.length ≤ 63 → ∃ ss, Fi.run (fun f => K04.tab.lookup f) (fun x => K04.gl.lookup x) 40 ("law" : PySem.Str) [(false, .scr ns)] = some (.sh (.bl true), ss) := fun ns h => K04.law_runs0 32 ns h
open PySem PySem.W PyProof.Rows
set_option maxHeartbeats 0 in
theorem PySem.Challenge.cw_meaningsled_k04_whole_roots_by_halves_holds : PySem.Challenge.rw_meaningsled_k04_whole_roots_by_halves.Holds := by
  w_on; o_law; k_head; (case hw => w_witness2)
  k_fill
  refine L2.walk_of (l := PySem.Challenge.rw_meaningsled_k04_whole_roots_by_halves) (n := 63) (k := 40) (x := "script") (CX := fun _ => L2.CX0) (sp := fun w => Fi.spL _) rfl (by decide) rfl ⟨rfl, by decide, by decide⟩ (fun w h Y => PySem.W.kIn_of Y) ?F (fun _ _ a ns hl _ hS => ⟨a, ns, rfl, hS, hl, fun _ => rfl⟩) (fun _ _ _ _ _ h => h)
  case F =>
    intro w mg fa h KX G hmg
    have hlaw : mg ("law" : PySem.Str) = some (.ref fa) := hmg
    clear hmg
    refine' Fi.law_end (K04.defs_are KX G ?s0 ?s1 ?s2 ?s3 ?s4 ?s5 ?s6 ?s7 ?s8 ?s9 ?s10 ?s11 ?s12 ?s13 ?s14 ?s15 ?s16 ?s17 ?s18 ?s19 ?s20 ?s21 ?s22) (K04.blts_are KX G ?z0 ?z1 ?z2 ?z3 ?z4 ?z5 ?z6 ?z7 ?z8 ?z9 ?z10 ?z11 ?z12 ?z13 ?z14 ?z15 ?z16 ?z17 ?z18) K04.glo_are hlaw rfl rfl rfl K04.law_runs
    (case s0 => refine' Fi.stand_mk ?a ?b ?c ?d; (case a => k_is); (case b => k_is); (case c => k_is); (case d => k_is))
    (case s1 => refine' Fi.stand_mk ?a ?b ?c ?d; (case a => k_is); (case b => k_is); (case c => k_is); (case d => k_is))
    (case s2 => refine' Fi.stand_mk ?a ?b ?c ?d; (case a => k_is); (case b => k_is); (case c => k_is); (case d => k_is))
    (case s3 => refine' Fi.stand_mk ?a ?b ?c ?d; (case a => k_is); (case b => k_is); (case c => k_is); (case d => k_is))
    (case s4 => refine' Fi.stand_mk ?a ?b ?c ?d; (case a => k_is); (case b => k_is); (case c => k_is); (case d => k_is))
    (case s5 => refine' Fi.stand_mk ?a ?b ?c ?d; (case a => k_is); (case b => k_is); (case c => k_is); (case d => k_is))
    (case s6 => refine' Fi.stand_mk ?a ?b ?c ?d; (case a => k_is); (case b => k_is); (case c => k_is); (case d => k_is))
    (case s7 => refine' Fi.stand_mk ?a ?b ?c ?d; (case a => k_is); (case b => k_is); (case c => k_is); (case d => k_is))
    (case s8 => refine' Fi.stand_mk ?a ?b ?c ?d; (case a => k_is); (case b => k_is); (case c => k_is); (case d => k_is))
    (case s9 => refine' Fi.stand_mk ?a ?b ?c ?d; (case a => k_is); (case b => k_is); (case c => k_is); (case d => k_is))
    (case s10 => refine' Fi.stand_mk ?a ?b ?c ?d; (case a => k_is); (case b => k_is); (case c => k_is); (case d => k_is))
    (case s11 => refine' Fi.stand_mk ?a ?b ?c ?d; (case a => k_is); (case b => k_is); (case c => k_is); (case d => k_is))
    (case s12 => refine' Fi.stand_mk ?a ?b ?c ?d; (case a => k_is); (case b => k_is); (case c => k_is); (case d => k_is))
    (case s13 => refine' Fi.stand_mk ?a ?b ?c ?d; (case a => k_is); (case b => k_is); (case c => k_is); (case d => k_is))
    (case s14 => refine' Fi.stand_mk ?a ?b ?c ?d; (case a => k_is); (case b => k_is); (case c => k_is); (case d => k_is))
    (case s15 => refine' Fi.stand_mk ?a ?b ?c ?d; (case a => k_is); (case b => k_is); (case c => k_is); (case d => k_is))
    (case s16 => refine' Fi.stand_mk ?a ?b ?c ?d; (case a => k_is); (case b => k_is); (case c => k_is); (case d => k_is))
    (case s17 => refine' Fi.stand_mk ?a ?b ?c ?d; (case a => k_is); (case b => k_is); (case c => k_is); (case d => k_is))
    (case s18 => refine' Fi.stand_mk ?a ?b ?c ?d; (case a => k_is); (case b => k_is); (case c => k_is); (case d => k_is))
    (case s19 => refine' Fi.stand_mk ?a ?b ?c ?d; (case a => k_is); (case b => k_is); (case c => k_is); (case d => k_is))
    (case s20 => refine' Fi.stand_mk ?a ?b ?c ?d; (case a => k_is); (case b => k_is); (case c => k_is); (case d => k_is))
    (case s21 => refine' Fi.stand_mk ?a ?b ?c ?d; (case a => k_is); (case b => k_is); (case c => k_is); (case d => k_is))
    (case s22 => refine' Fi.stand_mk ?a ?b ?c ?d; (case a => k_is); (case b => k_is); (case c => k_is); (case d => k_is))
    (case z0 => k_is)
    (case z1 => k_is)
    (case z2 => k_is)
    (case z3 => k_is)
    (case z4 => k_is)
    (case z5 => k_is)
    (case z6 => k_is)
    (case z7 => k_is)
    (case z8 => k_is)
    (case z9 => k_is)
    (case z10 => k_is)
    (case z11 => k_is)
    (case z12 => k_is)
    (case z13 => k_is)
    (case z14 => k_is)
    (case z15 => k_is)
    (case z16 => k_is)
    (case z17 => k_is)
    (case z18 => k_is)
